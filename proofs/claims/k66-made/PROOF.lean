import PyProof.Rows.All
import Wide.All
import OpenK.AllK
import Wide.FinOn
import HandS.ForMost
import HandS.Wide
import HandS.IsInst
import HandS.Defaults
import HandS.EndBits
import HandS.Exc
import HandS.Flow
import HandS.TupAny
import HandS.TupMul
import HandS.Zip
import HandS.Lambda
import KE.KDictKeyed
import HandS.Style
import HandS.TryMany
import HandS.ExcOwn
import HandS.WordsExc
import HandS.EndOwn
import HandS.Deep
import HandS.MakeKwOnly
import HandS.MakeKw
import KE.KUnpackStar
import KE.DataCmp
import HandS.ExcValue
import PyProof.Rows.TupIter
import HandS.Strs
import KE.KDictZip
import KE.GoesZip
import KE.GoesMore
import HandS.More
import HandS.ExcInit
import HandS.ExcField
import HandS.FStr
import KE.KDflt
import KE.KDictPairs
import HandS.CallLocal
import HandS.ReCall
import PyProof.FactsAll.tuple_2
import PyProof.FactsAll.tuple_3
import KE.KEqNest
import PyProof.NeKinds
import HandS.DictComp
import KE.DataMinMax
import HandS.SortKw
import HandS.Set
import HandS.SetTxt0
import HandS.SetBool
import KE.GoesEnum
import PyProof.EnumMake
import PyProof.Draws
import HandS.Text
import KE.KUnpack
import KE.SortKeyHeap
import PyProof.Rows.SetFrom
import HandS.OwnEq
import PyProof.InstEq
import HandS.Finally
import HandS.Small
import KE.DataFind
import HandS.Sort
import PyProof.ListRange
import KE.KIndexOf
import KE.KDictList
import HandS.SuiteRaise
import HandS.RaiseFrom
import HandS.ExcInitHot
import KE.KTryMore
import KE.KExcIs
import HandS.ExcIs
import PySem.Challenge.RW_onepour_k66_refusals_made_by_hand
set_option Elab.async false
set_option linter.all false
set_option maxRecDepth 100000
set_option maxHeartbeats 4000000
namespace M3
open PySem L2
section
variable {X:Cx}
def newT (H:Hp) (xs:List V) (Q:VK):Prop:=∀(p:Addr) (o:Obj),H p=none→o.dict=none→Q (.ref p) (upd H p (.frz o (.tup xs)))
theorem frz_tup {P:Program} {w:World} {H:Hp} {h:Heap} {xs:List V} {its:List Value} {o:Obj} (ho:o={cls:=.type "tuple",data:=.seq its.toArray}) (hz:xs.length≤sizeLine) (r:Vals xs its):ObjOk P w H (h.push o) h.objs.size (.frz o (.tup xs)):=by
 subst ho
 exact ⟨Heap.get?_push_size _ rfl,hz,its,r,PyProof.Rows.IsTup.new _ _⟩
theorem lay_tup {pins:List (Addr×Obj)} {σ:St} {H:Hp} {s:Shared} {xs:List V} {its:List Value} {Q:VK} (I:Inv X pins σ H s) (hz:xs.length≤sizeLine) (r:Vals xs its) (q:newT H xs Q):
 EP X pins σ Q (.ref s.heap.objs.size) {s with heap:=s.heap.push {cls:=.type "tuple",data:=.seq its.toArray} }:=
 ⟨.ref s.heap.objs.size,_,I.laid (t':=s.toks) (fun _ _ e=>Heap.get?_push_of_some _ e) (Nat.le_refl _) (frz_tup rfl hz r),rfl,q _ _ (I.hok.fresh (Nat.le_refl _)) rfl⟩
def tTup (t:TA):TE:=fun σ H Q=>t σ H fun xs H1=>xs.length≤sizeLine∧newT H1 xs Q
theorem pe_tup {x1} {es:List Expr} {t:TA} {pos:Pos} (h:PA X es t):PE X (.Tuple es x1 pos) (tTup t):=by
 constructor
 intro pins s σ H Q I hq
 refine wpAny_Tuple_spliced (thn (h.run pos pins s σ H _ I hq) ?_)
 rintro us s1 ⟨xs,H1,I1,r,z,q⟩
 exact ⟨by rw [←r.length];exact z,lay_tup I1 z r q⟩
def rSlF (K:PySem.W.Frag):V→Option Int→Option Int→Hp→VK→Prop:=fun x lo hi H Q=>∃a xs,x= .ref a∧SqT K H a xs∧
 ((HT.sIx xs.length 0 lo=0∧HT.sIx xs.length xs.length hi=xs.length)→Q (.ref a) H)∧(¬(HT.sIx xs.length 0 lo=0∧HT.sIx xs.length xs.length hi=xs.length)→newT H (cutV xs lo hi) Q)
theorem sl_tupF:SlR X (rSlF X.K):=by
 intro pins s σ H x v vl vu lo hi sl Q I rx hs pl pu h
 obtain ⟨a,xs,rfl,hx,q1,q2⟩:=h
 cases rx
 obtain ⟨its,r,ht,hz⟩:=I.tuple hx
 have el:its.toArray.size=xs.length:=by rw [List.size_toArray];exact r.length.symm
 refine ⟨"tuple",_,PyProof.Rows.slot_tuple_getitem.lookup,ht.typeIs, ?_⟩
 by_cases hw:HT.sIx xs.length 0 lo=0∧HT.sIx xs.length xs.length hi=xs.length
 · exact getItem_tuple_whole ht hs pl pu (by rw [el];exact hw) ⟨.ref a,H,I,rfl,q1 hw⟩
 · refine HT.getItem_tuple_cut ht hs pl pu (by rw [el];exact hw) ?_ (by rw [el];exact hz)
   rw [el]
   exact lay_tup I (Nat.le_trans (cutV_length xs lo hi) hz) ((r.drop (HT.sIx xs.length 0 lo)).take (HT.sIx xs.length xs.length hi-HT.sIx xs.length 0 lo)) (q2 hw)
def rCatF (K:PySem.W.Frag):R2:=fun x y H Q=>∃a b xs ys,x= .ref a∧y= .ref b∧SqT K H a xs∧SqT K H b ys∧xs.length+ys.length≤sizeLine∧
 (xs=[]→Q (.ref b) H)∧(xs≠[]→ys=[]→Q (.ref a) H)∧(xs≠[]→ys≠[]→newT H (xs++ys) Q)
theorem op_catF:OpR X (binaryOp .Add) (rCatF X.K):=by
 intro pins s σ H x y v u Q I rx ry h
 obtain ⟨a,b,xs,ys,rfl,rfl,ha,hb,hz,q0,q1,q2⟩:=h
 cases rx
 cases ry
 obtain ⟨its,r1,p1,_⟩:=I.tuple ha
 obtain ⟨jts,r2,p2,_⟩:=I.tuple hb
 by_cases hx:xs=[]
 · subst hx
   cases r1
   exact cat_tup0 p1 p2 ⟨.ref b,H,I,rfl,q0 rfl⟩
 · refine HT.cat_tup p1 p2 (fun z=>hx (r1.nil_iff.mp z)) (fun z=>⟨.ref a,H,I,rfl,q1 hx (r2.nil_iff.mp z)⟩) (fun z=> ?_) (by rw [←r1.length, ←r2.length];exact hz)
   exact lay_tup I (by rw [List.length_append];exact hz) (r1.append r2) (q2 hx fun w=>z (r2.nil_iff.mpr w))
end
end M3
namespace M3
open PySem L2
inductive T where
 | non | bl (b:Bool) | int (i:Int) | str (x:Str) | ty (n:String) | ref (a:Addr)
 | tup (xs:List T) | lst (xs:List T) | dic (kvs:List (Key×T)) | ins (C:Addr) (fs:List (Str×T))
 | kd (w:World) (es:List (T×T))
def vis:HO→Bool
 | .tbl _=>false
 | _=>true
def out (S:List Addr) (H:Hp):Hp:=fun a=>if a∈S then none else H a
theorem out_in {S:List Addr} {H:Hp} {a:Addr} (h:a∈S):out S H a=none:=by unfold out;rw [if_pos h]
theorem out_out {S:List Addr} {H:Hp} {a:Addr} (h:a ∉ S):out S H a=H a:=by unfold out;rw [if_neg h]
theorem out_some {S:List Addr} {H:Hp} {a:Addr} {o:HO} (h:out S H a=some o):H a=some o∧a ∉ S:=by
 by_cases e:a∈S
 · rw [out_in e] at h;cases h
 · rw [out_out e] at h;exact ⟨h,e⟩
def hid (S:List Addr) (H:Hp):Hp:=fun a=>(out S H a).bind fun o=>if vis o=true then some o else none
theorem hid_in {S:List Addr} {H:Hp} {a:Addr} (h:a∈S):hid S H a=none:=by unfold hid;rw [out_in h];rfl
theorem hid_all {S:List Addr} {H:Hp} {a:Addr} {o:HO} (h:hid S H a=some o):H a=some o∧a ∉ S∧vis o=true:=by
 unfold hid at h
 cases e:out S H a with
 | none=>rw [e] at h;cases h
 | some u=>
   rw [e] at h
   have h:(if vis u=true then some u else none)=some o:=h
   by_cases v:vis u=true
   · rw [if_pos v] at h
     cases h
     exact ⟨(out_some e).1,(out_some e).2,v⟩
   · rw [if_neg v] at h;cases h
theorem hid_some {S:List Addr} {H:Hp} {a:Addr} {o:HO} (h:hid S H a=some o):H a=some o∧a ∉ S:=⟨(hid_all h).1,(hid_all h).2.1⟩
theorem hid_vis {S:List Addr} {H:Hp} {a:Addr} {o:HO} (h:hid S H a=some o):vis o=true:=(hid_all h).2.2
theorem hid_mk {S:List Addr} {H:Hp} {a:Addr} {o:HO} (h:H a=some o) (n:a ∉ S) (v:vis o=true:=by first | rfl | exact hid_vis (by assumption)):hid S H a=some o:=by
 unfold hid
 rw [out_out n,h]
 show (if vis o=true then some o else none)=some o
 rw [if_pos v]
theorem hid_same {S:List Addr} {H:Hp}:Same (hid S H) H:=fun _ _ h=>(hid_some h).1
theorem hid_mono {S S':List Addr} {H:Hp} (h:∀a∈S',a∈S):Same (hid S H) (hid S' H):=fun a _ e=>by
 obtain ⟨e1,e2⟩:=hid_some e
 exact hid_mk e1 fun z=>e2 (h a z)
theorem Same.rd {H H':Hp} (e:Same H H') {a:Addr} {u:HO} (h:Rd H a u):Rd H' a u:=by
 rcases h with h | ⟨o,h⟩
 · exact .inl (e _ _ h)
 · exact .inr ⟨o,e _ _ h⟩
theorem Same.sqT {K:PySem.W.Frag} {H H':Hp} {a:Addr} {xs:List V} (e:Same H H') (h:SqT K H a xs):SqT K H' a xs:=by
 rcases h with h | h
 · exact .inl (Same.rd e h)
 · exact .inr h
def FqT (K:PySem.W.Frag) (H:Hp) (a:Addr) (xs:List V):Prop:=
 (∃o:Obj,o.dict=none∧H a=some (.frz o (.tup xs)))∨
   ∃(o:Obj) (its:Array Value) (n:Nat),K.lookup a=some o∧o.dict=none∧o.cls= .type "tuple"∧o.data= .seq its n∧its.size≤sizeLine∧Vals xs its.toList
theorem FqT.sq {K:PySem.W.Frag} {H:Hp} {a:Addr} {xs:List V} (h:FqT K H a xs):SqT K H a xs:=by
 rcases h with ⟨o,_,h⟩ | ⟨o,its,n,h1,_,h2,h3,h4,h5⟩
 · exact .inl (.inr ⟨o,h⟩)
 · exact .inr ⟨o,its,n,h1,h2,h3,h4,h5⟩
theorem FqT.of {K:PySem.W.Frag} {H:Hp} {a:Addr} {xs:List V} {o:Obj} (d:o.dict=none) (h:H a=some (.frz o (.tup xs))):FqT K H a xs:=.inl ⟨o,d,h⟩
theorem Same.fqT {K:PySem.W.Frag} {H H':Hp} {a:Addr} {xs:List V} (e:Same H H') (h:FqT K H a xs):FqT K H' a xs:=by
 rcases h with ⟨o,d,h⟩ | h
 · exact .inl ⟨o,d,e _ _ h⟩
 · exact .inr h
inductive Rep (K:PySem.W.Frag) (H:Hp):V→T→Prop where
 | non:Rep K H .non .non
 | bl (b:Bool):Rep K H (.bl b) (.bl b)
 | int (i:Int):Rep K H (.int i) (.int i)
 | str (x:Str):Rep K H (.str x) (.str x)
 | ty (n:String):Rep K H (.ty n) (.ty n)
 | ref (a:Addr):Rep K H (.ref a) (.ref a)
 | tup {a:Addr} {vs:List V} {ts:List T} (h:FqT K H a vs) (hl:vs.length=ts.length) (hr:∀(i:Nat) v t,vs[i]? =some v→ts[i]? =some t→Rep K H v t):Rep K H (.ref a) (.tup ts)
 | lst {a:Addr} {vs:List V} {ts:List T} (h:H a=some (.lst vs)) (hl:vs.length=ts.length) (hr:∀(i:Nat) v t,vs[i]? =some v→ts[i]? =some t→Rep K H v t):Rep K H (.ref a) (.lst ts)
 | dic {a:Addr} {kvs:List (Key×V)} {ts:List (Key×T)} (h:∃o,H a=some (.frz o (.dK kvs))) (hk:kvs.map (·.1)=ts.map (·.1))
    (hr:∀(i:Nat) v t,(kvs.map (·.2))[i]? =some v→(ts.map (·.2))[i]? =some t→Rep K H v t):Rep K H (.ref a) (.dic ts)
 | ins {a C dx:Addr} {fs:List (Str×V)} {ts:List (Str×T)} (h:H a=some (.ins C dx fs)) (hk:fs.map (·.1)=ts.map (·.1))
    (hr:∀(i:Nat) v t,(fs.map (·.2))[i]? =some v→(ts.map (·.2))[i]? =some t→Rep K H v t):Rep K H (.ref a) (.ins C ts)
abbrev RepL (K:PySem.W.Frag) (H:Hp):List V→List T→Prop:=Paired (Rep K H)
section
variable {K:PySem.W.Frag} {H H':Hp} {v:V} {t:T} {vs:List V} {ts:List T} {a:Addr}
theorem Rep.mono (r:Rep K H v t) (e:Same H H'):Rep K H' v t:=by
 induction r with
 | non=>exact .non
 | bl b=>exact .bl b
 | int i=>exact .int i
 | str x=>exact .str x
 | ty n=>exact .ty n
 | ref a=>exact .ref a
 | tup h hl _ ih=>exact .tup (Same.fqT e h) hl ih
 | lst h hl _ ih=>exact .lst (e _ _ h) hl ih
 | dic h hk _ ih=>exact .dic (let ⟨o,q⟩:=h; ⟨o,e _ _ q⟩) hk ih
 | ins h hk _ ih=>exact .ins (e _ _ h) hk ih
theorem repL_mk:∀ {vs:List V} {ts:List T},vs.length=ts.length→(∀(i:Nat) v t,vs[i]? =some v→ts[i]? =some t→Rep K H v t)→RepL K H vs ts
 | [],[],_,_=>.nil
 | v::vs,t::ts,hl,hr=>.cons (hr 0 v t rfl rfl) (repL_mk (by simpa using hl) fun i v t h1 h2=>hr (i+1) v t (by simpa using h1) (by simpa using h2))
 | [],_::_,hl,_=>by simp at hl
 | _::_,[],hl,_=>by simp at hl
theorem RepL.length (r:RepL K H vs ts):vs.length=ts.length:=Paired.length r
theorem RepL.at:∀ {vs:List V} {ts:List T} {i:Nat} {v:V} {t:T},RepL K H vs ts→vs[i]? =some v→ts[i]? =some t→Rep K H v t
 | _,_,_,_,_,.nil,e,_=>by simp at e
 | _,_,0,_,_,.cons r _,e,f=>by simp at e f;subst e;subst f;exact r
 | _,_,i+1,v,t,.cons _ q,e,f=>RepL.at (i:=i) (v:=v) (t:=t) q (by simpa using e) (by simpa using f)
theorem RepL.get:∀ {vs:List V} {ts:List T} {i:Nat} {t:T},RepL K H vs ts→ts[i]? =some t→∃v,vs[i]? =some v∧Rep K H v t
 | _,_,_,_,.nil,e=>by simp at e
 | _,_,0,_,.cons r _,e=>by simp at e;subst e;exact ⟨_,rfl,r⟩
 | _,_,i+1,t,.cons _ q,e=>by
   obtain ⟨v,h1,h2⟩:=RepL.get (i:=i) (t:=t) q (by simpa using e)
   exact ⟨v,by simpa using h1,h2⟩
theorem RepL.mono (r:RepL K H vs ts) (e:Same H H'):RepL K H' vs ts:=Paired.mapP r fun _ _ z=>z.mono e
theorem RepL.append:∀ {vs ws:List V} {ts us:List T},RepL K H vs ts→RepL K H ws us→RepL K H (vs++ws) (ts++us)
 | _,_,_,_,.nil,s=>s
 | _,_,_,_,.cons r t,s=>.cons r (RepL.append t s)
theorem RepL.take:∀ {vs:List V} {ts:List T} (n:Nat),RepL K H vs ts→RepL K H (vs.take n) (ts.take n)
 | _,_,0,_=>.nil
 | _,_,_+1,.nil=>.nil
 | _,_,n+1,.cons r t=>.cons r (RepL.take n t)
theorem RepL.drop:∀ {vs:List V} {ts:List T} (n:Nat),RepL K H vs ts→RepL K H (vs.drop n) (ts.drop n)
 | _,_,0,r=>r
 | _,_,_+1,.nil=>.nil
 | _,_,n+1,.cons _ t=>RepL.drop n t
theorem RepL.set {v:V} {t:T} (r:Rep K H v t):∀ {vs:List V} {ts:List T} (i:Nat),RepL K H vs ts→RepL K H (vs.set i v) (ts.set i t)
 | _,_,_,.nil=>.nil
 | _,_,0,.cons _ q=>.cons r q
 | _,_,i+1,.cons p q=>.cons p (RepL.set r i q)
theorem Rep.mkT (h:FqT K H a vs) (r:RepL K H vs ts):Rep K H (.ref a) (.tup ts):=.tup h r.length fun _ _ _=>r.at
theorem Rep.mkL (h:H a=some (.lst vs)) (r:RepL K H vs ts):Rep K H (.ref a) (.lst ts):=.lst h r.length fun _ _ _=>r.at
theorem Rep.tupI (r:Rep K H v (.tup ts)):∃a vs,v= .ref a∧SqT K H a vs∧RepL K H vs ts:=by
 cases r with
 | tup h hl hr=>exact ⟨_,_,rfl,h.sq,repL_mk hl hr⟩
def RepB (K:PySem.W.Frag) (w:Bool) (H:Hp) (v:V) (t:T):Prop:=Rep K H v t∨(w=true∧∃a vs ts,v= .ref a∧t= .tup ts∧SqT K H a vs∧RepL K H vs ts)
theorem RepB.f (r:RepB K false H v t):Rep K H v t:=by
 rcases r with r | ⟨z,_⟩
 · exact r
 · cases z
theorem RepB.tupI {w:Bool} (r:RepB K w H v (.tup ts)):∃a vs,v= .ref a∧SqT K H a vs∧RepL K H vs ts:=by
 rcases r with r | ⟨_,a,vs,us,rfl,e,h,q⟩
 · exact r.tupI
 · cases e;exact ⟨a,vs,rfl,h,q⟩
theorem Rep.lstI (r:Rep K H v (.lst ts)):∃a vs,v= .ref a∧H a=some (.lst vs)∧RepL K H vs ts:=by
 cases r with
 | lst h hl hr=>exact ⟨_,_,rfl,h,repL_mk hl hr⟩
theorem Rep.intI {i:Int} (r:Rep K H v (.int i)):v= .int i:=by cases r;rfl
theorem Rep.blI {b:Bool} (r:Rep K H v (.bl b)):v= .bl b:=by cases r;rfl
theorem Rep.strI {x:Str} (r:Rep K H v (.str x)):v= .str x:=by cases r;rfl
theorem Rep.refI (r:Rep K H v (.ref a)):v= .ref a:=by cases r;rfl
end
inductive Sl where
 | no | val (t:T) | own (t:T)
def SameX (H H':Hp):Prop:=∀a q,H a=some (LamX.CodeO a q)→H' a=some (LamX.CodeO a q)
structure Cf where
 S0:List Addr
 I:Hp→Prop
 st:∀H H',(∀a∈S0,H' a=H a)→SameX H H'→I H→I H'
 on:∀H,I H→∀a∈S0,H a≠none
 gOk:HO→Prop
 gL:∀vs,gOk (.lst vs)
 gV:∀o,vis o=true→gOk o
 fr:Bool
def addrs (A:List (Option Addr)):List Addr:=A.filterMap id
def Cf.S (c:Cf) (G:List Addr) (A:List (Option Addr)):List Addr:=c.S0++G++addrs A
mutual
def nkT:T→Option NestedKey
 | .non=>some .none
 | .int i=>some (.num i)
 | .str x=>some (.text x)
 | .tup ts=>(nkTs ts).map .tup
 | _=>none
def nkTs:List T→Option (List NestedKey)
 | []=>some []
 | t::ts=>(nkT t).bind fun k=>(nkTs ts).map fun ks=>k::ks
end
def KdO (w:World) (a:Addr) (xs:List (NestedKey×Addr×V)):HO:=.ext fun h=>xs.length≤sizeLine∧(a==sysModules)=false∧∃(o:Obj) (es:Array DictEntry) (ep:Nat) (ys:List (NestedKey×Addr×Value)),
 Paired (fun (p:NestedKey×Addr×V) (q:NestedKey×Addr×Value)=>p.1=q.1∧p.2.1=q.2.1∧RelV p.2.2 q.2.2) xs ys∧h.get? a=some o∧o.ExactDict∧o.data= .dict es ep∧es.toList=ys.map (fun x=>⟨x.1.hash w,.ref x.2.1,x.2.2⟩)∧(ys.map (·.1)).Nodup
def KdRep (K:PySem.W.Frag) (Hv H:Hp) (w:World) (a:Addr) (es:List (T×T)):Prop:=∃xs,H a=some (KdO w a xs)∧
 Paired (fun (p:T×T) (q:NestedKey×Addr×V)=>nkT p.1=some q.1∧q.1.depth≤8∧Rep K Hv (.ref q.2.1) p.1∧Rep K Hv q.2.2 p.2) es xs
def OwnRep (K:PySem.W.Frag) (Hv H:Hp) (a:Addr):T→Prop
 | .lst xs=>∃vs,H a=some (.lst vs)∧RepL K Hv vs xs
 | .dic kvs=>∃ks,H a=some (.dK ks)∧ks.map (·.1)=kvs.map (·.1)∧RepL K Hv (ks.map (·.2)) (kvs.map (·.2))
 | .tup xs=>∃x C fs,xs=[.ref x,.ins C fs]∧a=x∧∃dx ks,H a=some (.ins C dx ks)∧ks.map (·.1)=fs.map (·.1)∧RepL K Hv (ks.map (·.2)) (fs.map (·.2))
 | .kd w es=>KdRep K Hv H w a es
 | _=>False
def SlRep (K:PySem.W.Frag) (Hv H:Hp) (s:Sl) (o:Option Addr) (x:Option V):Prop:=
 match s with
 | .no=>o=none
 | .val t=>o=none∧∃v,x=some v∧Rep K Hv v t
 | .own t=>∃a,o=some a∧x=some (.ref a)∧OwnRep K Hv H a t
structure R3 (K:PySem.W.Frag) (c:Cf) (Hb:Hp) (G:List Addr) (A:List (Option Addr)) (σ3:List Sl) (σ:St) (H:Hp):Prop where
 inv:c.I H
 base:Same (hid (c.S0++G) Hb) (hid (c.S G A) H)
 gk:∀a∈G,H a=Hb a∧H a≠none∧a ∉ c.S0
 gv:∀a∈G,∀o,H a=some o→c.gOk o
 nd:(addrs A).Nodup
 ns:∀a∈addrs A,a ∉ c.S0++G
 l1:A.length=σ3.length
 l2:σ.length=σ3.length
 at_:∀(i:Nat) s o x,σ3[i]? =some s→A[i]? =some o→σ[i]? =some x→SlRep K (hid (c.S G A) H) H s o x
structure Le (c:Cf) (G:List Addr) (A:List (Option Addr)) (H H':Hp):Prop where
 vis:Same (hid (c.S G A) H) (hid (c.S G A) H')
 own:∀a∈G++addrs A,H' a=H a
 inv:c.I H'
theorem Le.trans {c:Cf} {G:List Addr} {A:List (Option Addr)} {H H1 H2:Hp} (a:Le c G A H H1) (b:Le c G A H1 H2):Le c G A H H2:=
 ⟨Same.trans a.vis b.vis,fun x h=>(b.own x h).trans (a.own x h),b.inv⟩
theorem Le.refl {c:Cf} {G:List Addr} {A:List (Option Addr)} {H:Hp} (h:c.I H):Le c G A H H:=⟨Same.refl _,fun _ _=>rfl,h⟩
theorem mem_S {c:Cf} {G:List Addr} {A:List (Option Addr)} {a:Addr}:a∈c.S G A↔a∈c.S0∨a∈G∨a∈addrs A:=by
 unfold Cf.S
 rw [List.mem_append,List.mem_append,or_assoc]
theorem mem_addrs {A:List (Option Addr)} {a:Addr}:a∈addrs A↔some a∈A:=by
 unfold addrs
 rw [List.mem_filterMap]
 exact ⟨fun ⟨x,h,e⟩=>by cases e;exact h,fun h=>⟨_,h,rfl⟩⟩
section
variable {K:PySem.W.Frag} {c:Cf} {Hb H H':Hp} {G:List Addr} {A:List (Option Addr)} {σ3:List Sl} {σ:St} {v:V} {t:T}
theorem OwnRep.mono {Hv Hv':Hp} {a:Addr} {t:T} (r:OwnRep K Hv H a t) (e:Same Hv Hv') (h:H' a=H a):OwnRep K Hv' H' a t:=by
 cases t with
 | lst xs=>obtain ⟨vs,h1,h2⟩:=r;exact ⟨vs,h.trans h1,h2.mono e⟩
 | dic kvs=>obtain ⟨ks,h1,h2,h3⟩:=r;exact ⟨ks,h.trans h1,h2,h3.mono e⟩
 | tup xs=>obtain ⟨x,C,fs,h0,h4,dx,ks,h1,h2,h3⟩:=r;exact ⟨x,C,fs,h0,h4,dx,ks,h.trans h1,h2,h3.mono e⟩
 | kd w es=>obtain ⟨xs,h1,h2⟩:=r;exact ⟨xs,h.trans h1,Paired.mapP h2 fun p q z=>⟨z.1,z.2.1,z.2.2.1.mono e,z.2.2.2.mono e⟩⟩
 | _=>exact r
theorem OwnRep.there {Hv:Hp} {a:Addr} {t:T} (r:OwnRep K Hv H a t):H a≠none:=by
 cases t with
 | lst xs=>obtain ⟨vs,h1,h2⟩:=r;rw [h1];intro z;cases z
 | dic kvs=>obtain ⟨ks,h1,h2,h3⟩:=r;rw [h1];intro z;cases z
 | tup xs=>obtain ⟨x,C,fs,h0,h4,dx,ks,h1,h2,h3⟩:=r;rw [h1];intro z;cases z
 | kd w es=>obtain ⟨xs,h1,_⟩:=r;rw [h1];intro z;cases z
 | _=>exact r.elim
theorem R3.le (r:R3 K c Hb G A σ3 σ H) (l:Le c G A H H'):R3 K c Hb G A σ3 σ H' where
 inv:=l.inv
 base:=Same.trans r.base l.vis
 gk:=fun a h=>⟨(l.own a (List.mem_append.mpr (.inl h))).trans (r.gk a h).1,by rw [l.own a (List.mem_append.mpr (.inl h))];exact (r.gk a h).2.1,(r.gk a h).2.2⟩
 gv:=fun a h o e=>r.gv a h o (by rw [←l.own a (List.mem_append.mpr (.inl h))];exact e)
 nd:=r.nd
 ns:=r.ns
 l1:=r.l1
 l2:=r.l2
 at_:=fun i s o x h1 h2 h3=>by
  have z:=r.at_ i s o x h1 h2 h3
  cases s with
  | no=>exact z
  | val t=>obtain ⟨e,v,e2,q⟩:=z;exact ⟨e,v,e2,q.mono l.vis⟩
  | own t=>
    obtain ⟨a,e,e2,q⟩:=z
    refine ⟨a,e,e2,q.mono l.vis (l.own a (List.mem_append.mpr (.inr (mem_addrs.mpr ?_))))⟩
    subst e
    exact List.mem_of_getElem? h2
theorem R3.get (r:R3 K c Hb G A σ3 σ H) {i:Nat} (h:σ3[i]? =some (.val t)):∃v,σ[i]? =some (some v)∧Rep K (hid (c.S G A) H) v t:=by
 have hl:i<σ3.length:=(List.getElem?_eq_some_iff.mp h).1
 have h1:i<A.length:=by rw [r.l1];exact hl
 have h2:i<σ.length:=by rw [r.l2];exact hl
 obtain ⟨_,v,e,q⟩:=r.at_ i _ _ _ h (List.getElem?_eq_getElem h1) (List.getElem?_eq_getElem h2)
 exact ⟨v,by rw [List.getElem?_eq_getElem h2,e],q⟩
theorem R3.there (r:R3 K c Hb G A σ3 σ H) {a:Addr} (h:a∈c.S G A):H a≠none:=by
 rcases mem_S.mp h with h | h | h
 · exact c.on H r.inv a h
 · exact (r.gk a h).2.1
 · have h':=mem_addrs.mp h
   obtain ⟨i,hi⟩:=List.getElem?_of_mem h'
   have hl:i<A.length:=(List.getElem?_eq_some_iff.mp hi).1
   have h1:i<σ3.length:=by rw [←r.l1];exact hl
   have h2:i<σ.length:=by rw [r.l2];exact h1
   have z:=r.at_ i _ _ _ (List.getElem?_eq_getElem h1) hi (List.getElem?_eq_getElem h2)
   cases e:σ3[i] with
   | no=>rw [e] at z;cases z
   | val t=>rw [e] at z;obtain ⟨z,_⟩:=z;cases z
   | own t=>
     rw [e] at z
     obtain ⟨b,e1,e2,q⟩:=z
     cases e1
     exact q.there
theorem R3.free (r:R3 K c Hb G A σ3 σ H) {p:Addr} (h:H p=none):p ∉ c.S G A:=fun z=>r.there z h
theorem R3.new (r:R3 K c Hb G A σ3 σ H) {p:Addr} {o:HO} (h:H p=none):Le c G A H (upd H p o) where
 vis:=fun a u e=>by
  obtain ⟨e1,e2⟩:=hid_some e
  exact hid_mk (by rw [upd_ne (ne_of_none e1 h)];exact e1) e2
 own:=fun a ha=>by
  have hm:a∈c.S G A:=mem_S.mpr (by rcases List.mem_append.mp ha with z | z;exact .inr (.inl z);exact .inr (.inr z))
  have:a≠p:=fun z=>by subst z;exact r.there hm h
  rw [upd_ne this]
 inv:=c.st H _ (fun a ha=>by
  have hm:a∈c.S G A:=mem_S.mpr (.inl ha)
  have:a≠p:=fun z=>by subst z;exact r.there hm h
  rw [upd_ne this]) (fun a φ e=>by rw [upd_ne (ne_of_none e h)];exact e) r.inv
theorem R3.newAt (r:R3 K c Hb G A σ3 σ H) {p:Addr} {o:HO} (h:H p=none) (v:vis o=true:=by rfl):hid (c.S G A) (upd H p o) p=some o:=hid_mk upd_same (r.free h) v
theorem getElem?_set_cases {α:Type} {l:List α} {i j:Nat} {x y:α} (h:(l.set i x)[j]? =some y):(i=j∧y=x∧i<l.length)∨(i≠j∧l[j]? =some y):=by
 by_cases e:i=j
 · subst e
   have hl:i<l.length:=by
    have:=(List.getElem?_eq_some_iff.mp h).1
    simpa using this
   rw [List.getElem?_set_self hl] at h
   cases h
   exact .inl ⟨rfl,rfl,hl⟩
 · rw [List.getElem?_set_ne e] at h
   exact .inr ⟨e,h⟩
theorem addrs_set_sub {A:List (Option Addr)} {i:Nat}:∀a∈addrs (A.set i none),a∈addrs A:=fun a h=>by
 have h':=mem_addrs.mp h
 obtain ⟨j,hj⟩:=List.getElem?_of_mem h'
 rcases getElem?_set_cases hj with ⟨_,e,_⟩ | ⟨_,e⟩
 · cases e
 · exact mem_addrs.mpr (List.mem_of_getElem? e)
theorem S_sub {A A':List (Option Addr)} (h:∀a∈addrs A',a∈addrs A):∀a∈c.S G A',a∈c.S G A:=fun a z=>by
 rcases mem_S.mp z with z | z | z
 · exact mem_S.mpr (.inl z)
 · exact mem_S.mpr (.inr (.inl z))
 · exact mem_S.mpr (.inr (.inr (h a z)))
theorem nodup_filterMap_set:∀ {A:List (Option Addr)} {i:Nat},(addrs A).Nodup→(addrs (A.set i none)).Nodup
 | [],i,h=>by simpa using h
 | none::A,0,h=>h
 | some a::A,0,h=>(List.nodup_cons.mp (show (a::addrs A).Nodup from h)).2
 | none::A,i+1,h=>nodup_filterMap_set (A:=A) (i:=i) h
 | some a::A,i+1,h=>by
   have h':=List.nodup_cons.mp (show (a::addrs A).Nodup from h)
   exact List.nodup_cons.mpr ⟨fun z=>h'.1 (addrs_set_sub a z),nodup_filterMap_set (A:=A) (i:=i) h'.2⟩
theorem R3.set (r:R3 K c Hb G A σ3 σ H) (i:Nat) (q:Rep K (hid (c.S G A) H) v t):R3 K c Hb G (A.set i none) (σ3.set i (.val t)) (σ.set i (some v)) H:=by
 have sub:Same (hid (c.S G A) H) (hid (c.S G (A.set i none)) H):=hid_mono (S_sub addrs_set_sub)
 refine ⟨r.inv,Same.trans r.base sub,r.gk,r.gv,nodup_filterMap_set (A:=A) r.nd,fun a h=>r.ns a (addrs_set_sub a h),by rw [List.length_set,List.length_set,r.l1],by rw [List.length_set,List.length_set,r.l2], ?_⟩
 intro j s o x h1 h2 h3
 rcases getElem?_set_cases h1 with ⟨e,e1,_⟩ | ⟨e,e1⟩
 · subst e
   subst e1
   rcases getElem?_set_cases h2 with ⟨_,e2,_⟩ | ⟨e2,_⟩
   · subst e2
     rcases getElem?_set_cases h3 with ⟨_,e3,_⟩ | ⟨e3,_⟩
     · subst e3
       exact ⟨rfl,v,rfl,q.mono sub⟩
     · exact absurd rfl e3
   · exact absurd rfl e2
 · rw [List.getElem?_set_ne e] at h2 h3
   have z:=r.at_ j s o x e1 h2 h3
   cases s with
   | no=>exact z
   | val t=>obtain ⟨e,v,e2,q⟩:=z;exact ⟨e,v,e2,q.mono sub⟩
   | own t=>obtain ⟨a,e,e2,q⟩:=z;exact ⟨a,e,e2,q.mono sub rfl⟩
theorem R3.wipe1 (r:R3 K c Hb G A σ3 σ H) (i:Nat) (x:Option V):R3 K c Hb G (A.set i none) (σ3.set i .no) (σ.set i x) H:=by
 have sub:Same (hid (c.S G A) H) (hid (c.S G (A.set i none)) H):=hid_mono (S_sub addrs_set_sub)
 refine ⟨r.inv,Same.trans r.base sub,r.gk,r.gv,nodup_filterMap_set (A:=A) r.nd,fun a h=>r.ns a (addrs_set_sub a h),by rw [List.length_set,List.length_set,r.l1],by rw [List.length_set,List.length_set,r.l2], ?_⟩
 intro j s o x' h1 h2 h3
 rcases getElem?_set_cases h1 with ⟨e,e1,_⟩ | ⟨e,e1⟩
 · subst e
   subst e1
   rcases getElem?_set_cases h2 with ⟨_,e2,_⟩ | ⟨e2,_⟩
   · exact e2
   · exact absurd rfl e2
 · rw [List.getElem?_set_ne e] at h2 h3
   have z:=r.at_ j s o x' e1 h2 h3
   cases s with
   | no=>exact z
   | val t=>obtain ⟨e,v,e2,q⟩:=z;exact ⟨e,v,e2,q.mono sub⟩
   | own t=>obtain ⟨a,e,e2,q⟩:=z;exact ⟨a,e,e2,q.mono sub rfl⟩
end
end M3
namespace M3
open PySem L2
structure Xn where
 cls:Value
 fs:List (Str×T)
def XRep (K:PySem.W.Frag) (Hv:Hp) (cls:Value) (dd:Option Addr) (x:Xn):Prop:=
 x.cls=cls∧match dd with
  | none=>x.fs=[]
  | some d=>∃fs,Hv d=some (.xd fs)∧fs.map (·.1)=x.fs.map (·.1)∧RepL K Hv (fs.map (·.2)) (x.fs.map (·.2))
abbrev X3:=Xn→Prop
abbrev G3 (β:Type):=List Sl→(β→Prop)→X3→Prop
abbrev E3:=G3 T
abbrev B3:=G3 Bool
abbrev A3:=G3 (List T)
def LiftG (K:PySem.W.Frag) (c:Cf) (W:WX) {α β:Type} (rel:Hp→α→β→Prop) (te:St→Hp→(α→Hp→Prop)→Prop) (t:G3 β):Prop:=
 ∀σ3 Q3 X,t σ3 Q3 X→∀Hb G A σ H Q,R3 K c Hb G A σ3 σ H→
  (∀v d H',Le c G A H H'→rel (hid (c.S G A) H') v d→Q3 d→Q v H')→
  (∀cls dd x H',Le c G A H H'→XRep K (hid (c.S G A) H') cls dd x→X x→W cls dd σ H')→te σ H Q
abbrev Lift (K:PySem.W.Frag) (c:Cf) (W:WX) (te:TE) (t:E3):Prop:=LiftG K c W (Rep K) te t
abbrev LiftT (K:PySem.W.Frag) (c:Cf) (W:WX) (te:TT) (t:B3):Prop:=LiftG K c W (fun _ (b b':Bool)=>b=b') te t
abbrev LiftA (K:PySem.W.Frag) (c:Cf) (W:WX) (te:TA) (t:A3):Prop:=LiftG K c W (RepL K) te t
abbrev LiftO (K:PySem.W.Frag) (c:Cf) (W:WX) (te:TO) (t:G3 (Option Int)):Prop:=LiftG K c W (fun _ (b b':Option Int)=>b=b') te t
def ob {α:Type} (o:Option α) (Q:α→Prop):Prop:=match o with | some a=>Q a | none=>False
@[simp] theorem ob_some {α:Type} (a:α) (Q:α→Prop):ob (some a) Q=Q a:=rfl
@[simp] theorem ob_none {α:Type} (Q:α→Prop):ob none Q=False:=rfl
theorem ob_iff {α:Type} {o:Option α} {Q:α→Prop}:ob o Q↔∃a,o=some a∧Q a:=by
 cases o with
 | none=>exact ⟨fun h=>h.elim,fun ⟨_,h,_⟩=>by cases h⟩
 | some a=>exact ⟨fun h=>⟨a,rfl,h⟩,fun ⟨_,h,q⟩=>by cases h;exact q⟩
def asI:T→Option Int
 | .int i=>some i
 | _=>none
def asL:T→Option (List T)
 | .lst i=>some i
 | _=>none
def asT:T→Option (List T)
 | .tup i=>some i
 | _=>none
def asS:T→Option Str
 | .str i=>some i
 | _=>none
def asN:T→Option Unit
 | .non=>some ()
 | _=>none
def asB:T→Option Bool
 | .bl b=>some b
 | _=>none
def one {α:Type}:List α→Option α
 | [x]=>some x
 | _=>none
def two {α:Type}:List α→Option (α×α)
 | [x,y]=>some (x,y)
 | _=>none
@[simp] theorem asI_non:asI .non=none:=rfl
@[simp] theorem asI_bl (b:Bool):asI (.bl b)=none:=rfl
@[simp] theorem asI_int (b:Int):asI (.int b)=some b:=rfl
@[simp] theorem asI_str (b:Str):asI (.str b)=none:=rfl
@[simp] theorem asI_tup (b:List T):asI (.tup b)=none:=rfl
@[simp] theorem asI_lst (b:List T):asI (.lst b)=none:=rfl
@[simp] theorem asL_non:asL .non=none:=rfl
@[simp] theorem asL_bl (b:Bool):asL (.bl b)=none:=rfl
@[simp] theorem asL_int (b:Int):asL (.int b)=none:=rfl
@[simp] theorem asL_str (b:Str):asL (.str b)=none:=rfl
@[simp] theorem asL_tup (b:List T):asL (.tup b)=none:=rfl
@[simp] theorem asL_lst (b:List T):asL (.lst b)=some b:=rfl
@[simp] theorem asT_non:asT .non=none:=rfl
@[simp] theorem asT_bl (b:Bool):asT (.bl b)=none:=rfl
@[simp] theorem asT_int (b:Int):asT (.int b)=none:=rfl
@[simp] theorem asT_str (b:Str):asT (.str b)=none:=rfl
@[simp] theorem asT_tup (b:List T):asT (.tup b)=some b:=rfl
@[simp] theorem asT_lst (b:List T):asT (.lst b)=none:=rfl
@[simp] theorem asS_non:asS .non=none:=rfl
@[simp] theorem asS_bl (b:Bool):asS (.bl b)=none:=rfl
@[simp] theorem asS_int (b:Int):asS (.int b)=none:=rfl
@[simp] theorem asS_str (b:Str):asS (.str b)=some b:=rfl
@[simp] theorem asS_tup (b:List T):asS (.tup b)=none:=rfl
@[simp] theorem asS_lst (b:List T):asS (.lst b)=none:=rfl
@[simp] theorem asN_non:asN .non=some ():=rfl
@[simp] theorem asN_bl (b:Bool):asN (.bl b)=none:=rfl
@[simp] theorem asN_int (b:Int):asN (.int b)=none:=rfl
@[simp] theorem asN_str (b:Str):asN (.str b)=none:=rfl
@[simp] theorem asN_tup (b:List T):asN (.tup b)=none:=rfl
@[simp] theorem asN_lst (b:List T):asN (.lst b)=none:=rfl
@[simp] theorem asB_non:asB .non=none:=rfl
@[simp] theorem asB_bl (b:Bool):asB (.bl b)=some b:=rfl
@[simp] theorem asB_int (b:Int):asB (.int b)=none:=rfl
@[simp] theorem asB_str (b:Str):asB (.str b)=none:=rfl
@[simp] theorem asB_tup (b:List T):asB (.tup b)=none:=rfl
@[simp] theorem asB_lst (b:List T):asB (.lst b)=none:=rfl
@[simp] theorem one_1 {α:Type} (x:α):one [x]=some x:=rfl
@[simp] theorem two_2 {α:Type} (x y:α):two [x,y]=some (x,y):=rfl
theorem asI_is {x:T} {i:Int} (h:asI x=some i):x= .int i:=by cases x<;>cases h;rfl
theorem asL_is {x:T} {i:List T} (h:asL x=some i):x= .lst i:=by cases x<;>cases h;rfl
theorem asT_is {x:T} {i:List T} (h:asT x=some i):x= .tup i:=by cases x<;>cases h;rfl
theorem asS_is {x:T} {i:Str} (h:asS x=some i):x= .str i:=by cases x<;>cases h;rfl
theorem asB_is {x:T} {i:Bool} (h:asB x=some i):x= .bl i:=by cases x<;>cases h;rfl
theorem one_is {α:Type} {l:List α} {x:α} (h:one l=some x):l=[x]:=by
 match l,h with
 | [y],h=>cases h;rfl
def slot (σ:List Sl) (i:Nat):Option T:=match σ[i]? with | some (.val t)=>some t | _=>none
def v3 (i:Nat):E3:=fun σ Q _=>ob (slot σ i) Q
def k3 (t:T):E3:=fun _ Q _=>Q t
def op3 (r:T→T→(T→Prop)→Prop) (a b:E3):E3:=fun σ Q X=>a σ (fun x=>b σ (fun y=>r x y Q) X) X
def un3 (r:T→(T→Prop)→Prop) (a:E3):E3:=fun σ Q X=>a σ (fun x=>r x Q) X
def nil3:A3:=fun _ Q _=>Q []
def cons3 (a:E3) (r:A3):A3:=fun σ Q X=>a σ (fun x=>r σ (fun xs=>Q (x::xs)) X) X
def call3 (r:List T→(T→Prop)→Prop) (a:A3):E3:=fun σ Q X=>a σ (fun xs=>r xs Q) X
def RL2 (K:PySem.W.Frag) (r:R2) (r3:T→T→(T→Prop)→Prop):Prop:=
 ∀(c:Cf) x y Q3,r3 x y Q3→∀Hb G A σ3 σ H vx vy Q,R3 K c Hb G A σ3 σ H→Rep K (hid (c.S G A) H) vx x→Rep K (hid (c.S G A) H) vy y→
  (∀v d H',Le c G A H H'→Rep K (hid (c.S G A) H') v d→Q3 d→Q v H')→r vx vy H Q
def RLn (K:PySem.W.Frag) (r:List V→Hp→VK→Prop) (r3:List T→(T→Prop)→Prop):Prop:=
 ∀(c:Cf) xs Q3,r3 xs Q3→∀Hb G A σ3 σ H vs Q,R3 K c Hb G A σ3 σ H→RepL K (hid (c.S G A) H) vs xs→
  (∀v d H',Le c G A H H'→Rep K (hid (c.S G A) H') v d→Q3 d→Q v H')→r vs H Q
section
variable {K:PySem.W.Frag} {c:Cf} {W:WX} {ta tb te:TE} {a b e:E3}
theorem slot_get {σ:List Sl} {i:Nat} {t:T} (h:slot σ i=some t):σ[i]? =some (.val t):=by
 unfold slot at h
 split at h
 · cases h;assumption
 · cases h
theorem lift_v (i:Nat):Lift K c W (tVar i) (v3 i):=by
 intro σ3 Q3 X h Hb G A σ H Q R k e
 obtain ⟨t,h1,h2⟩:=ob_iff.mp h
 obtain ⟨v,h3,h4⟩:=R.get (slot_get h1)
 exact ⟨v,h3,k v t H (Le.refl R.inv) h4 h2⟩
theorem lift_k {v:V} {t:T} (r:∀H,Rep K H v t):Lift K c W (tC v) (k3 t):=by
 intro σ3 Q3 X h Hb G A σ H Q R k e
 exact k v t H (Le.refl R.inv) (r _) h
theorem lift_int (i:Int):Lift K c W (tC (.int i)) (k3 (.int i)):=lift_k fun _=>.int i
theorem lift_str (x:Str):Lift K c W (tC (.str x)) (k3 (.str x)):=lift_k fun _=>.str x
theorem lift_bl (b:Bool):Lift K c W (tC (.bl b)) (k3 (.bl b)):=lift_k fun _=>.bl b
theorem lift_non:Lift K c W (tC .non) (k3 .non):=lift_k fun _=>.non
theorem lift_op {r:R2} {r3:T→T→(T→Prop)→Prop} (hr:RL2 K r r3) (ha:Lift K c W ta a) (hb:Lift K c W tb b):Lift K c W (tOp r ta tb) (op3 r3 a b):=by
 intro σ3 Q3 X h Hb G A σ H Q R k e
 refine ha _ _ _ h Hb G A σ H _ R (fun vx x H1 L1 rx hx=> ?_) e
 refine hb _ _ _ hx Hb G A σ H1 _ (R.le L1) (fun vy y H2 L2 ry hy=> ?_) (fun cls dd x H' L=>e cls dd x H' (L1.trans L))
 exact hr c _ _ _ hy Hb G A σ3 σ H2 vx vy Q ((R.le L1).le L2) (rx.mono L2.vis) ry (fun v d H3 L3=>k v d H3 ((L1.trans L2).trans L3))
theorem lift_nil:LiftA K c W tNil nil3:=by
 intro σ3 Q3 X h Hb G A σ H Q R k e
 exact k [] [] H (Le.refl R.inv) .nil h
theorem lift_cons {tr:TA} {r:A3} (ha:Lift K c W ta a) (hr:LiftA K c W tr r):LiftA K c W (tCons ta tr) (cons3 a r):=by
 intro σ3 Q3 X h Hb G A σ H Q R k e
 refine ha _ _ _ h Hb G A σ H _ R (fun vx x H1 L1 rx hx=> ?_) e
 refine hr _ _ _ hx Hb G A σ H1 _ (R.le L1) (fun vy y H2 L2 ry hy=> ?_) (fun cls dd x H' L=>e cls dd x H' (L1.trans L))
 exact k _ _ H2 (L1.trans L2) (.cons (rx.mono L2.vis) ry) hy
def tup3 (x:A3):E3:=fun σ Q X=>x σ (fun xs=>xs.length≤sizeLine∧Q (.tup xs)) X
def lst3 (x:A3):E3:=fun σ Q X=>x σ (fun xs=>xs.length≤sizeLine∧Q (.lst xs)) X
theorem lift_tup {t:TA} {x:A3} (ha:LiftA K c W t x):Lift K c W (tTup t) (tup3 x):=by
 intro σ3 Q3 X h Hb G A σ H Q R k e
 refine ha _ _ _ h Hb G A σ H _ R (fun vs xs H1 L1 rx hx=> ?_) e
 refine ⟨by rw [rx.length];exact hx.1,fun p o hp hd=> ?_⟩
 have L2:=(R.le L1).new (o:=.frz o (.tup vs)) hp
 exact k _ _ _ (L1.trans L2) (.mkT (FqT.of hd ((R.le L1).newAt hp)) (rx.mono L2.vis)) hx.2
theorem lift_lst {t:TA} {x:A3} (ha:LiftA K c W t x):Lift K c W (tLst t) (lst3 x):=by
 intro σ3 Q3 X h Hb G A σ H Q R k e
 refine ha _ _ _ h Hb G A σ H _ R (fun vs xs H1 L1 rx hx=> ?_) e
 refine ⟨by rw [rx.length];exact hx.1,fun p hp=> ?_⟩
 have L2:=(R.le L1).new (o:=.lst vs) hp
 exact k _ _ _ (L1.trans L2) (.mkL ((R.le L1).newAt hp) (rx.mono L2.vis)) hx.2
def tst3 (a:E3):B3:=fun σ Q X=>a σ (fun x=>ob (asB x) Q) X
def and3 (a b:B3):B3:=fun σ Q X=>a σ (fun x=>if x=true then b σ Q X else Q false) X
def or3 (a b:B3):B3:=fun σ Q X=>a σ (fun x=>if x=true then Q true else b σ Q X) X
def not3 (a:B3):B3:=fun σ Q X=>a σ (fun x=>Q (!x)) X
def andV3 (a b:E3):E3:=fun σ Q X=>a σ (fun x=>ob (asB x) fun k=>if k=true then b σ Q X else Q (.bl false)) X
def orV3 (a b:E3):E3:=fun σ Q X=>a σ (fun x=>ob (asB x) fun k=>if k=true then Q (.bl true) else b σ Q X) X
def notV3 (a:E3):E3:=fun σ Q X=>a σ (fun x=>ob (asB x) fun k=>Q (.bl (!k))) X
def if3 (t:B3) (a b:E3):E3:=fun σ Q X=>t σ (fun x=>if x=true then a σ Q X else b σ Q X) X
theorem lift_tst (ha:Lift K c W ta a):LiftT K c W (tTest ta) (tst3 a):=by
 intro σ3 Q3 X h Hb G A σ H Q R k e
 refine ha _ _ _ h Hb G A σ H _ R (fun vx x H1 L1 rx hx=> ?_) e
 obtain ⟨b,eb,q⟩:=ob_iff.mp hx
 cases asB_is eb
 exact ⟨b,rx.blI,k b b H1 L1 rfl q⟩
def chain3 (r r':T→T→(T→Prop)→Prop) (a b d:E3):E3:=fun σ Q X=>a σ (fun x=>b σ (fun y=>r x y fun z=>ob (asB z) fun k=>if k=true then d σ (fun w=>r' y w Q) X else Q (.bl false)) X) X
end
structure N3 where
 nx:List Sl→Prop
 rt:T→Prop
 bk:List Sl→Prop:=fun _=>False
 ct:List Sl→Prop:=fun _=>False
 xn:List Sl→Xn→Prop:=fun _ _=>False
abbrev S3:=N3→List Sl→Prop
structure Fin3 (K:PySem.W.Frag) (c:Cf) (Hb:Hp) (G:List Addr) (H:Hp):Prop where
 inv:c.I H
 base:Same (hid (c.S0++G) Hb) (hid (c.S0++G) H)
 gk:∀a∈G,H a=Hb a
theorem R3.fin {K:PySem.W.Frag} {c:Cf} {Hb H:Hp} {G:List Addr} {A:List (Option Addr)} {σ3:List Sl} {σ:St} (r:R3 K c Hb G A σ3 σ H):Fin3 K c Hb G H:=
 ⟨r.inv,Same.trans r.base (hid_mono fun a h=>by rcases List.mem_append.mp h with h | h;exact mem_S.mpr (.inl h);exact mem_S.mpr (.inr (.inl h))),fun a h=>(r.gk a h).1⟩
def FinO (K:PySem.W.Frag) (c:Cf) (Hb:Hp) (G:List Addr) (H:Hp) (v:V) (d:T):Prop:=
 ∃D,v= .ref D∧D ∉ c.S0++G∧c.I H∧Same (hid (c.S0++G) Hb) (hid (D::(c.S0++G)) H)∧(∀a∈G,H a=Hb a)∧OwnRep K (hid (D::(c.S0++G)) H) H D d
def FinR (K:PySem.W.Frag) (c:Cf) (Hb:Hp) (G:List Addr) (H:Hp) (v:V) (d:T):Prop:=
 match c.fr with
 | false=>Fin3 K c Hb G H∧Rep K (hid (c.S0++G) H) v d
 | true=>FinO K c Hb G H v d
theorem FinR.val {K:PySem.W.Frag} {c:Cf} {Hb:Hp} {G:List Addr} {H:Hp} {v:V} {d:T} (e:c.fr=false) (F:Fin3 K c Hb G H) (r:Rep K (hid (c.S0++G) H) v d):FinR K c Hb G H v d:=by
 unfold FinR
 rw [e]
 exact ⟨F,r⟩
theorem FinR.new {K:PySem.W.Frag} {c:Cf} {Hb:Hp} {G:List Addr} {H:Hp} {v:V} {d:T} (e:c.fr=true) (F:FinO K c Hb G H v d):FinR K c Hb G H v d:=by
 unfold FinR
 rw [e]
 exact F
def next3:S3:=fun N σ=>N.nx σ
def seq3 (t u:S3):S3:=fun N σ=>t {N with nx:=u N} σ
def brk3:S3:=fun N σ=>N.bk σ
def cont3:S3:=fun N σ=>N.ct σ
def drop3 (a:E3):S3:=fun N σ=>a σ (fun _=>N.nx σ) (N.xn σ)
def ret3 (a:E3):S3:=fun N σ=>a σ N.rt (N.xn σ)
def retN3:S3:=fun N _=>N.rt .non
def ifs3 (c:B3) (t u:S3):S3:=fun N σ=>c σ (fun b=>if b=true then t N σ else u N σ) (N.xn σ)
abbrev TG3:=T→List Sl→(List Sl→Prop)→Prop
def name3 (i:Nat):TG3:=fun d σ Q=>Q (σ.set i (.val d))
def Sets (vs:List Nat) (A A':List (Option Addr)) (σ σ':St):Prop:=σ'.length=σ.length∧(∀j:Nat,j ∉ vs→σ'[j]? =σ[j]? ∧A'[j]? =A[j]?)∧∀a∈addrs A',a∈addrs A
theorem Sets.mono {vs ws:List Nat} {A A':List (Option Addr)} {σ σ':St} (h:Sets vs A A' σ σ') (s:∀j∈vs,j∈ws):Sets ws A A' σ σ':=⟨h.1,fun j hj=>h.2.1 j fun z=>hj (s j z),h.2.2⟩
theorem Sets.trans {vs:List Nat} {A A1 A2:List (Option Addr)} {σ σ1 σ2:St} (a:Sets vs A A1 σ σ1) (b:Sets vs A1 A2 σ1 σ2):Sets vs A A2 σ σ2:=
 ⟨b.1.trans a.1,fun j hj=>⟨(b.2.1 j hj).1.trans (a.2.1 j hj).1,(b.2.1 j hj).2.trans (a.2.1 j hj).2⟩,fun x z=>a.2.2 x (b.2.2 x z)⟩
def LiftTgB (K:PySem.W.Frag) (c:Cf) (w:Bool) (vs:List Nat) (g:TG) (g3:TG3):Prop:=
 ∀d σ3 Q3,g3 d σ3 Q3→∀Hb G A σ H v Q,R3 K c Hb G A σ3 σ H→RepB K w (hid (c.S G A) H) v d→
  (∀A' σ3' σ' H',R3 K c Hb G A' σ3' σ' H'→H'=H→Sets vs A A' σ σ'→Q3 σ3'→Q σ' H')→g v σ H Q
abbrev LiftTg (K:PySem.W.Frag) (c:Cf) (vs:List Nat) (g:TG) (g3:TG3):Prop:=LiftTgB K c false vs g g3
def asg3 (a:E3) (g:TG3):S3:=fun N σ=>a σ (fun d=>g d σ N.nx) (N.xn σ)
section
variable {K:PySem.W.Frag} {c:Cf} {W:WX} {ta tb te:TE} {a b e:E3} {t u:TS} {x y:S3}
theorem lift_name (i:Nat) {vs:List Nat} (hi:i∈vs):LiftTg K c vs (gName i) (name3 i):=by
 intro d σ3 Q3 h Hb G A σ H v Q R r k
 exact k _ _ _ _ (R.set i r.f) rfl ⟨by rw [List.length_set],fun j hj=>by
  have:i≠j:=fun z=>by subst z;exact hj hi
  rw [List.getElem?_set_ne this,List.getElem?_set_ne this];exact ⟨rfl,rfl⟩,addrs_set_sub⟩ h
end
abbrev F3:=List T→(T→Prop)→X3→Prop
def sp3 (K:PySem.W.Frag) (n:Nat) (f:F3):Sp:=fun vs H Q E=>∃S ds,ds.length=n∧RepL K (hid S H) vs ds∧(∀a∈S,H a≠none)∧∃Q3 X,f ds Q3 X∧
 (∀v d H',Same (hid S H) (hid S H')→(∀a∈S,H' a=H a)→Rep K (hid S H') v d→Q3 d→Q v H')∧
 (∀cls dd x H',Same (hid S H) (hid S H')→(∀a∈S,H' a=H a)→XRep K (hid S H') cls dd x→X x→E cls dd H')
def cf0:Cf:=⟨[],fun _=>True,fun _ _ _ _ h=>h,fun _ _ a h=>(by cases h),fun _=>True,fun _=>trivial,fun _ _=>trivial,false⟩
def start3 (n:Nat) (ds:List T):List Sl:=ds.map Sl.val++List.replicate (n-ds.length) Sl.no
theorem start_eq (N:List Str) (vs:List V):start N vs=vs.map some++List.replicate (N.length-vs.length) none:=rfl
theorem r3_start {K:PySem.W.Frag} {c:Cf} {H:Hp} {G:List Addr} {N:List Str} {vs:List V} {ds:List T} (hI:c.I H) (hG:∀a∈G,H a≠none∧a ∉ c.S0) (hV:∀o,c.gOk o) (r:RepL K (hid (c.S0++G) H) vs ds):
 R3 K c H G (List.replicate ((start3 N.length ds).length) none) (start3 N.length ds) (start N vs) H:=by
 have hA:addrs (List.replicate ((start3 N.length ds).length) none)=[]:=by
  unfold addrs
  rw [List.filterMap_replicate_of_none rfl]
 have hS:c.S G (List.replicate ((start3 N.length ds).length) none)=c.S0++G:=by
  unfold Cf.S
  rw [hA,List.append_nil]
 have hl:=r.length
 refine ⟨hI,by rw [hS];exact Same.refl _,fun a h=>⟨rfl,hG a h⟩,fun a _ o _=>hV o,by rw [hA];exact List.nodup_nil,(by rw [hA];intro a h;cases h),(by simp),(by rw [start_eq];unfold start3;simp [hl]), ?_⟩
 rw [hS]
 intro i s o x h1 h2 h3
 have ho:o=none:=by
  have:=List.mem_of_getElem? h2
  exact (List.mem_replicate.mp this).2
 subst ho
 unfold start3 at h1
 rw [start_eq] at h3
 by_cases hi:i<ds.length
 · rw [List.getElem?_append_left (by simpa using hi),List.getElem?_map] at h1
   rw [List.getElem?_append_left (by rw [List.length_map,hl];exact hi),List.getElem?_map] at h3
   cases e1:ds[i]? with
   | none=>rw [e1] at h1;cases h1
   | some d=>
     rw [e1] at h1
     cases h1
     obtain ⟨v,e2,rv⟩:=r.get e1
     rw [e2] at h3
     cases h3
     exact ⟨rfl,v,rfl,rv⟩
 · rw [List.getElem?_append_right (by simpa using hi)] at h1
   have:=List.mem_of_getElem? h1
   have hs:=(List.mem_replicate.mp this).2
   subst hs
   rfl
def fn3 (n:Nat) (f:F3) (x:A3) (dvs:List T):E3:=fun σ Q X=>x σ (fun ds=>(ds++dvs).length=n∧f (ds++dvs) Q X) X
def fn30 (n:Nat) (f:F3) (x:A3) (dvs:List T):E3:=fun σ Q X=>x σ (fun ds=>(ds++dvs).length=n∧f (ds++dvs) Q (fun _=>False)) X
end M3
namespace M3
open PySem L2
def i2 (g:Int→Int→T):T→T→(T→Prop)→Prop:=fun x y Q=>ob (asI x) fun i=>ob (asI y) fun j=>Q (g i j)
def i2c (C:Int→Int→Prop) (g:Int→Int→T):T→T→(T→Prop)→Prop:=fun x y Q=>ob (asI x) fun i=>ob (asI y) fun j=>C i j∧Q (g i j)
def i1 (g:Int→T):T→(T→Prop)→Prop:=fun x Q=>ob (asI x) fun i=>Q (g i)
section
variable {K:PySem.W.Frag}
theorem rl_I0 {g:Int→Int→V} {g3:Int→Int→T} (h:∀i j H,Rep K H (g i j) (g3 i j)):RL2 K (rI0 g) (i2 g3):=by
 intro c x y Q3 hh Hb G A σ3 σ H vx vy Q R rx ry k
 obtain ⟨i,ei,hh1⟩:=ob_iff.mp hh
 obtain ⟨j,ej,q⟩:=ob_iff.mp hh1
 cases asI_is ei
 cases asI_is ej
 exact ⟨i,j,rx.intI,ry.intI,k _ _ H (Le.refl R.inv) (h i j _) q⟩
theorem rl_I {C:Int→Int→Prop} {g:Int→Int→V} {g3:Int→Int→T} (h:∀i j H,Rep K H (g i j) (g3 i j)):RL2 K (rI C g) (i2c C g3):=by
 intro c x y Q3 hh Hb G A σ3 σ H vx vy Q R rx ry k
 obtain ⟨i,ei,hh1⟩:=ob_iff.mp hh
 obtain ⟨j,ej,hc,q⟩:=ob_iff.mp hh1
 cases asI_is ei
 cases asI_is ej
 exact ⟨i,j,rx.intI,ry.intI,hc,k _ _ H (Le.refl R.inv) (h i j _) q⟩
abbrev add3:=i2 fun i j=>.int (i+j)
abbrev sub3:=i2 fun i j=>.int (i-j)
abbrev mulW3:=i2c CMulW fun i j=>.int (i * j)
abbrev fdivW3:=i2c CDivW fun i j=>.int (i / j)
abbrev mod3:=i2c (fun _ j=>0<j) fun i j=>.int (i % j)
abbrev pow3:=i2c CPow fun i j=>.int (i ^ j.toNat)
theorem rl_add:RL2 K (rI0 fun i j=>.int (i+j)) add3:=rl_I0 fun _ _ _=>.int _
theorem rl_sub:RL2 K (rI0 fun i j=>.int (i-j)) sub3:=rl_I0 fun _ _ _=>.int _
theorem rl_mulW:RL2 K (rI CMulW fun i j=>.int (i * j)) mulW3:=rl_I fun _ _ _=>.int _
theorem rl_fdivW:RL2 K (rI CDivW fun i j=>.int (i / j)) fdivW3:=rl_I fun _ _ _=>.int _
theorem rl_mod:RL2 K (rI (fun _ j=>0<j) fun i j=>.int (i % j)) mod3:=rl_I fun _ _ _=>.int _
theorem rl_pow:RL2 K (rI CPow fun i j=>.int (i ^ j.toNat)) pow3:=rl_I fun _ _ _=>.int _
def isNon:T→Bool
 | .non=>true
 | _=>false
def isN3:T→T→(T→Prop)→Prop:=fun x y Q=>ob (asN y) fun _=>Q (.bl (isNon x))
def notN3:T→T→(T→Prop)→Prop:=fun x y Q=>ob (asN y) fun _=>Q (.bl (!isNon x))
def flatT:T→Option V
 | .non=>some .non
 | .bl b=>some (.bl b)
 | .int i=>some (.int i)
 | .str x=>some (.str x)
 | _=>none
theorem Rep.flat {H:Hp} {v w:V} {t:T} (r:Rep K H v t) (h:flatT t=some w):v=w:=by cases r<;>cases h<;>rfl
def eqS3:T→T→(T→Prop)→Prop:=fun x y Q=>ob (flatT x) fun v=>ob (flatT y) fun w=>scal v w=true∧Q (.bl (decide (v=w)))
def neS3:T→T→(T→Prop)→Prop:=fun x y Q=>ob (flatT x) fun v=>ob (flatT y) fun w=>scal v w=true∧Q (.bl (!decide (v=w)))
theorem rl_neS:RL2 K rNe neS3:=by
 intro c x y Q3 hh Hb G A σ3 σ H vx vy Q R rx ry k
 obtain ⟨v,h1,hh1⟩:=ob_iff.mp hh
 obtain ⟨w,h2,h3,q⟩:=ob_iff.mp hh1
 rw [rx.flat h1,ry.flat h2]
 exact ⟨h3,k _ _ H (Le.refl R.inv) (.bl _) q⟩
def ixL3:T→T→(T→Prop)→Prop:=fun x y Q=>ob (asL x) fun xs=>ob (asI y) fun i=>ob (atI xs i) Q
def ixT3:T→T→(T→Prop)→Prop:=fun x y Q=>ob (asT x) fun xs=>ob (asI y) fun i=>ob (atI xs i) Q
theorem RepL.atI {H:Hp} {vs:List V} {ts:List T} {i:Int} {t:T} (r:RepL K H vs ts) (h:L2.atI ts i=some t):∃v,L2.atI vs i=some v∧Rep K H v t:=by
 unfold L2.atI at h ⊢
 rw [r.length]
 cases e:ixN ts.length i with
 | none=>rw [e] at h;cases h
 | some j=>
   rw [e] at h
   exact r.get h
theorem rl_ixL:RL2 K (rIxL K) ixL3:=by
 intro c x y Q3 hh Hb G A σ3 σ H vx vy Q R rx ry k
 obtain ⟨xs,ex,hh1⟩:=ob_iff.mp hh
 obtain ⟨i,ei,hh2⟩:=ob_iff.mp hh1
 obtain ⟨t,h,q⟩:=ob_iff.mp hh2
 cases asL_is ex
 cases asI_is ei
 obtain ⟨a,vs,rfl,ha,rl⟩:=rx.lstI
 obtain ⟨v,h1,h2⟩:=rl.atI h
 exact ⟨a,vs,i,v,rfl,ry.intI,SqL.of (hid_same _ _ ha),h1,k _ _ H (Le.refl R.inv) h2 q⟩
theorem rl_ixT:RL2 K (rIxT K) ixT3:=by
 intro c x y Q3 hh Hb G A σ3 σ H vx vy Q R rx ry k
 obtain ⟨xs,ex,hh1⟩:=ob_iff.mp hh
 obtain ⟨i,ei,hh2⟩:=ob_iff.mp hh1
 obtain ⟨t,h,q⟩:=ob_iff.mp hh2
 cases asT_is ex
 cases asI_is ei
 obtain ⟨a,vs,rfl,ha,rl⟩:=rx.tupI
 obtain ⟨v,h1,h2⟩:=rl.atI h
 exact ⟨a,vs,i,v,rfl,ry.intI,Same.sqT hid_same ha,h1,k _ _ H (Le.refl R.inv) h2 q⟩
def ixS3:T→T→(T→Prop)→Prop:=fun x y Q=>ob (asS x) fun z=>ob (asI y) fun i=>z.length≤sizeLine∧ob (atI z.cps.toList i) fun c=>Q (.str ⟨#[c]⟩)
theorem rl_ixS:RL2 K rIxS ixS3:=by
 intro c x y Q3 hh Hb G A σ3 σ H vx vy Q R rx ry k
 obtain ⟨z,ez,hh1⟩:=ob_iff.mp hh
 obtain ⟨i,ei,h,hh2⟩:=ob_iff.mp hh1
 obtain ⟨t,h1,q⟩:=ob_iff.mp hh2
 cases asS_is ez
 cases asI_is ei
 exact ⟨z,i,t,rx.strI,ry.intI,h,h1,k _ _ H (Le.refl R.inv) (.str _) q⟩
theorem RL2.or {r r':R2} {q q':T→T→(T→Prop)→Prop} (h:RL2 K r q) (h':RL2 K r' q'):RL2 K (fun x y H Q=>r x y H Q∨r' x y H Q) (fun x y Q=>q x y Q∨q' x y Q):=by
 intro c x y Q3 hh Hb G A σ3 σ H vx vy Q R rx ry k
 rcases hh with hh | hh
 · exact .inl (h c x y Q3 hh Hb G A σ3 σ H vx vy Q R rx ry k)
 · exact .inr (h' c x y Q3 hh Hb G A σ3 σ H vx vy Q R rx ry k)
theorem RLn.or {r r':List V→Hp→VK→Prop} {q q':List T→(T→Prop)→Prop} (h:RLn K r q) (h':RLn K r' q'):RLn K (fun x H Q=>r x H Q∨r' x H Q) (fun x Q=>q x Q∨q' x Q):=by
 intro c x Q3 hh Hb G A σ3 σ H vx Q R rx k
 rcases hh with hh | hh
 · exact .inl (h c x Q3 hh Hb G A σ3 σ H vx Q R rx k)
 · exact .inr (h' c x Q3 hh Hb G A σ3 σ H vx Q R rx k)
def lenT:T→Option Nat
 | .lst xs=>some xs.length
 | .tup xs=>some xs.length
 | .str z=>if z.length≤sizeLine then some z.length else none
 | _=>none
def len3:List T→(T→Prop)→Prop:=fun xs Q=>ob (one xs) fun x=>ob (lenT x) fun n=>Q (.int n)
theorem repL_one {H:Hp} {vs:List V} {t:T} (r:RepL K H vs [t]):∃v,vs=[v]∧Rep K H v t:=by
 cases r with
 | cons r q=>cases q;exact ⟨_,rfl,r⟩
def bls:List T→Option (List Bool)
 | []=>some []
 | .bl b::r=>(bls r).map (b::·)
 | _=>none
def all3:List T→(T→Prop)→Prop:=fun xs Q=>ob (one xs) fun x=>ob (asL x) fun ts=>ob (bls ts) fun bs=>Q (.bl (bs.all id))
def any3:List T→(T→Prop)→Prop:=fun xs Q=>ob (one xs) fun x=>ob (asL x) fun ts=>ob (bls ts) fun bs=>Q (.bl (bs.any id))
def abs3:List T→(T→Prop)→Prop:=fun xs Q=>ob (one xs) fun x=>ob (asI x) fun i=>Q (.int (if i<0 then -i else i))
def max23:List T→(T→Prop)→Prop:=fun xs Q=>ob (two xs) fun p=>ob (asI p.1) fun i=>ob (asI p.2) fun j=>Q (.int (if j>i then j else i))
def min23:List T→(T→Prop)→Prop:=fun xs Q=>ob (two xs) fun p=>ob (asI p.1) fun i=>ob (asI p.2) fun j=>Q (.int (if j<i then j else i))
def tyn:T→Option String
 | .non=>some "NoneType"
 | .bl _=>some "bool"
 | .int _=>some "int"
 | .str _=>some "str"
 | .tup _=>some "tuple"
 | .lst _=>some "list"
 | .dic _=>some "dict"
 | _=>none
def isiB (x c:T):Option Bool:=match c with | .ty n=>(tyn x).bind fun a=>kitB a n | _=>none
def isi3:List T→(T→Prop)→Prop:=fun xs Q=>ob (two xs) fun p=>ob (isiB p.1 p.2) fun b=>Q (.bl b)
theorem TyX.mono {H H':Hp} {v:V} {t:Value} (e:Same H H') (h:TyX K H v t):TyX K H' v t:=by
 cases h with
 | base h=>
   refine .base ?_
   cases h with
   | non=>exact .non
   | bl b=>exact .bl b
   | int i=>exact .int i
   | str x=>exact .str x
   | flt x=>exact .flt x
   | lst h=>exact .lst (e _ _ h)
   | frz h=>exact .frz (e _ _ h)
   | tup h=>exact .tup (e _ _ h)
   | dK h=>exact .dK (e _ _ h)
   | dT h=>exact .dT (e _ _ h)
   | ins h cl ha hn ht hm=>exact .ins (e _ _ h) cl ha hn ht hm
 | byt b=>exact .byt b
 | set h=>exact .set (e _ _ h)
 | kList h c=>exact .kList h c
 | kTuple h c=>exact .kTuple h c
 | kDict h c=>exact .kDict h c
 | fTuple h=>exact .fTuple (e _ _ h)
 | fDict h=>exact .fDict (e _ _ h)
end
theorem kb_non_bool:kitB "NoneType" "bool"=some false:=by decide +kernel
theorem kb_non_int:kitB "NoneType" "int"=some false:=by decide +kernel
theorem kb_non_str:kitB "NoneType" "str"=some false:=by decide +kernel
theorem kb_non_list:kitB "NoneType" "list"=some false:=by decide +kernel
theorem kb_non_tuple:kitB "NoneType" "tuple"=some false:=by decide +kernel
theorem kb_bool_bool:kitB "bool" "bool"=some true:=by decide +kernel
theorem kb_bool_int:kitB "bool" "int"=some true:=by decide +kernel
theorem kb_bool_str:kitB "bool" "str"=some false:=by decide +kernel
theorem kb_bool_list:kitB "bool" "list"=some false:=by decide +kernel
theorem kb_bool_tuple:kitB "bool" "tuple"=some false:=by decide +kernel
theorem kb_int_bool:kitB "int" "bool"=some false:=by decide +kernel
theorem kb_int_int:kitB "int" "int"=some true:=by decide +kernel
theorem kb_int_str:kitB "int" "str"=some false:=by decide +kernel
theorem kb_int_list:kitB "int" "list"=some false:=by decide +kernel
theorem kb_int_tuple:kitB "int" "tuple"=some false:=by decide +kernel
theorem kb_str_bool:kitB "str" "bool"=some false:=by decide +kernel
theorem kb_str_int:kitB "str" "int"=some false:=by decide +kernel
theorem kb_str_str:kitB "str" "str"=some true:=by decide +kernel
theorem kb_str_list:kitB "str" "list"=some false:=by decide +kernel
theorem kb_str_tuple:kitB "str" "tuple"=some false:=by decide +kernel
theorem kb_list_bool:kitB "list" "bool"=some false:=by decide +kernel
theorem kb_list_int:kitB "list" "int"=some false:=by decide +kernel
theorem kb_list_str:kitB "list" "str"=some false:=by decide +kernel
theorem kb_list_list:kitB "list" "list"=some true:=by decide +kernel
theorem kb_list_tuple:kitB "list" "tuple"=some false:=by decide +kernel
theorem kb_tuple_bool:kitB "tuple" "bool"=some false:=by decide +kernel
theorem kb_tuple_int:kitB "tuple" "int"=some false:=by decide +kernel
theorem kb_tuple_str:kitB "tuple" "str"=some false:=by decide +kernel
theorem kb_tuple_list:kitB "tuple" "list"=some false:=by decide +kernel
theorem kb_tuple_tuple:kitB "tuple" "tuple"=some true:=by decide +kernel
theorem kbs:kitB "NoneType" "bool"=some false∧kitB "NoneType" "int"=some false∧kitB "NoneType" "str"=some false∧kitB "NoneType" "list"=some false∧kitB "NoneType" "tuple"=some false∧kitB "bool" "bool"=some true∧kitB "bool" "int"=some true∧kitB "bool" "str"=some false∧kitB "bool" "list"=some false∧kitB "bool" "tuple"=some false∧kitB "int" "bool"=some false∧kitB "int" "int"=some true∧kitB "int" "str"=some false∧kitB "int" "list"=some false∧kitB "int" "tuple"=some false∧kitB "str" "bool"=some false∧kitB "str" "int"=some false∧kitB "str" "str"=some true∧kitB "str" "list"=some false∧kitB "str" "tuple"=some false∧kitB "list" "bool"=some false∧kitB "list" "int"=some false∧kitB "list" "str"=some false∧kitB "list" "list"=some true∧kitB "list" "tuple"=some false∧kitB "tuple" "bool"=some false∧kitB "tuple" "int"=some false∧kitB "tuple" "str"=some false∧kitB "tuple" "list"=some false∧kitB "tuple" "tuple"=some true:=⟨kb_non_bool,kb_non_int,kb_non_str,kb_non_list,kb_non_tuple,kb_bool_bool,kb_bool_int,kb_bool_str,kb_bool_list,kb_bool_tuple,kb_int_bool,kb_int_int,kb_int_str,kb_int_list,kb_int_tuple,kb_str_bool,kb_str_int,kb_str_str,kb_str_list,kb_str_tuple,kb_list_bool,kb_list_int,kb_list_str,kb_list_list,kb_list_tuple,kb_tuple_bool,kb_tuple_int,kb_tuple_str,kb_tuple_list,kb_tuple_tuple⟩
end M3
namespace M3
open PySem L2
structure WalksB (K:PySem.W.Frag) (w:Bool) (V0:Hp) (J:It) (ds:List T):Prop where
 go:∀(i:Nat) d S H,ds[i]? =some d→Same V0 (hid S H)→J.go i H
 yld:∀(i:Nat) d S H x H',ds[i]? =some d→Same V0 (hid S H)→(∀a∈S,H a≠none)→J.yld i H x H'→(H'=H∨∃p o,H p=none∧H'=upd H p o)∧RepB K w (hid S H') x d
 stop:∀S H,Same V0 (hid S H)→J.stop ds.length H
abbrev Walks (K:PySem.W.Frag) (V0:Hp) (J:It) (ds:List T):Prop:=WalksB K false V0 J ds
def LiftIB (K:PySem.W.Frag) (c:Cf) (w:Bool) (W:WX) (wi:TI) (t:A3):Prop:=
 ∀σ3 Q3 X,t σ3 Q3 X→∀Hb G A σ H R',R3 K c Hb G A σ3 σ H→
  (∀J ds H',Le c G A H H'→WalksB K w (hid (c.S G A) H') J ds→Q3 ds→R' J H')→
  (∀cls dd x H',Le c G A H H'→XRep K (hid (c.S G A) H') cls dd x→X x→W cls dd σ H')→wi σ H R'
abbrev LiftI (K:PySem.W.Frag) (c:Cf) (W:WX) (wi:TI) (t:A3):Prop:=LiftIB K c false W wi t
section
variable {K:PySem.W.Frag} {c:Cf} {W:WX} {ta tb te:TE} {a b e:E3}
theorem walks_list {V0:Hp} {a:Addr} {vs:List V} {ds:List T} (h:V0 a=some (.lst vs)) (r:RepL K V0 vs ds):Walks K V0 (Itl K a) ds where
 go:=fun i d S H hd e=>by
  obtain ⟨v,hv,_⟩:=r.get hd
  exact ⟨vs,v,SqL.of (hid_same _ _ (e _ _ h)),hv⟩
 yld:=fun i d S H x H' hd e _ y=>by
  obtain ⟨v,hv,rv⟩:=r.get hd
  obtain ⟨rfl,y⟩:=y
  have z:=y vs (SqL.of (hid_same _ _ (e _ _ h)))
  rw [hv] at z
  cases z
  exact ⟨.inl rfl,.inl (rv.mono e)⟩
 stop:=fun S H e=>⟨vs,SqL.of (hid_same _ _ (e _ _ h)),by rw [r.length];exact Nat.le_refl _⟩
theorem walks_tup {V0:Hp} {a:Addr} {vs:List V} {ds:List T} (h:SqT K V0 a vs) (r:RepL K V0 vs ds):Walks K V0 (Itt K a) ds where
 go:=fun i d S H hd e=>by
  obtain ⟨v,hv,_⟩:=r.get hd
  exact ⟨vs,v,Same.sqT hid_same (Same.sqT e h),hv⟩
 yld:=fun i d S H x H' hd e _ y=>by
  obtain ⟨v,hv,rv⟩:=r.get hd
  obtain ⟨rfl,y⟩:=y
  have z:=y vs (Same.sqT hid_same (Same.sqT e h))
  rw [hv] at z
  cases z
  exact ⟨.inl rfl,.inl (rv.mono e)⟩
 stop:=fun S H e=>⟨vs,Same.sqT hid_same (Same.sqT e h),by rw [r.length];exact Nat.le_refl _⟩
def rangeT (lo:Int) (n:Nat):List T:=(List.range n).map fun i=>.int (lo+(i:Nat))
theorem walks_range {V0:Hp} (lo:Int) (n:Nat):Walks K V0 (Itr lo n) (rangeT lo n) where
 go:=fun i d S H hd e=>by
  have:=(List.getElem?_eq_some_iff.mp hd).1
  show i<n
  simpa [rangeT] using this
 yld:=fun i d S H x H' hd e _ y=>by
  obtain ⟨rfl,rfl⟩:=y
  have hl:=(List.getElem?_eq_some_iff.mp hd).1
  have hl:i<n:=by simpa [rangeT] using hl
  have z:(rangeT lo n)[i]? =some (.int (lo+(i:Nat))):=by
   unfold rangeT
   rw [List.getElem?_map,List.getElem?_range hl]
   rfl
  rw [z] at hd
  cases hd
  exact ⟨.inl rfl,.inl (.int _)⟩
 stop:=fun S H e=>by
  show n≤_
  simp [rangeT]
def iterR3 (x:A3):A3:=fun σ Q X=>x σ (fun ds=>ob (one ds) fun d=>ob (asI d) fun j=> -(2 ^ 62)≤j∧j<2 ^ 62∧Q (rangeT 0 j.toNat)) X
theorem lift_iR {t:TA} {x:A3} (ha:LiftA K c W t x):LiftI K c W (iRng1 t) (iterR3 x):=by
 intro σ3 Q3 X h Hb G A σ H R' R k e
 refine ha _ _ _ h Hb G A σ H _ R (fun v d H1 L1 r q=> ?_) e
 obtain ⟨d,ed,q1⟩:=ob_iff.mp q
 obtain ⟨j,ej,h1,h2,q2⟩:=ob_iff.mp q1
 cases one_is ed
 cases asI_is ej
 obtain ⟨v,rfl,rv⟩:=repL_one r
 cases rv.intI
 exact ⟨j,rfl,h1,h2,k _ _ H1 L1 (walks_range 0 j.toNat) q2⟩
end
section
variable {K:PySem.W.Frag} {c:Cf} {Hb H H1 H':Hp} {G:List Addr} {A A':List (Option Addr)} {σ3 σ3':List Sl} {σ σ':St}
theorem R3.rebase (r:R3 K c Hb G A σ3 σ H):R3 K c (out (addrs A) H) G A σ3 σ H where
 inv:=r.inv
 base:=fun a o e=>by
  obtain ⟨e1,e2⟩:=hid_some e
  obtain ⟨e3,e4⟩:=out_some e1
  exact hid_mk e3 fun z=>by
   rcases mem_S.mp z with z | z | z
   · exact e2 (List.mem_append.mpr (.inl z))
   · exact e2 (List.mem_append.mpr (.inr z))
   · exact e4 z
 gk:=fun a h=>⟨by rw [out_out (fun z=>r.ns a z (List.mem_append.mpr (.inr h)))],(r.gk a h).2⟩
 gv:=r.gv
 nd:=r.nd
 ns:=r.ns
 l1:=r.l1
 l2:=r.l2
 at_:=r.at_
theorem rebase_vis:Same (hid (c.S G A) H1) (hid (c.S0++G) (out (addrs A) H1)):=fun a o e=>by
 obtain ⟨e1,e2⟩:=hid_some e
 refine hid_mk (by rw [out_out fun z=>e2 (mem_S.mpr (.inr (.inr z)))];exact e1) (fun z=>e2 ?_)
 rcases List.mem_append.mp z with z | z
 · exact mem_S.mpr (.inl z)
 · exact mem_S.mpr (.inr (.inl z))
theorem Fin3.debase (r:R3 K c Hb G A σ3 σ H1) (q:Fin3 K c (out (addrs A) H1) G H'):Fin3 K c Hb G H' where
 inv:=q.inv
 base:=Same.trans r.base (Same.trans rebase_vis q.base)
 gk:=fun a h=>by rw [q.gk a h,out_out (fun z=>r.ns a z (List.mem_append.mpr (.inr h))),(r.gk a h).1]
theorem FinR.debase {v:V} {d:T} (r:R3 K c Hb G A σ3 σ H1) (q:FinR K c (out (addrs A) H1) G H' v d):FinR K c Hb G H' v d:=by
 cases e:c.fr with
 | false=>
   unfold FinR at q ⊢
   rw [e] at q ⊢
   exact ⟨Fin3.debase r q.1,q.2⟩
 | true=>
   unfold FinR at q ⊢
   rw [e] at q ⊢
   obtain ⟨D,h1,h2,h3,h4,h5,h6⟩:=q
   exact ⟨D,h1,h2,h3,Same.trans r.base (Same.trans rebase_vis h4),fun a h=>by rw [h5 a h,out_out (fun z=>r.ns a z (List.mem_append.mpr (.inr h))),(r.gk a h).1],h6⟩
theorem R3.debase (r:R3 K c Hb G A σ3 σ H1) (q:R3 K c (out (addrs A) H1) G A' σ3' σ' H'):R3 K c Hb G A' σ3' σ' H' where
 inv:=q.inv
 base:=Same.trans r.base (Same.trans rebase_vis q.base)
 gk:=fun a h=>⟨by rw [(q.gk a h).1,out_out (fun z=>r.ns a z (List.mem_append.mpr (.inr h))),(r.gk a h).1],(q.gk a h).2⟩
 gv:=q.gv
 nd:=q.nd
 ns:=q.ns
 l1:=q.l1
 l2:=q.l2
 at_:=q.at_
end
def wipe3 (σ:List Sl):List Nat→List Sl
 | []=>σ
 | v::vs=>(wipe3 σ vs).set v .no
def noOwn (σ:List Sl) (vs:List Nat):Prop:=∀i∈vs,∀t,σ[i]? ≠some (.own t)
def yes3:B3:=fun _ Q _=>Q true
section
variable {K:PySem.W.Frag} {c:Cf} {W:WX} {Hb H H1 H':Hp} {G:List Addr} {A A':List (Option Addr)} {σ3 σ3':List Sl} {σ σ':St}
theorem lift_yes:LiftT K c W tYes yes3:=by
 intro σ3 Q3 X h Hb G A σ H Q R k e
 exact k true true H (Le.refl R.inv) rfl h
theorem wipe3_own:∀ {vs:List Nat} {σ:List Sl} {i:Nat} {t:T},(wipe3 σ vs)[i]? =some (.own t)→σ[i]? =some (.own t)
 | [],_,_,_,h=>h
 | v::vs,σ,i,t,h=>by
   rcases getElem?_set_cases (show ((wipe3 σ vs).set v .no)[i]? =some (.own t) from h) with ⟨_,e,_⟩ | ⟨_,e⟩
   · cases e
   · exact wipe3_own e
theorem set_eq_self {α:Type} {l:List α} {i:Nat} {x:α} (h:l[i]? =some x∨l.length≤i):l.set i x=l:=by
 apply List.ext_getElem?
 intro j
 by_cases e:i=j
 · subst e
   rcases h with h | h
   · rw [List.getElem?_set_self (List.getElem?_eq_some_iff.mp h).1,h]
   · rw [List.getElem?_eq_none (by simpa using h),List.getElem?_eq_none h]
 · rw [List.getElem?_set_ne e]
theorem R3.wiped (r:R3 K c Hb G A σ3 σ H):∀ {vs:List Nat},noOwn σ3 vs→R3 K c Hb G A (wipe3 σ3 vs) (wipe σ vs) H
 | [],_=>r
 | v::vs,h=>by
   have ih:=R3.wiped r (vs:=vs) fun i hi=>h i (List.mem_cons_of_mem _ hi)
   have z:=ih.wipe1 v none
   have e:A.set v none=A:=by
    apply set_eq_self
    by_cases hv:v<A.length
    · left
      have h1:v<(wipe3 σ3 vs).length:=by rw [←ih.l1];exact hv
      have h2:v<(wipe σ vs).length:=by rw [ih.l2];exact h1
      have q:=ih.at_ v _ _ _ (List.getElem?_eq_getElem h1) (List.getElem?_eq_getElem hv) (List.getElem?_eq_getElem h2)
      rw [List.getElem?_eq_getElem hv]
      cases e:(wipe3 σ3 vs)[v] with
      | no=>rw [e] at q;rw [q]
      | val t=>rw [e] at q;rw [q.1]
      | own t=>
        have w1:(wipe3 σ3 vs)[v]? =some (.own t):=by rw [List.getElem?_eq_getElem h1,e]
        exact absurd (wipe3_own w1) (h v (List.mem_cons_self ..) t)
    · exact .inr (Nat.le_of_not_lt hv)
   rw [e] at z
   exact z
theorem wipe_eq:∀ {vs:List Nat} {σ σ':St},σ'.length=σ.length→(∀j:Nat,j ∉ vs→σ'[j]? =σ[j]?)→wipe σ' vs=wipe σ vs:=by
 intro vs σ σ' hl h
 apply List.ext_getElem?
 intro j
 by_cases hj:j∈vs
 · have z:∀ {vs:List Nat} (σ:St),j∈vs→(wipe σ vs)[j]? =if j<σ.length then some none else none:=by
    intro vs
    induction vs with
    | nil=>intro σ h;cases h
    | cons v vs ih=>
      intro σ hm
      show ((wipe σ vs).set v none)[j]? =_
      by_cases e:v=j
      · subst e
        by_cases hv:v<σ.length
        · rw [List.getElem?_set_self (by rw [wipe_length];exact hv),if_pos hv]
        · rw [List.getElem?_eq_none (by simp [wipe_length];omega),if_neg hv]
      · rw [List.getElem?_set_ne e]
        rcases List.mem_cons.mp hm with q | q
        · exact absurd q.symm e
        · exact ih σ q
   rw [z σ' hj,z σ hj,hl]
 · rw [wipe_out hj,wipe_out hj,h j hj]
theorem wipe_wipe {vs:List Nat} {σ:St}:wipe (wipe σ vs) vs=wipe σ vs:=wipe_eq (wipe_length _ _) fun j hj=>wipe_out hj
theorem R3.under (r:R3 K c Hb G A σ3 σ H1) {D:Addr} {o:HO} (hD:H1 D=none) (hd:H D=some o) (vis:Same (hid (c.S G A) H1) (hid (D::c.S G A) H)) (own:∀a∈G++addrs A,H a=H1 a) (inv:c.I H) (ho:c.gOk o):
 R3 K c (out (addrs A) H) (D::G) A σ3 σ H:=by
 have nD:D ∉ c.S G A:=r.free hD
 have sub:∀a,a∈c.S (D::G) A↔a∈D::c.S G A:=fun a=>by
  rw [mem_S,List.mem_cons,List.mem_cons,mem_S]
  exact ⟨fun h=>by rcases h with h | (h | h) | h<;>simp [h],fun h=>by rcases h with h | h | h | h<;>simp [h]⟩
 have vis2:Same (hid (c.S G A) H1) (hid (c.S (D::G) A) H):=Same.trans vis (hid_mono fun a h=>(sub a).mp h)
 refine ⟨inv, ?_, ?_, ?_,r.nd, ?_,r.l1,r.l2, ?_⟩
 · intro a o e
   obtain ⟨e1,e2⟩:=hid_some e
   obtain ⟨e3,e4⟩:=out_some e1
   exact hid_mk e3 fun z=>by
    rcases mem_S.mp z with z | z | z
    · exact e2 (List.mem_append.mpr (.inl z))
    · exact e2 (List.mem_append.mpr (.inr z))
    · exact e4 z
 · intro a h
   rcases List.mem_cons.mp h with rfl | h
   · exact ⟨by rw [out_out (fun z=>nD (mem_S.mpr (.inr (.inr z))))],(by rw [hd];intro z;cases z),fun z=>nD (mem_S.mpr (.inl z))⟩
   · have e:=own a (List.mem_append.mpr (.inl h))
     exact ⟨by rw [out_out (fun z=>r.ns a z (List.mem_append.mpr (.inr h)))],by rw [e];exact (r.gk a h).2.1,(r.gk a h).2.2⟩
 · intro a h u e
   rcases List.mem_cons.mp h with rfl | h
   · rw [hd] at e;cases e;exact ho
   · exact r.gv a h u (by rw [←own a (List.mem_append.mpr (.inl h))];exact e)
 · intro a h z
   rcases List.mem_append.mp z with z | z
   · exact r.ns a h (List.mem_append.mpr (.inl z))
   · rcases List.mem_cons.mp z with rfl | z
     · exact nD (mem_S.mpr (.inr (.inr h)))
     · exact r.ns a h (List.mem_append.mpr (.inr z))
 · intro i s o x h1 h2 h3
   have z:=r.at_ i s o x h1 h2 h3
   cases s with
   | no=>exact z
   | val t=>obtain ⟨e,v,e2,q⟩:=z;exact ⟨e,v,e2,q.mono vis2⟩
   | own t=>
     obtain ⟨a,e,e2,q⟩:=z
     refine ⟨a,e,e2,q.mono vis2 (own a (List.mem_append.mpr (.inr (mem_addrs.mpr ?_))))⟩
     subst e
     exact List.mem_of_getElem? h2
theorem hid_upd_in {S:List Addr} {H:Hp} {D:Addr} {o:HO} (h:D∈S):hid S (upd H D o)=hid S H:=by
 funext a
 by_cases e:a∈S
 · rw [hid_in e,hid_in e]
 · unfold hid
   rw [out_out e,out_out e,upd_ne (fun z=>e (by rw [z];exact h))]
end
end M3
namespace M3
open PySem L2
structure Cl (P:Program) (w:World) (K:PySem.W.Frag) (mg:Str→Option Value) (base:Heap) (CX:CXT) (x:Str) (k:Nat) (dvs:List V) (sp:Sp):Prop where
 ex:∃(f:Addr) (fd:FuncData) (ps:List Str) (ds:List Value),FnOk P w K mg base CX k f fd ps sp∧mg x=some (.ref f)∧PySem.W.keepIn K (.ref f)=true∧Binds K fd ps ds∧Vals dvs ds
section
variable {X:Cx} {CX:CXT} {k n:Nat} {sp:Sp} {dvs:List V} {E:XK} {x:Str} {p pos:Pos} {e:Expr} {es:List Expr} {kws:List Keyword} {ks:List Str} {t tk:TA} {gV:List V→List V→List V}
theorem pe_cl (C:Cl X.prog X.w X.K X.mg X.base CX x k dvs sp) (hr:Room k X.A) (hg:Gl X x) (hx:Passes CX X E)
 (ha:PA X (e::es) t) (hdb:(x==("__debug__":Str))=false:=by decide) (he:starEach (e::es) X.env=(false,eval e X.env)::starEach es X.env:=by rfl) (hpl:(backTo pos (starEach es X.env)).any (·.1)=false:=by rfl):
 PE X (.Call (.Name x p) (e::es) [] pos) (tCall sp dvs E t):=by
 obtain ⟨f,fd,ps,ds,F,hm,hk,hb,hd⟩:=C.ex
 exact pe_call F hr hg hm hk hb hd hx ha hdb he hpl
end
def fnN30 (n:Nat) (f:F3) (g:List T→List T→List T) (m j:Nat) (x y:A3):E3:=fun σ Q X=>x σ (fun ds=>y σ (fun es=>ds.length=m∧es.length=j∧(g ds es).length=n∧f (g ds es) Q (fun _=>False)) X) X
def fnN3 (n:Nat) (f:F3) (g:List T→List T→List T) (m j:Nat) (x y:A3):E3:=fun σ Q X=>x σ (fun ds=>y σ (fun es=>ds.length=m∧es.length=j∧(g ds es).length=n∧f (g ds es) Q X) X) X
section
variable {K:PySem.W.Frag} {c:Cf} {W:WX}
theorem lift_po0:LiftO K c W tNoPart (fun _ Q _=>Q none):=by
 intro σ3 Q3 X h Hb G A σ H Q R k e
 exact k none none H (Le.refl R.inv) rfl h
def part3 (a:E3):G3 (Option Int):=fun σ Q X=>a σ (fun x=>ob (asI x) fun i=>Q (some i)) X
theorem lift_po {ta:TE} {a:E3} (ha:Lift K c W ta a):LiftO K c W (tPart ta) (part3 a):=by
 intro σ3 Q3 X h Hb G A σ H Q R k e
 refine ha _ _ _ h Hb G A σ H _ R (fun vx x H1 L1 rx hx=> ?_) e
 obtain ⟨i,ei,q⟩:=ob_iff.mp hx
 cases asI_is ei
 exact ⟨i,rx.intI,k _ _ H1 L1 rfl q⟩
def cut {α:Type} (xs:List α) (lo hi:Option Int):List α:=(xs.drop (HT.sIx xs.length 0 lo)).take (HT.sIx xs.length xs.length hi-HT.sIx xs.length 0 lo)
theorem RepL.cut {H:Hp} {vs:List V} {ts:List T} (r:RepL K H vs ts) (lo hi:Option Int):RepL K H (cutV vs lo hi) (M3.cut ts lo hi):=by
 unfold cutV M3.cut
 rw [r.length]
 exact (r.drop _).take _
def sl3 (q:T→Option Int→Option Int→(T→Prop)→Prop) (a:E3) (l h:G3 (Option Int)):E3:=fun σ Q X=>a σ (fun x=>l σ (fun lo=>h σ (fun hi=>q x lo hi Q) X) X) X
def RLs (K:PySem.W.Frag) (r:V→Option Int→Option Int→Hp→VK→Prop) (q:T→Option Int→Option Int→(T→Prop)→Prop):Prop:=
 ∀(c:Cf) x lo hi Q3,q x lo hi Q3→∀Hb G A σ3 σ H vx Q,R3 K c Hb G A σ3 σ H→Rep K (hid (c.S G A) H) vx x→
  (∀v d H',Le c G A H H'→Rep K (hid (c.S G A) H') v d→Q3 d→Q v H')→r vx lo hi H Q
theorem lift_sl {r:V→Option Int→Option Int→Hp→VK→Prop} {q:T→Option Int→Option Int→(T→Prop)→Prop} {ta:TE} {a:E3} {tl th:TO} {l h:G3 (Option Int)} (hr:RLs K r q) (ha:Lift K c W ta a) (hl:LiftO K c W tl l) (hh:LiftO K c W th h):
 Lift K c W (tSl r ta tl th) (sl3 q a l h):=by
 intro σ3 Q3 X hq Hb G A σ H Q R k e
 refine ha _ _ _ hq Hb G A σ H _ R (fun vx x H1 L1 rx hx=> ?_) e
 refine hl _ _ _ hx Hb G A σ H1 _ (R.le L1) (fun lo lo' H2 L2 e2 hy=> ?_) (fun cls dd x H' L=>e cls dd x H' (L1.trans L))
 subst e2
 refine hh _ _ _ hy Hb G A σ H2 _ ((R.le L1).le L2) (fun hi hi' H3 L3 e3 hz=> ?_) (fun cls dd x H' L=>e cls dd x H' ((L1.trans L2).trans L))
 subst e3
 exact hr c _ _ _ _ hz Hb G A σ3 σ H3 vx Q (((R.le L1).le L2).le L3) (rx.mono (Same.trans L2.vis L3.vis)) (fun v d H' L=>k v d H' (((L1.trans L2).trans L3).trans L))
def cutL3:T→Option Int→Option Int→(T→Prop)→Prop:=fun x lo hi Q=>ob (asL x) fun xs=>Q (.lst (cut xs lo hi))
def cutT3:T→Option Int→Option Int→(T→Prop)→Prop:=fun x lo hi Q=>ob (asT x) fun xs=>Q (.tup (cut xs lo hi))
def cutS3:T→Option Int→Option Int→(T→Prop)→Prop:=fun x lo hi Q=>ob (asS x) fun z=>z.length≤sizeLine∧Q (.str (cutS z lo hi))
theorem rl_slL:RLs K (rSlL K) cutL3:=by
 intro c x lo hi Q3 hh Hb G A σ3 σ H vx Q R rx k
 obtain ⟨xs,ex,q⟩:=ob_iff.mp hh
 cases asL_is ex
 obtain ⟨a,vs,rfl,ha,rl⟩:=rx.lstI
 refine ⟨a,vs,rfl,SqL.of (hid_same _ _ ha),fun p hp=> ?_⟩
 have L:=R.new (o:=.lst (cutV vs lo hi)) hp
 exact k _ _ _ L (.mkL (R.newAt hp) ((rl.mono L.vis).cut lo hi)) q
theorem cut_whole {α:Type} {xs:List α} {lo hi:Option Int} (h:HT.sIx xs.length 0 lo=0∧HT.sIx xs.length xs.length hi=xs.length):cut xs lo hi=xs:=by
 unfold cut
 rw [h.1,h.2,List.drop_zero,Nat.sub_zero,List.take_length]
theorem rl_slT:RLs K (rSlF K) cutT3:=by
 intro c x lo hi Q3 hh Hb G A σ3 σ H vx Q R rx k
 obtain ⟨xs,ex,q⟩:=ob_iff.mp hh
 cases asT_is ex
 obtain ⟨a,vs,rfl,ha,rl⟩:=rx.tupI
 refine ⟨a,vs,rfl,Same.sqT hid_same ha,fun hw=> ?_,fun _ p o hp hd=> ?_⟩
 · rw [rl.length] at hw
   refine k _ _ _ (Le.refl R.inv) rx ?_
   rw [cut_whole hw] at q
   exact q
 · have L:=R.new (o:=.frz o (.tup (cutV vs lo hi))) hp
   exact k _ _ _ L (.mkT (FqT.of hd (R.newAt hp)) ((rl.mono L.vis).cut lo hi)) q
theorem rl_slS:RLs K rSlS cutS3:=by
 intro c x lo hi Q3 hh Hb G A σ3 σ H vx Q R rx k
 obtain ⟨z,ez,hz,q⟩:=ob_iff.mp hh
 cases asS_is ez
 exact ⟨z,rx.strI,hz,k _ _ H (Le.refl R.inv) (.str _) q⟩
def catL3:T→T→(T→Prop)→Prop:=fun x y Q=>ob (asL x) fun xs=>ob (asL y) fun ys=>xs.length+ys.length≤sizeLine∧Q (.lst (xs++ys))
def catT3:T→T→(T→Prop)→Prop:=fun x y Q=>ob (asT x) fun xs=>ob (asT y) fun ys=>xs.length+ys.length≤sizeLine∧Q (.tup (xs++ys))
def catS3:T→T→(T→Prop)→Prop:=fun x y Q=>ob (asS x) fun a=>ob (asS y) fun b=>a.length+b.length≤sizeLine∧Q (.str (a++b))
def repL3:T→T→(T→Prop)→Prop:=fun x y Q=>ob (asL x) fun xs=>ob (asI y) fun k=> -(2 ^ 63)≤k∧k<2 ^ 63∧xs.length * k.toNat≤sizeLine∧Q (.lst (List.replicate k.toNat xs).flatten)
theorem rl_catL:RL2 K rCat catL3:=by
 intro c x y Q3 hh Hb G A σ3 σ H vx vy Q R rx ry k
 obtain ⟨xs,ex,hh1⟩:=ob_iff.mp hh
 obtain ⟨ys,ey,hl,q⟩:=ob_iff.mp hh1
 cases asL_is ex
 cases asL_is ey
 obtain ⟨a,vs,rfl,ha,rl⟩:=rx.lstI
 obtain ⟨b,ws,rfl,hb,rm⟩:=ry.lstI
 refine ⟨a,b,vs,ws,rfl,rfl,hid_same _ _ ha,hid_same _ _ hb,by rw [rl.length,rm.length];exact hl,fun p hp=> ?_⟩
 have L:=R.new (o:=.lst (vs++ws)) hp
 exact k _ _ _ L (.mkL (R.newAt hp) ((rl.mono L.vis).append (rm.mono L.vis))) q
theorem rl_catT:RL2 K (rCatF K) catT3:=by
 intro c x y Q3 hh Hb G A σ3 σ H vx vy Q R rx ry k
 obtain ⟨xs,ex,hh1⟩:=ob_iff.mp hh
 obtain ⟨ys,ey,hl,q⟩:=ob_iff.mp hh1
 cases asT_is ex
 cases asT_is ey
 obtain ⟨a,vs,rfl,ha,rl⟩:=rx.tupI
 obtain ⟨b,ws,rfl,hb,rm⟩:=ry.tupI
 refine ⟨a,b,vs,ws,rfl,rfl,Same.sqT hid_same ha,Same.sqT hid_same hb,by rw [rl.length,rm.length];exact hl,fun h=> ?_,fun _ h=> ?_,fun _ _ p o hp hd=> ?_⟩
 · subst h
   cases rl
   exact k _ _ _ (Le.refl R.inv) ry q
 · subst h
   cases rm
   rw [List.append_nil] at q
   exact k _ _ _ (Le.refl R.inv) rx q
 · have L:=R.new (o:=.frz o (.tup (vs++ws))) hp
   exact k _ _ _ L (.mkT (FqT.of hd (R.newAt hp)) ((rl.mono L.vis).append (rm.mono L.vis))) q
theorem rl_catS:RL2 K (fun x y H Q=>∃i j,x= .str i∧y= .str j∧i.length+j.length≤sizeLine∧Q (.str (i++j)) H) catS3:=by
 intro c x y Q3 hh Hb G A σ3 σ H vx vy Q R rx ry k
 obtain ⟨a,ea,hh1⟩:=ob_iff.mp hh
 obtain ⟨b,eb,hl,q⟩:=ob_iff.mp hh1
 cases asS_is ea
 cases asS_is eb
 exact ⟨a,b,rx.strI,ry.strI,hl,k _ _ H (Le.refl R.inv) (.str _) q⟩
theorem RepL.times {H:Hp} {vs:List V} {ts:List T} (r:RepL K H vs ts):∀n:Nat,RepL K H (List.replicate n vs).flatten (List.replicate n ts).flatten
 | 0=>.nil
 | n+1=>by
   rw [List.replicate_succ,List.replicate_succ,List.flatten_cons,List.flatten_cons]
   exact r.append (RepL.times r n)
theorem rl_repL:RL2 K rRep repL3:=by
 intro c x y Q3 hh Hb G A σ3 σ H vx vy Q R rx ry k
 obtain ⟨xs,ex,hh1⟩:=ob_iff.mp hh
 obtain ⟨n,en,h1,h2,hl,q⟩:=ob_iff.mp hh1
 cases asL_is ex
 cases asI_is en
 obtain ⟨a,vs,rfl,ha,rl⟩:=rx.lstI
 refine ⟨a,n,vs,rfl,ry.intI,hid_same _ _ ha,h1,h2,by rw [rl.length];exact hl,fun p hp=> ?_⟩
 have L:=R.new (o:=.lst (List.replicate n.toNat vs).flatten) hp
 exact k _ _ _ L (.mkL (R.newAt hp) ((rl.mono L.vis).times _)) q
end
end M3
namespace M3
open PySem L2
def PotAt (p cc:Addr) (H:Hp):Prop:=
 ∃(cs:List Int) (i n s:Int),H p=some (.lst [.ref cc,.int i,.int n,.int s])∧H cc=some (.lst (cs.map V.int))∧0≤i∧i<cs.length∧cs.length≤1000∧(∀z∈cs,0≤z)∧0≤s∧s<2147483647
theorem PotAt.stay {p cc:Addr} {H H':Hp} (h:PotAt p cc H) (e1:H' p=H p) (e2:H' cc=H cc):PotAt p cc H':=by
 obtain ⟨cs,i,n,s,h1,h2,r⟩:=h
 exact ⟨cs,i,n,s,by rw [e1];exact h1,by rw [e2];exact h2,r⟩
def fnP30 (p:Addr) (n:Nat) (f:F3) (x:A3) (dvs:List T):E3:=fun σ Q X=>x σ (fun ds=>ds.head? =some (T.ref p)∧(ds++dvs).length=n∧f (ds++dvs) Q (fun _=>False)) X
def take3:F3:=fun ds Q _=>ob (two ds) fun p=>ob (asI p.2) fun m=>0<m∧m<2 ^ 200∧∀r,0≤r→r<m→Q (.int r)
section
variable {K:PySem.W.Frag}
def isB3:T→T→(T→Prop)→Prop:=fun x y Q=>ob (asB x) fun a=>ob (asB y) fun b=>Q (.bl (decide (a=b)))
end
end M3
namespace M3
open PySem L2
section
variable {X:Cx} {K:PySem.W.Frag} {pos:Pos}
theorem ix_listK (h:X.K=K):IxR X (rIxL K):=h ▸ ix_list
theorem ix_tupK (h:X.K=K):IxR X (rIxT K):=h ▸ ix_tup
theorem ix_strK (h:X.K=K):IxR X rIxS:=ix_str
theorem sl_listK (h:X.K=K):SlR X (rSlL K):=h ▸ sl_list
theorem sl_tupK (h:X.K=K):SlR X (rSlF K):=h ▸ sl_tupF
theorem sl_strK (h:X.K=K):SlR X rSlS:=sl_str
theorem op_catTK (h:X.K=K):OpR X (binaryOp .Add) (rCatF K):=h ▸ op_catF
end
section
variable {K:PySem.W.Frag} {c:Cf} {W:WX}
def truT:T→Option Bool
 | .non=>some false
 | .bl b=>some b
 | .int i=>some (i != 0)
 | .str y=>if y.length≤sizeLine then some ((y.length:Int) != 0) else none
 | .lst xs=>some (!xs.isEmpty)
 | .tup xs=>some (!xs.isEmpty)
 | _=>none
def truth3 (a:E3):B3:=fun σ Q X=>a σ (fun x=>ob (truT x) Q) X
theorem RepL.isEmpty {H:Hp} {vs:List V} {ts:List T} (r:RepL K H vs ts):vs.isEmpty=ts.isEmpty:=by cases r<;>rfl
end
end M3
namespace M3
open PySem L2
def spLaw (K:PySem.W.Frag):Sp:=fun vs H Q _=>∃(a:Addr) (ns:List Int),vs=[.ref a]∧SqL K H a (ns.map V.int)∧∀H',Q (.bl true) H'
end M3
namespace M3
open PySem L2
end M3
namespace M3
open PySem L2
section
variable {K:PySem.W.Frag} {c:Cf} {W:WX}
def raise3 (cls:Value):S3:=fun N σ=>N.xn σ ⟨cls,[]⟩
end
end M3
namespace M3
open PySem L2
section
variable {X:Cx} {K:PySem.W.Frag}
theorem op_neDK (h:X.K=K) (hu:X.A.units+64<cLine):OpR X (compareOp .NotEq) (rNeD K):=h ▸ op_neD hu
end
mutual
def dat:T→Option PyData
 | .non=>some .none
 | .bl b=>some (.bool b)
 | .int i=>some (.int i)
 | .str x=>some (.str x)
 | .tup xs=>(dats xs).map .tuple
 | .lst xs=>(dats xs).map .list
 | .ty _=>none
 | .ref _=>none
 | .dic _=>none
 | .ins _ _=>none
 | .kd _ _=>none
def dats:List T→Option (List PyData)
 | []=>some []
 | t::ts=>(dat t).bind fun d=>(dats ts).map (d::·)
end
mutual
theorem dp_of {K:PySem.W.Frag} {H H':Hp} (s:Same H H'):∀(t:T) (v:V) (d:PyData),Rep K H v t→dat t=some d→Dp K H' v d
 | .non,v,d,r,h=>by
   cases h
   cases r
   exact .non
 | .bl b,v,d,r,h=>by
   cases h
   cases r
   exact .bl _
 | .int i,v,d,r,h=>by
   cases h
   cases r
   exact .int _
 | .str x,v,d,r,h=>by
   cases h
   cases r
   exact .str _
 | .tup xs,v,d,r,h=>by
   obtain ⟨a,vs,rfl,ha,rl⟩:=r.tupI
   have h:(dats xs).map PyData.tuple=some d:=by simpa [dat] using h
   cases e:dats xs with
   | none=>rw [e] at h;cases h
   | some ds=>
     rw [e] at h
     cases h
     exact .tup (Same.sqT s ha) (dps_of s xs vs ds rl e)
 | .lst xs,v,d,r,h=>by
   obtain ⟨a,vs,rfl,ha,rl⟩:=r.lstI
   have h:(dats xs).map PyData.list=some d:=by simpa [dat] using h
   cases e:dats xs with
   | none=>rw [e] at h;cases h
   | some ds=>
     rw [e] at h
     cases h
     exact .lst (SqL.of (s _ _ ha)) (dps_of s xs vs ds rl e)
 | .ty _,v,d,r,h=>by simp [dat] at h
 | .ref _,v,d,r,h=>by simp [dat] at h
 | .dic _,v,d,r,h=>by simp [dat] at h
 | .ins _ _,v,d,r,h=>by simp [dat] at h
 | .kd _ _,v,d,r,h=>by simp [dat] at h
theorem dps_of {K:PySem.W.Frag} {H H':Hp} (s:Same H H'):∀(ts:List T) (vs:List V) (ds:List PyData),RepL K H vs ts→dats ts=some ds→DpAll K H' vs ds
 | [],vs,ds,r,h=>by
   cases h
   cases r
   exact .nil
 | t::ts,vs,ds,r,h=>by
   have h:(dat t).bind (fun d=>(dats ts).map (d::·))=some ds:=by simpa [dats] using h
   cases e:dat t with
   | none=>rw [e] at h;cases h
   | some d=>
     rw [e] at h
     cases e2:dats ts with
     | none=>rw [e2] at h;cases h
     | some es=>
       rw [e2] at h
       cases h
       cases r with
       | cons r1 r2=>exact .cons (dp_of s t _ _ r1 e) (dps_of s ts _ _ r2 e2)
end
section
variable {K:PySem.W.Frag}
def eqD3:T→T→(T→Prop)→Prop:=fun x y Q=>ob (dat x) fun d=>ob (dat y) fun e=>SeqAt.shaped d=true∧SeqAt.shaped e=true∧Q (.bl (PyData.eqv d e))
def neD3:T→T→(T→Prop)→Prop:=fun x y Q=>ob (dat x) fun d=>ob (dat y) fun e=>SeqAt.shaped d=true∧SeqAt.shaped e=true∧Q (.bl (!PyData.eqv d e))
theorem rl_neD:RL2 K (rNeD K) neD3:=by
 intro c x y Q3 hh Hb G A σ3 σ H vx vy Q R rx ry k
 obtain ⟨d,ed,h1⟩:=ob_iff.mp hh
 obtain ⟨e,ee,s1,s2,q⟩:=ob_iff.mp h1
 exact ⟨d,e,dp_of hid_same _ _ _ rx ed,dp_of hid_same _ _ _ ry ee,s1,s2,k _ _ H (Le.refl R.inv) (.bl _) q⟩
end
end M3
namespace M3
open PySem L2
structure Cs where
 at_:Str→Addr
 em:Value→Value→Option Bool
 w:World
def csOf (w:World) (K:PySem.W.Frag) (mg:Str→Option Value):Cs:=⟨fun x=>match mg x with | some (.ref a)=>a | _=>0,PySem.W.exmOne K,w⟩
theorem csOf_at {w:World} {K:PySem.W.Frag} {mg:Str→Option Value} {x:Str} {a:Addr} (h:mg x=some (.ref a)):(csOf w K mg).at_ x=a:=by
 show (match mg x with | some (.ref a)=>a | _=>0)=a
 rw [h]
theorem OpR.or {X:Cx} {f:Value→Value→Sem Value} {r r':R2} (a:OpR X f r) (b:OpR X f r'):OpR X f (fun x y H Q=>r x y H Q∨r' x y H Q):=fun pins s σ H x y v u Q I rx ry h=>by
 rcases h with h | h
 · exact a pins s σ H x y v u Q I rx ry h
 · exact b pins s σ H x y v u Q I rx ry h
theorem ixR_or {X:Cx} {r r':R2} (a:IxR X r) (b:IxR X r'):IxR X (fun x y H Q=>r x y H Q∨r' x y H Q):=by
 intro e1 e2 pins s σ H x y v u Q I rx ry h hs
 rcases h with h | h
 · exact a e1 e2 pins s σ H x y v u Q I rx ry h hs
 · exact b e1 e2 pins s σ H x y v u Q I rx ry h hs
theorem RL2.or2 {K:PySem.W.Frag} {r r':R2} {q q' m:T→T→(T→Prop)→Prop} (h:RL2 K r q) (h':RL2 K r' q') (hm:∀x y Q,m x y Q→q x y Q∨q' x y Q):RL2 K (fun x y H Q=>r x y H Q∨r' x y H Q) m:=by
 intro c x y Q3 hh Hb G A σ3 σ H vx vy Q R rx ry k
 rcases hm _ _ _ hh with hh | hh
 · exact .inl (h c x y Q3 hh Hb G A σ3 σ H vx vy Q R rx ry k)
 · exact .inr (h' c x y Q3 hh Hb G A σ3 σ H vx vy Q R rx ry k)
section
variable {X:Cx} {K:PySem.W.Frag}
abbrev rAdd (K:PySem.W.Frag):R2:=fun x y H Q=>rI0 (fun i j=>.int (i+j)) x y H Q∨(fun x y H Q=>(fun x y H Q=>∃i j,x= .str i∧y= .str j∧i.length+j.length≤sizeLine∧Q (.str (i++j)) H) x y H Q∨(fun x y H Q=>rCat x y H Q∨rCatF K x y H Q) x y H Q) x y H Q
theorem op_addP (h:X.K=K):OpR X (binaryOp .Add) (rAdd K):=OpR.or op_add (OpR.or op_add_str (OpR.or op_cat (op_catTK h)))
def addP:T→T→(T→Prop)→Prop
 | .int i,.int j,Q=>Q (.int (i+j))
 | .str a,.str b,Q=>a.length+b.length≤sizeLine∧Q (.str (a++b))
 | .lst a,.lst b,Q=>a.length+b.length≤sizeLine∧Q (.lst (a++b))
 | .tup a,.tup b,Q=>a.length+b.length≤sizeLine∧Q (.tup (a++b))
 | _,_,_=>False
theorem rl_addP:RL2 K (rAdd K) addP:=by
 refine RL2.or2 rl_add (RL2.or2 rl_catS (RL2.or2 rl_catL rl_catT (m:=fun x y Q=>match x,y with | .lst a,.lst b=>catL3 (.lst a) (.lst b) Q | .tup a,.tup b=>catT3 (.tup a) (.tup b) Q | _,_=>False) ?_)
  (m:=fun x y Q=>match x,y with | .str a,.str b=>catS3 (.str a) (.str b) Q | .lst a,.lst b=>catL3 (.lst a) (.lst b) Q | .tup a,.tup b=>catT3 (.tup a) (.tup b) Q | _,_=>False) ?_) ?_
 · intro x y Q h
   cases x<;>cases y<;>first | exact .inl h | exact .inr h | exact h.elim
 · intro x y Q h
   cases x<;>cases y<;>first | exact .inl h | exact .inr h | exact h.elim
 · intro x y Q h
   cases x<;>cases y<;>first | exact .inl h | exact .inr h | exact h.elim
abbrev rMul:R2:=fun x y H Q=>rI CMulW (fun i j=>.int (i * j)) x y H Q∨rRep x y H Q
theorem op_mulP:OpR X (binaryOp .Mult) rMul:=OpR.or op_mulW op_rep
def mulP:T→T→(T→Prop)→Prop
 | .int i,.int j,Q=>CMulW i j∧Q (.int (i * j))
 | .lst xs,.int k,Q=> -(2 ^ 63)≤k∧k<2 ^ 63∧xs.length * k.toNat≤sizeLine∧Q (.lst (List.replicate k.toNat xs).flatten)
 | _,_,_=>False
theorem rl_mulP:RL2 K rMul mulP:=by
 refine RL2.or2 rl_mulW rl_repL ?_
 intro x y Q h
 cases x<;>cases y<;>first | exact .inl h | exact .inr h | exact h.elim
abbrev rIx (K:PySem.W.Frag):R2:=fun x y H Q=>rIxL K x y H Q∨(fun x y H Q=>rIxT K x y H Q∨rIxS x y H Q) x y H Q
theorem ix_P (h:X.K=K):IxR X (rIx K):=ixR_or (ix_listK h) (ixR_or (ix_tupK h) (ix_strK h))
def ixP:T→T→(T→Prop)→Prop
 | .lst xs,.int i,Q=>ob (atI xs i) Q
 | .tup xs,.int i,Q=>ob (atI xs i) Q
 | .str z,.int i,Q=>z.length≤sizeLine∧ob (atI z.cps.toList i) fun c=>Q (.str ⟨#[c]⟩)
 | _,_,_=>False
theorem rl_ixP:RL2 K (rIx K) ixP:=by
 refine RL2.or2 rl_ixL (RL2.or2 rl_ixT rl_ixS (m:=fun x y Q=>match x,y with | .tup xs,.int i=>ob (atI xs i) Q | .str z,.int i=>z.length≤sizeLine∧ob (atI z.cps.toList i) fun c=>Q (.str ⟨#[c]⟩) | _,_=>False) ?_) ?_
 · intro x y Q h
   cases x<;>cases y<;>first | exact .inl h | exact .inr h | exact h.elim
 · intro x y Q h
   cases x<;>cases y<;>first | exact .inl h | exact .inr h | exact h.elim
theorem RLs.or2 {r r':V→Option Int→Option Int→Hp→VK→Prop} {q q' m:T→Option Int→Option Int→(T→Prop)→Prop} (h:RLs K r q) (h':RLs K r' q') (hm:∀x l u Q,m x l u Q→q x l u Q∨q' x l u Q):RLs K (fun x l u H Q=>r x l u H Q∨r' x l u H Q) m:=by
 intro c x lo hi Q3 hh Hb G A σ3 σ H vx Q R rx k
 rcases hm _ _ _ _ hh with hh | hh
 · exact .inl (h c x lo hi Q3 hh Hb G A σ3 σ H vx Q R rx k)
 · exact .inr (h' c x lo hi Q3 hh Hb G A σ3 σ H vx Q R rx k)
abbrev rSl (K:PySem.W.Frag):V→Option Int→Option Int→Hp→VK→Prop:=fun x l u H Q=>rSlL K x l u H Q∨(fun x l u H Q=>rSlF K x l u H Q∨rSlS x l u H Q) x l u H Q
theorem sl_P (h:X.K=K):SlR X (rSl K):=L2.SlR.or (sl_listK h) (L2.SlR.or (sl_tupK h) (sl_strK h))
def slP:T→Option Int→Option Int→(T→Prop)→Prop
 | .lst xs,l,u,Q=>Q (.lst (cut xs l u))
 | .tup xs,l,u,Q=>Q (.tup (cut xs l u))
 | .str z,l,u,Q=>z.length≤sizeLine∧Q (.str (cutS z l u))
 | _,_,_,_=>False
theorem rl_slP:RLs K (rSl K) slP:=by
 refine RLs.or2 rl_slL (RLs.or2 rl_slT rl_slS (m:=fun x l u Q=>match x with | .tup xs=>Q (.tup (cut xs l u)) | .str z=>z.length≤sizeLine∧Q (.str (cutS z l u)) | _=>False) ?_) ?_
 · intro x l u Q h
   cases x<;>first | exact .inl h | exact .inr h | exact h.elim
 · intro x l u Q h
   cases x<;>first | exact .inl h | exact .inr h | exact h.elim
abbrev rNe' (K:PySem.W.Frag):R2:=fun x y H Q=>rNe x y H Q∨rNeD K x y H Q
theorem op_neP (h:X.K=K) (hu:X.A.units+64<cLine):OpR X (compareOp .NotEq) (rNe' K):=OpR.or op_ne (op_neDK h hu)
def isSeq:T→Bool
 | .lst _=>true
 | .tup _=>true
 | _=>false
def eqP (x y:T) (Q:T→Prop):Prop:=if (isSeq x||isSeq y)=true then eqD3 x y Q else eqS3 x y Q
def neP (x y:T) (Q:T→Prop):Prop:=if (isSeq x||isSeq y)=true then neD3 x y Q else neS3 x y Q
theorem rl_neP:RL2 K (rNe' K) neP:=by
 refine RL2.or2 rl_neS rl_neD fun x y Q h=> ?_
 unfold neP at h
 split at h
 · exact .inr h
 · exact .inl h
end
section
variable {K:PySem.W.Frag} {c:Cf} {W:WX} {X:Cx}
def rIt (K:PySem.W.Frag) (x:V) (H:Hp) (R:It→Hp→Prop):Prop:=
 (∃a xs,x= .ref a∧SqL K H a xs∧R (Itl K a) H)∨(∃a xs,x= .ref a∧SqT K H a xs∧R (Itt K a) H)∨∃z,x= .str z∧R (Its z) H
def iP (K:PySem.W.Frag) (t:TE):TI:=fun σ H R=>t σ H fun x H'=>rIt K x H' R
theorem pi_P {tg e:Expr} {t:TE} (h:X.K=K) (he:PE X e t):PI X tg e (iP K t):=by
 subst h
 constructor
 intro pins s σ H R I hw
 refine thn (he.run pins s σ H _ I hw) ?_
 rintro v s1 ⟨x,H1,I1,r1,q1⟩
 have fp:∀b∈[s1.heap.objs.size],FpOk X pins H1 b:=by
  intro b hb
  cases List.mem_singleton.mp hb
  exact I1.fpOk (Nat.le_refl _) (I1.hok.fresh (Nat.le_refl _))
 rcases q1 with ⟨a,xs,rfl,hq,q⟩ | ⟨a,xs,rfl,hq,q⟩ | ⟨z,rfl,q⟩
 · cases r1
   obtain ⟨its,_,pl,_⟩:=I1.list hq
   exact wpAny_pyIter_list pl.isList ⟨_,[_],_,_,H1,rfl,I1.kept (t':=s1.toks) (fun _ _ e=>Heap.get?_push_of_some _ e),turn_list a _,⟨_,Heap.get?_push_size _ rfl,rfl,rfl⟩,fp,q⟩
 · cases r1
   obtain ⟨its,_,pl,_⟩:=I1.tuple hq
   exact wpAny_pyIter_tuple (show s1.heap.IsTuple a its.toArray from pl) ⟨_,[_],_,_,H1,rfl,I1.kept (t':=s1.toks) (fun _ _ e=>Heap.get?_push_of_some _ e),turn_tuple a _,⟨_,Heap.get?_push_size _ rfl,rfl,rfl⟩,fp,q⟩
 · obtain ⟨t,rfl⟩:=r1
   cases ha:z.cps.all (· <128)
   · exact wpAny_pyIter_wide ha (pi_one (tk:=s1.toks) I1 _ (turn_str _ z t "str_iterator" (.inr rfl)) ⟨_,Heap.get?_push_size _ rfl,rfl,rfl⟩ q)
   · exact wpAny_pyIter_ascii ha (pi_one (tk:=s1.toks) I1 _ (turn_str _ z t "str_ascii_iterator" (.inl rfl)) ⟨_,Heap.get?_push_size _ rfl,rfl,rfl⟩ q)
def chT (c:Nat):T:=.str ⟨#[c]⟩
def itemsP:T→Option (List T)
 | .lst xs=>some xs
 | .tup xs=>some xs
 | .str z=>some (z.cps.toList.map chT)
 | _=>none
def iterP (a:E3):A3:=fun σ Q X=>a σ (fun d=>ob (itemsP d) Q) X
theorem walks_str {V0:Hp} (z:Str):Walks K V0 (Its z) (z.cps.toList.map chT) where
 go:=fun i d S H hd e=>by
  have:=(List.getElem?_eq_some_iff.mp hd).1
  show i<z.cps.size
  simpa using this
 yld:=fun i d S H x H' hd e _ y=>by
  obtain ⟨rfl,c,hc,rfl⟩:=y
  rw [List.getElem?_map] at hd
  have hc':z.cps.toList[i]? =some c:=by simpa using hc
  rw [hc'] at hd
  cases hd
  exact ⟨.inl rfl,.inl (.str _)⟩
 stop:=fun S H e=>by
  show z.cps.size≤_
  simp
theorem lift_iP {ta:TE} {a:E3} (ha:Lift K c W ta a):LiftI K c W (iP K ta) (iterP a):=by
 intro σ3 Q3 X h Hb G A σ H R' R k e
 refine ha _ _ _ h Hb G A σ H _ R (fun v d H1 L1 r q=> ?_) e
 obtain ⟨xs,ex,q1⟩:=ob_iff.mp q
 cases d with
 | lst ys=>
   cases ex
   obtain ⟨p,vs,rfl,hp,rl⟩:=r.lstI
   exact .inl ⟨p,vs,rfl,SqL.of (hid_same _ _ hp),k _ _ H1 L1 (walks_list hp rl) q1⟩
 | tup ys=>
   cases ex
   obtain ⟨p,vs,rfl,hp,rl⟩:=r.tupI
   exact .inr (.inl ⟨p,vs,rfl,Same.sqT hid_same hp,k _ _ H1 L1 (walks_tup hp rl) q1⟩)
 | str z=>
   cases ex
   cases r.strI
   exact .inr (.inr ⟨z,rfl,k _ _ H1 L1 (walks_str z) q1⟩)
 | _=>cases ex
end
def sel {α:Type} (is:List Nat) (xs:List α):List α:=is.filterMap fun i=>xs[i]?
theorem vals_get:∀ {vs:List V} {us:List Value} {i:Nat},Vals vs us→(∃v u,vs[i]? =some v∧us[i]? =some u∧RelV v u)∨(vs[i]? =none∧us[i]? =none)
 | _,_,_,.nil=>.inr ⟨rfl,rfl⟩
 | _,_,0,.cons r _=>.inl ⟨_,_,rfl,rfl,r⟩
 | _,_,i+1,.cons _ q=>by simpa using vals_get (i:=i) q
theorem vals_sel:∀(is:List Nat) {vs:List V} {us:List Value},Vals vs us→Vals (sel is vs) (sel is us)
 | [],_,_,_=>.nil
 | i::is,vs,us,r=>by
   unfold sel
   rw [List.filterMap_cons,List.filterMap_cons]
   rcases vals_get (i:=i) r with ⟨v,u,e1,e2,q⟩ | ⟨e1,e2⟩
   · rw [e1,e2]
     exact .cons q (vals_sel is r)
   · rw [e1,e2]
     exact vals_sel is r
theorem repL_sel {K:PySem.W.Frag} {H:Hp}:∀(is:List Nat) {vs:List V} {ts:List T},RepL K H vs ts→RepL K H (sel is vs) (sel is ts)
 | [],_,_,_=>.nil
 | i::is,vs,ts,r=>by
   unfold sel
   rw [List.filterMap_cons,List.filterMap_cons]
   cases e:ts[i]? with
   | some t=>
     obtain ⟨v,e1,q⟩:=r.get e
     rw [e1]
     exact .cons q (repL_sel is r)
   | none=>
     have:vs[i]? =none:=by
      rw [List.getElem?_eq_none_iff] at e ⊢
      rw [r.length];exact e
     rw [this]
     exact repL_sel is r
end M3
namespace M3
open PySem L2
structure DefAt (K:PySem.W.Frag) (mg:Str→Option Value) (x qual:Str) (st:Stmt) (dts:List T) (kns:List Str) (kts:List T):Prop where
 ex:∃f fd dvs kvs,(∀H,RepL K H dvs dts)∧(∀H,RepL K H kvs kts)∧FunD K x qual (defArgs st) (defBody st) (defScope st) dvs (kns.zip kvs) f fd∧mg x=some (.ref f)
structure OkF (P:Program) (w:World) (K:PySem.W.Frag) (mg:Str→Option Value) (base:Heap) (CX:CXT) (x qual:Str) (st:Stmt) (dts:List T) (kns:List Str) (kts:List T) (lv:Nat) (ps:List Str) (sp:Sp):Prop where
 ex:∃f fd dvs kvs,(∀H,RepL K H dvs dts)∧(∀H,RepL K H kvs kts)∧FunD K x qual (defArgs st) (defBody st) (defScope st) dvs (kns.zip kvs) f fd∧mg x=some (.ref f)∧FnOk P w K mg base CX lv f fd ps sp
structure ClT (P:Program) (w:World) (K:PySem.W.Frag) (mg:Str→Option Value) (base:Heap) (CX:CXT) (x:Str) (k:Nat) (dts:List T) (sp:Sp):Prop where
 ex:∃dvs,(∀H,RepL K H dvs dts)∧Cl P w K mg base CX x k dvs sp
section
variable {P:Program} {w:World} {K:PySem.W.Frag} {mg:Str→Option Value} {base:Heap} {CX:CXT} {x qual:Str} {st:Stmt} {dts kts:List T} {kns:List Str} {lv:Nat} {ps:List Str} {sp:Sp}
theorem RepL.len0 {H:Hp} {vs:List V} (r:RepL K H vs []):vs=[]:=by cases r;rfl
theorem RepL.ne {vs:List V} {ts:List T} (r:∀H,RepL K H vs ts) (h:ts≠[]):vs≠[]:=fun e=>by
 subst e
 have:=(r (fun _=>none)).length
 cases ts with
 | nil=>exact h rfl
 | cons=>simp at this
theorem OkF.cl (O:OkF P w K mg base CX x qual st [] kns kts lv ps sp) (h:∀(kV doc pm:Value) (an:Option Addr) (cdv ct:Value) (us:List Value),us.length=ps.length→bindArgs (PySem.W.fnOf x qual (defArgs st) (defBody st) (defScope st) .none kV doc pm an cdv ct) ⟨us,[]⟩=pure (ps.zip us)):
 ClT P w K mg base CX x lv [] sp:=by
 obtain ⟨f,fd,dvs,kvs,rd,rk,F,hm,O⟩:=O.ex
 have e:=(rd (fun _=>none)).len0
 subst e
 exact ⟨[],fun _=>.nil,f,fd,ps,[],O,hm,F.kp,F.bindsN h,.nil⟩
theorem fnOk_no {k:Nat} {f:Addr} {fd:FuncData} (h:∀vs H Q E,¬sp vs H Q E):FnOk P w K mg base CX k f fd ps sp:=
 ⟨fun vs H Q E z=>(h vs H Q E z).elim,fun A outer s H args us vs Q E _ _ _ _ z=>(h vs H Q E z).elim⟩
def f0:F3:=fun _ _ _=>False
theorem DefAt.no (D:DefAt K mg x qual st dts kns kts) (n:Nat):OkF P w K mg base CX x qual st dts kns kts lv ps (sp3 K n f0):=by
 obtain ⟨f,fd,dvs,kvs,rd,rk,F,hm⟩:=D.ex
 exact ⟨f,fd,dvs,kvs,rd,rk,F,hm,fnOk_no fun vs H Q E z=>by
  obtain ⟨_,_,_,_,_,_,_,z,_⟩:=z
  exact z⟩
end
structure ExcC (w:World) (K:PySem.W.Frag) (mg:Str→Option Value) (x:Str):Prop where
 x_:PySem.W.excIn K ((csOf w K mg).at_ x) [.type "ValueError",.type "Exception",.type "BaseException",.type "object"] "ValueError.__new__"=true
 g:mg x=some (.ref ((csOf w K mg).at_ x))
 k:PySem.W.keepIn K (.ref ((csOf w K mg).at_ x))=true
 b:PySem.W.subIn K (.ref ((csOf w K mg).at_ x)) (.type "BaseException")=some true
 t:PySem.W.typeIn K (.ref ((csOf w K mg).at_ x))=some (.type "type")
def no3:G3 (Option Int):=fun _ Q _=>Q none
end M3
namespace M3
open PySem L2
def TreeAt (K:PySem.W.Frag) (t:T) (u:Value):Prop:=∃v,RelV v u∧∀H,Rep K H v t
theorem treeAt_int {K:PySem.W.Frag} {i:Int} {t:Tok}:TreeAt K (.int i) (.int i t):=⟨.int i,⟨t,rfl⟩,fun _=>.int i⟩
inductive TreesAt (K:PySem.W.Frag):List T→List Value→Prop where
 | nil:TreesAt K [] []
 | cons {t:T} {u:Value} {ts:List T} {us:List Value}:TreeAt K t u→TreesAt K ts us→TreesAt K (t::ts) (u::us)
theorem TreesAt.vals {K:PySem.W.Frag}:∀ {ts:List T} {us:List Value},TreesAt K ts us→∃vs,Vals vs us∧∀H,RepL K H vs ts
 | _,_,.nil=>⟨[],.nil,fun _=>.nil⟩
 | _,_,.cons ⟨v,h1,h2⟩ q=>by
   obtain ⟨vs,q1,q2⟩:=TreesAt.vals q
   exact ⟨v::vs,.cons h1 q1,fun H=>.cons (h2 H) (q2 H)⟩
theorem defAt_mk {K:PySem.W.Frag} {mg:Str→Option Value} {x qual:Str} {st:Stmt} {dts kts:List T} {kns:List Str} {f:Addr} {oc dV kV doc pm cdv ct:Value} {od an:Option Addr} {osl:Array (Option Value)} (hm:mg x=some (.ref f))
 (l:K.lookup f=some ⟨oc,od,.func (PySem.W.fnOf x qual (defArgs st) (defBody st) (defScope st) dV kV doc pm an cdv ct),osl⟩) (c:PySem.W.codeIn K cdv qual=true) (k:PySem.W.keepIn K (.ref f)=true)
 (hd:(dts=[]∧dV= .none)∨(dts≠[]∧∃(Ta:Addr) (o:Obj) (its:List Value) (n:Nat),dV= .ref Ta∧K.lookup Ta=some o∧o.data= .seq its.toArray n∧TreesAt K dts its))
 (hk:(kns=[]∧kts=[])∨∃(D:Addr) (us:List Value),kV= .ref D∧TreesAt K kts us∧kns.length=us.length∧∀q∈kns.zip us,PySem.W.nsIn K D q.1=some (some q.2)):DefAt K mg x qual st dts kns kts:=by
 obtain ⟨dvs,h1,h2⟩:∃dvs,(∀H,RepL K H dvs dts)∧DflV K dV dvs:=by
  rcases hd with ⟨rfl,rfl⟩ | ⟨hn,Ta,o,its,n,rfl,a1,a2,a3⟩
  · exact ⟨[],fun _=>.nil,.inl ⟨rfl,rfl⟩⟩
  · obtain ⟨vs,q1,q2⟩:=a3.vals
    exact ⟨vs,q2,.inr ⟨RepL.ne q2 hn,Ta,o,its,n,rfl,a1,a2,q1⟩⟩
 obtain ⟨kvs,h3,h4⟩:∃kvs,(∀H,RepL K H kvs kts)∧KwdV K kV (kns.zip kvs):=by
  rcases hk with ⟨rfl,rfl⟩ | ⟨D,us,rfl,a1,a2,a3⟩
  · exact ⟨[],fun _=>.nil,.inl rfl⟩
  · obtain ⟨vs,q1,q2⟩:=a1.vals
    refine ⟨vs,q2,.inr ⟨D,rfl,fun q hq=> ?_⟩⟩
    obtain ⟨i,hi⟩:=List.getElem?_of_mem hq
    obtain ⟨i1,i2⟩:=List.getElem?_zip_eq_some.mp hi
    rcases vals_get (i:=i) q1 with ⟨v,u,e1,e2,r⟩ | ⟨e1,_⟩
    · rw [i2] at e1
      cases e1
      refine ⟨u,a3 (q.1,u) (List.mem_of_getElem? (List.getElem?_zip_eq_some.mpr ⟨i1,e2⟩)),r⟩
    · rw [i2] at e1;cases e1
 exact ⟨f,_,dvs,kvs,h1,h3,⟨⟨oc,od,dV,kV,doc,pm,an,cdv,ct,osl,rfl,l,c,h2,h4⟩,k⟩,hm⟩
end M3
namespace M3
open PySem PySem.Spec PyProof.Rows L2
section
variable {X:Cx} {K:PySem.W.Frag}
def ltD3:T→T→(T→Prop)→Prop:=fun x y Q=>ob (dat x) fun d=>ob (dat y) fun e=>PySem.W.alike d e=true∧d≠ .none∧SeqAt.shaped d=true∧Q (.bl (PySem.W.dataLt d e))
def ltP (x y:T) (Q:T→Prop):Prop:=match x,y with
 | .int i,.int j=>Q (.bl (decide (i<j)))
 | x,y=>ltD3 x y Q
def gtD3:T→T→(T→Prop)→Prop:=fun x y Q=>ob (dat x) fun d=>ob (dat y) fun e=>PySem.W.alike d e=true∧d≠ .none∧SeqAt.shaped d=true∧Q (.bl (PySem.W.dataLt e d))
def gtP (x y:T) (Q:T→Prop):Prop:=match x,y with
 | .int i,.int j=>Q (.bl (decide (j<i)))
 | x,y=>gtD3 x y Q
def leD3:T→T→(T→Prop)→Prop:=fun x y Q=>ob (dat x) fun d=>ob (dat y) fun e=>PySem.W.alike d e=true∧d≠ .none∧SeqAt.shaped d=true∧Q (.bl (!PySem.W.dataLt e d))
def leP (x y:T) (Q:T→Prop):Prop:=match x,y with
 | .int i,.int j=>Q (.bl (decide (i≤j)))
 | x,y=>leD3 x y Q
def geD3:T→T→(T→Prop)→Prop:=fun x y Q=>ob (dat x) fun d=>ob (dat y) fun e=>PySem.W.alike d e=true∧d≠ .none∧SeqAt.shaped d=true∧Q (.bl (!PySem.W.dataLt d e))
def geP (x y:T) (Q:T→Prop):Prop:=match x,y with
 | .int i,.int j=>Q (.bl (decide (j≤i)))
 | x,y=>geD3 x y Q
end
end M3
namespace M3
open PySem L2
section
variable {K:PySem.W.Frag} {c:Cf} {Hb H H':Hp} {G:List Addr} {A:List (Option Addr)} {σ3:List Sl} {σ:St}
structure FrD (K:PySem.W.Frag) (c:Cf) (G:List Addr) (A:List (Option Addr)) (H H':Hp) (D:Addr) (vs:List V) (ds:List T):Prop where
 nD:D ∉ c.S G A
 vis:Same (hid (c.S G A) H) (hid (D::c.S G A) H')
 own:∀a∈G++addrs A,H' a=H a
 inv:c.I H'
 at_:H' D=some (.lst vs)
 rep:RepL K (hid (D::c.S G A) H') vs ds
theorem FrD.le (f:FrD K c G A H H' D vs ds):Le c G A H H':=⟨Same.trans f.vis (hid_mono fun a h=>List.mem_cons_of_mem _ h),f.own,f.inv⟩
end
def LiftFr (K:PySem.W.Frag) (c:Cf) (W:WX) (te:TE) (t:E3):Prop:=
 ∀σ3 Q3 X,t σ3 Q3 X→∀Hb G A σ H Q,R3 K c Hb G A σ3 σ H→
  (∀D vs ds H',FrD K c G A H H' D vs ds→Q3 (.lst ds)→Q (.ref D) H')→
  (∀cls dd x H',Le c G A H H'→XRep K (hid (c.S G A) H') cls dd x→X x→W cls dd σ H')→te σ H Q
end M3
namespace M3
open PySem L2
section
variable {K:PySem.W.Frag} {c:Cf} {W:WX} {ta:TE} {a:E3} {X:Cx}
theorem lookup_rep {H:Hp} {f:Str} {t:T}:∀ {fs:List (Str×V)} {ts:List (Str×T)},fs.map (·.1)=ts.map (·.1)→RepL K H (fs.map (·.2)) (ts.map (·.2))→ts.lookup f=some t→∃v,fs.lookup f=some v∧Rep K H v t
 | [],[],_,_,h=>by cases h
 | [],_::_,h,_,_=>by cases h
 | _::_,[],h,_,_=>by cases h
 | (g,v)::fs,(g',u)::ts,h,r,hl=>by
   have h1:g=g':=by injection h
   have h2:fs.map (·.1)=ts.map (·.1):=by injection h
   subst h1
   cases r with
   | cons r1 r2=>
     unfold List.lookup at hl ⊢
     split at hl
     · cases hl
       exact ⟨v,rfl,r1⟩
     · exact lookup_rep h2 r2 hl
end
end M3
namespace M3
open PySem PySem.Spec PyProof.Rows L2
end M3
namespace M3
open PySem L2
def txs:List T→Option (List Str)
 | []=>some []
 | .str x::r=>(txs r).map (x::·)
 | _=>none
@[simp] theorem strs_map:∀xs:List Str,txs (xs.map T.str)=some xs
 | []=>rfl
 | x::xs=>by show (txs (xs.map T.str)).map (x::·)=_;rw [strs_map xs];rfl
section
variable {K:PySem.W.Frag} {c:Cf} {W:WX} {ta:TE} {a:E3} {X:Cx}
def asCh:T→Option Nat
 | .str ⟨⟨[c]⟩⟩=>some c
 | _=>none
@[simp] theorem asCh_ch (c:Nat):asCh (.str ⟨#[c]⟩)=some c:=rfl
@[simp] theorem asCh_chT (c:Nat):asCh (chT c)=some c:=rfl
end
structure MethAt (K:PySem.W.Frag) (C:Addr) (m x qual:Str) (st:Stmt) (dts:List T) (kns:List Str) (kts:List T):Prop where
 ex:∃f fd dvs kvs,(∀H,RepL K H dvs dts)∧(∀H,RepL K H kvs kts)∧FunD K x qual (defArgs st) (defBody st) (defScope st) dvs (kns.zip kvs) f fd∧PySem.W.findIn K (.ref C) m=some (some (.ref f))
theorem methAt_mk {K:PySem.W.Frag} {C:Addr} {m x qual:Str} {st:Stmt} {dts kts:List T} {kns:List Str} {f:Addr} {oc dV kV doc pm cdv ct:Value} {od an:Option Addr} {osl:Array (Option Value)} (hm:PySem.W.findIn K (.ref C) m=some (some (.ref f)))
 (l:K.lookup f=some ⟨oc,od,.func (PySem.W.fnOf x qual (defArgs st) (defBody st) (defScope st) dV kV doc pm an cdv ct),osl⟩) (c:PySem.W.codeIn K cdv qual=true) (k:PySem.W.keepIn K (.ref f)=true)
 (hd:(dts=[]∧dV= .none)∨(dts≠[]∧∃(Ta:Addr) (o:Obj) (its:List Value) (n:Nat),dV= .ref Ta∧K.lookup Ta=some o∧o.data= .seq its.toArray n∧TreesAt K dts its))
 (hk:(kns=[]∧kts=[])∨∃(D:Addr) (us:List Value),kV= .ref D∧TreesAt K kts us∧kns.length=us.length∧∀q∈kns.zip us,PySem.W.nsIn K D q.1=some (some q.2)):MethAt K C m x qual st dts kns kts:=by
 obtain ⟨f',fd,dvs,kvs,h1,h2,F,e⟩:=(defAt_mk (mg:=fun _=>some (.ref f)) (x:=x) rfl l c k hd hk).ex
 cases e
 exact ⟨_,fd,dvs,kvs,h1,h2,F,hm⟩
end M3
namespace M3
open PySem PySem.Spec PyProof.Rows L2
theorem R3.ext {K:PySem.W.Frag} {c:Cf} {Hb H H':Hp} {G:List Addr} {A:List (Option Addr)} {σ3:List Sl} {σ:L2.St} (r:R3 K c Hb G A σ3 σ H) (k:∀b o,H b=some o→H' b=some o):Le c G A H H' where
 vis:=fun a u e=>by
  obtain ⟨e1,e2⟩:=hid_some e
  exact hid_mk (k _ _ e1) e2
 own:=fun a ha=>by
  have hm:a∈c.S G A:=mem_S.mpr (by rcases List.mem_append.mp ha with z | z;exact .inr (.inl z);exact .inr (.inr z))
  cases e:H a with
  | none=>exact absurd e (r.there hm)
  | some o=>exact k _ _ e
 inv:=c.st H _ (fun a ha=>by
  have hm:a∈c.S G A:=mem_S.mpr (.inl ha)
  cases e:H a with
  | none=>exact absurd e (r.there hm)
  | some o=>exact k _ _ e) (fun a φ e=>k _ _ e) r.inv
inductive Kd where
 | l (a:Addr) | t (a:Addr) | s (x:Str)
def Kd.v:Kd→V
 | .l a=>.ref a
 | .t a=>.ref a
 | .s x=>.str x
def Kd.has (K:PySem.W.Frag) (H:Hp):Kd→List V→Prop
 | .l a,xs=>SqL K H a xs
 | .t a,xs=>SqT K H a xs
 | .s x,xs=>xs=x.cps.toList.map fun c=>V.str ⟨#[c]⟩
def Kd.tn (j:Addr) (i:Nat) (h:Heap):Kd→Prop
 | .l a=>h.IsListIter j a i
 | .t a=>h.IsTupleIter j a i
 | .s x=>∃t,h.IsStrIter j (strIterType x) x t i
section
variable {X:Cx} {pins:List (Addr×Obj)} {σ:L2.St} {H:Hp} {s:Shared} {j:Addr} {i:Nat} {xs:List V}
theorem Kd.keep {h h':Heap} (k:Kd) (tn:k.tn j i h) (kp:∀o,h.get? j=some o→h'.get? j=some o):k.tn j i h':=by
 cases k with
 | l a=>exact Heap.IsListIter.at tn kp
 | t a=>exact Heap.IsTupleIter.at tn kp
 | s x=>
   obtain ⟨t,o,ho,r⟩:=tn
   exact ⟨t,o,kp o ho,r⟩
theorem Kd.obj {h:Heap} (k:Kd) (tn:k.tn j i h):∃o,h.get? j=some o∧∀v,o.data≠ .cell v:=by
 cases k with
 | l a=>
   obtain ⟨o,e,_,d⟩:=tn
   exact ⟨o,e,fun v q=>by rw [d] at q;cases q⟩
 | t a=>
   obtain ⟨o,e,_,d⟩:=tn
   exact ⟨o,e,fun v q=>by rw [d] at q;cases q⟩
 | s x=>
   obtain ⟨t,o,e,_,d⟩:=tn
   exact ⟨o,e,fun v q=>by rw [d] at q;cases q⟩
end
section
variable {K:PySem.W.Frag} {c:Cf} {W:WX}
theorem Rep.kd {S:List Addr} {H:Hp} {v:V} {t:T} {ds:List T} (r:Rep K (hid S H) v t) (h:itemsP t=some ds):∃k vs,v=Kd.v k∧RepL K (hid S H) vs ds∧∀S' H',Same (hid S H) (hid S' H')→k.has K H' vs:=by
 cases t with
 | lst xs=>
   obtain ⟨a,vs,rfl,h1,h2⟩:=r.lstI
   cases h
   exact ⟨.l a,vs,rfl,h2,fun S' H' e=>SqL.of (hid_same _ _ (e _ _ h1))⟩
 | tup xs=>
   obtain ⟨a,vs,rfl,h1,h2⟩:=r.tupI
   cases h
   exact ⟨.t a,vs,rfl,h2,fun S' H' e=>Same.sqT hid_same (Same.sqT e h1)⟩
 | str z=>
   cases r.strI
   cases h
   refine ⟨.s z,z.cps.toList.map fun c=>V.str ⟨#[c]⟩,rfl, ?_,fun _ _ _=>rfl⟩
   have:∀l:List Nat,RepL K (hid S H) (l.map fun c=>V.str ⟨#[c]⟩) (l.map chT):=fun l=>by
    induction l with
    | nil=>exact .nil
    | cons c l ih=>exact .cons (.str _) ih
   exact this _
 | _=>cases h
end
end M3
namespace M3
open PySem L2
end M3
namespace M3
open PySem PySem.Spec PyProof.Rows L2
section
variable {K:PySem.W.Frag} {c:Cf} {W:WX} {ta tb te:TE} {a b e:E3} {d:Addr} {kts:List (Str×T)} {neg:Bool}
def dvs (l:List (Str×V)):List (Key×V):=l.map fun p=>(.inr p.1,p.2)
end
end M3
namespace M3
open PySem PySem.Spec PyProof.Rows L2
structure VeiC (w:World) (K:PySem.W.Frag) (mg:Str→Option Value) (x:Str):Prop where
 g:mg x=some (.ref ((csOf w K mg).at_ x))
 sg:PySem.W.specialIn K (.ref ((csOf w K mg).at_ x)) "__getattribute__"=some (some (.builtin "type.__getattribute__"))
 rd:PySem.W.readsIn K ((csOf w K mg).at_ x) (.type "type")=true
 fc:PySem.W.findCls K (.ref ((csOf w K mg).at_ x)) (.type "type") "__init__"=some (.val (.builtin "ValueError.__init__"))
section
variable {X:Cx} {K:PySem.W.Frag} {mg:Str→Option Value} {o e:Expr} {es:List Expr} {to te:TE} {ta:TA} {f x:Str} {p p' p1 p2 pos:Pos}
theorem pe_cinit {pl:Sem Bool} (hK:X.K=K) (hmg:X.mg=mg) (V:VeiC w K mg x) (hg:Gl X x) (ha:PA X (e::es) ta) (hdb:(x==("__debug__":Str))=false)
 (hc:eval (.Call (.Attribute (.Name x p1) "__init__" p2) (e::es) [] pos) X.env=(do
   let ov ←eval (.Name x p1) X.env
   standAt p2.atName
   let (f,first) ←holding [ov] (getMethod ov "__init__" pl)
   callWith pos f first (backTo pos (starEach (e::es) X.env)) (backToKw pos (keywordEach [] X.env))):=by rfl)
 (he:starEach (e::es) X.env=(false,eval e X.env)::starEach es X.env:=by rfl) (hpl:(backTo pos (starEach es X.env)).any (·.1)=false:=by rfl):
 PE X (.Call (.Attribute (.Name x p1) "__init__" p2) (e::es) [] pos) (tVeI K ta):=by
 subst hK hmg
 refine ⟨fun pins s σ H Q I h=> ?_⟩
 refine PySem.W.methodCall_KW (ld_glob I hg V.g ?_ hdb) hc
 refine PySem.W.method_cls I.kIn V.sg (PySem.W.cls_value I.kIn V.rd V.fc (by decide +kernel) ?_)
 show wpAny _ _ (callWith pos (Value.builtin "ValueError.__init__") [] (backTo pos (starEach (e::es) X.env)) []) _ _ _
 refine PyProof.Rows.callWith_method1 (thn (ha.run pos pins _ σ H _ (I.tok _) h) fun us s1 ⟨vs,H1,I1,r1,a,C,ws,ev,hl,T,ea,q⟩=> ?_) he hpl
 subst ev
 cases r1 with
 | @cons _ u0 _ ur ra rw'=>
   obtain rfl:u0=Value.ref a:=ra
   have hlen:ur.length≤sizeLine:=by
    have:sizeLine=16777216:=by decide
    have:=Paired.length rw'
    omega
   exact oinit_ok T I1 ea hlen fun s' J=>⟨.non,H1,J,rfl,q⟩
theorem ps_ostK (hK:X.K=K) (ho:PE X o to) (he:PE X e te) (hs:swapsWith e (some (.Attribute o f p')) pos.line X.env=pure false:=by rfl):PS X (.Assign [.Attribute o f p'] e pos) (tOst K f to te):=hK ▸ ps_ost ho he hs
end
def spX1 (C:Addr) (f:Str):Sp:=fun vs H Q _=>∃a z,vs=[.ref a,.str z]∧H a=some (exo a C none)∧z.length≤1000∧∀dx,H dx=none→dx≠a→Q .non (upd (upd H dx (exd dx [(f,.str z)])) a (exo a C (some dx)))
end M3
namespace M3
open PySem PySem.Spec PyProof.Rows L2
end M3
namespace M3
open PySem PySem.Spec L2
end M3
namespace M3
open PySem PySem.Spec PyProof.Rows L2
structure MkX (P:Program) (w:World) (K:PySem.W.Frag) (mg:Str→Option Value) (base:Heap) (lv:Nat) (x f:Str):Prop where
 ex:∃fI fd ps,PySem.W.findIn K (.ref ((csOf w K mg).at_ x)) "__init__"=some (some (.ref fI))∧FnOk P w K mg base CX0 lv fI fd ps (spX1 ((csOf w K mg).at_ x) f)∧Binds K fd ps []
theorem mkX_of {P:Program} {w:World} {K:PySem.W.Frag} {mg:Str→Option Value} {base:Heap} {x f m qual:Str} {st:Stmt} {k:Nat} {ps:List Str} (D:MethAt K ((csOf w K mg).at_ x) "__init__" m qual st [] [] [])
 (hb:∀(kV doc pm:Value) (an:Option Addr) (cdv ct:Value) (us:List Value),us.length=ps.length→bindArgs (PySem.W.fnOf m qual (defArgs st) (defBody st) (defScope st) .none kV doc pm an cdv ct) ⟨us,[]⟩=pure (ps.zip us))
 (h:∀(fI:Addr) (fd:FuncData),FunD K m qual (defArgs st) (defBody st) (defScope st) [] [] fI fd→FnOk P w K mg base CX0 k fI fd ps (spX1 ((csOf w K mg).at_ x) f)):MkX P w K mg base k x f:=by
 obtain ⟨fI,fd,dvs,kvs,rd,rk,F,hm⟩:=D.ex
 have e:=(rd (fun _=>none)).len0
 have e2:=(rk (fun _=>none)).len0
 subst e e2
 exact ⟨fI,fd,ps,hm,h fI fd F,F.bindsN hb⟩
theorem oex_mk {K:PySem.W.Frag} {C:Addr} {nm q:Str} {N:Addr} {bs bm:List Value} {sn:List Str} {sub:List Value} {ab:Bool} {col:Option Bool} {dd:Option Addr} {k0 k1 k2 k3 k5:Option Value} (h:K.lookup C=some (excClassObj nm q C N bs bm true sn sub ab col dd k0 k1 k2 k3 k5 "ValueError.__new__")) (hb:PySem.HandSPX.refsVE bm=true)
 (sa:PySem.W.findIn K (.ref C) "__setattr__"=some (some (.builtin "object.__setattr__"))) (ex:PySem.W.subIn K (.ref C) (.type "BaseException")=some true) (ty:PySem.W.typeIn K (.ref C)=some (.type "type")) (kC:PySem.W.keepIn K (.ref C)=true):OexC K C:=
 ⟨⟨nm,q,N,bs,bm,sn,sub,ab,col,dd,k0,k1,k2,k3,k5,h,hb⟩,sa,ex,ty,kC⟩
end M3
namespace M3
open PySem PySem.Spec PyProof.Rows L2 LamX
structure LamD (N:List Str) (sc scope:Scope) (b:Str):Prop where
 kind:scope.kind= .function
 co:scope.isCoroutine=false
 gen:scope.isGenerator=false
 own:∀y∈scope.names,(y.2= .local→y.1=b)∧y.2≠ .cell
 nb:b ∉ N
 lb:scope.names.lookup b=some .local
 free:∀y∈scope.names,y.2= .free→sc.names.lookup y.1=some .cell∨sc.names.lookup y.1=some .free
theorem LamD.has {X:Cx} {N:List Str} {scope:Scope} {b:Str} (L:LamD N X.env.scope scope b) (ok:X.Ok):∀y∈scope.names,y.2= .free→∃c,X.env.cells.lookup y.1=some c:=fun y hy e=>by
 rcases L.free y hy e with k | k
 · exact ok.has _ (.inl k)
 · exact ok.has _ (.inr k)
end M3
namespace PySem
end PySem
namespace L2
open PySem PySem.Spec PyProof.Rows
end L2
namespace L2
open PySem PySem.Spec PyProof.Rows
end L2
set_option maxHeartbeats 200000
namespace L2
open PySem PySem.Spec PyProof.Rows
end L2
set_option maxHeartbeats 1000000
namespace M3
open PySem PySem.Spec L2
def valT (ts:List (Key×T)) (k:Key):Option T:=(ts.find? fun kv=>decide (kv.1=k)).map (·.2)
section
variable {K:PySem.W.Frag} {H:Hp}
abbrev RepD (K:PySem.W.Frag) (H:Hp):List (Key×V)→List (Key×T)→Prop:=Paired fun p q=>p.1=q.1∧Rep K H p.2 q.2
theorem RepD.any {kvs:List (Key×V)} {ts:List (Key×T)} (r:RepD K H kvs ts) (k:Key):(kvs.any fun kv=>decide (kv.1=k))=ts.any fun kv=>decide (kv.1=k):=by
 induction r with
 | nil=>rfl
 | cons h _ ih=>simp only [List.any_cons,ih,h.1]
theorem RepD.val {kvs:List (Key×V)} {ts:List (Key×T)} (r:RepD K H kvs ts) {k:Key} {t:T} (h:valT ts k=some t):∃v,valV kvs k=some v∧Rep K H v t:=by
 induction r with
 | nil=>simp [valT] at h
 | cons e _ ih=>
   rename_i p q kvs ts _
   by_cases c:q.1=k
   · have:q.2=t:=by simpa [valT,List.find?_cons,c] using h
     subst this
     exact ⟨p.2,valV_pos (e.1.trans c),e.2⟩
   · have h':valT ts k=some t:=by simpa [valT,List.find?_cons,c] using h
     obtain ⟨v,hv,rv⟩:=ih h'
     exact ⟨v,by rw [valV_neg (fun z=>c (e.1.symm.trans z))];exact hv,rv⟩
theorem RepD.mono {H':Hp} {kvs:List (Key×V)} {ts:List (Key×T)} (r:RepD K H kvs ts) (e:Same H H'):RepD K H' kvs ts:=by
 induction r with
 | nil=>exact .nil
 | cons h _ ih=>exact .cons ⟨h.1,h.2.mono e⟩ ih
theorem RepD.keys {kvs:List (Key×V)} {ts:List (Key×T)} (r:RepD K H kvs ts):kvs.map (·.1)=ts.map (·.1):=by
 induction r with
 | nil=>rfl
 | cons h _ ih=>simp only [List.map_cons,ih,h.1]
theorem RepD.at {kvs:List (Key×V)} {ts:List (Key×T)} (r:RepD K H kvs ts):∀(i:Nat) v t,(kvs.map (·.2))[i]? =some v→(ts.map (·.2))[i]? =some t→Rep K H v t:=by
 induction r with
 | nil=>intro i v t h;simp at h
 | cons h _ ih=>
   rename_i p q _ _ _
   intro i v t a b
   cases i with
   | zero=>
     have a:p.2=v:=by simpa using a
     have b:q.2=t:=by simpa using b
     subst a b
     exact h.2
   | succ i=>exact ih i v t (by simpa using a) (by simpa using b)
theorem RepD.length {kvs:List (Key×V)} {ts:List (Key×T)} (r:RepD K H kvs ts):kvs.length=ts.length:=by
 induction r with
 | nil=>rfl
 | cons _ _ ih=>simp [ih]
end
end M3
namespace L2
open PySem PySem.Spec
end L2
set_option maxHeartbeats 1000000
namespace M3
open PySem L2
end M3
set_option maxHeartbeats 1000000
namespace M3
open PySem L2
end M3
set_option maxHeartbeats 1000000
namespace LamX
open PySem PySem.Spec PyProof.Rows L2
end LamX
set_option maxHeartbeats 1000000
namespace M3
open PySem L2
end M3
set_option maxHeartbeats 1000000
namespace L2
open PySem PySem.Spec PyProof.Rows
end L2
namespace M3
open PySem L2
end M3
namespace M3
open PySem L2
end M3
namespace M3
open PySem L2
abbrev Mem:=Addr→Option T
def mset (M:Mem) (a:Addr) (t:Option T):Mem:=fun b=>if b=a then t else M b
@[simp] theorem mset_same {M:Mem} {a:Addr} {t:Option T}:mset M a t a=t:=by unfold mset;rw [if_pos rfl]
theorem mset_ne {M:Mem} {a b:Addr} {t:Option T} (h:b≠a):mset M a t b=M b:=by unfold mset;rw [if_neg h]
abbrev XM:=Xn→Mem→Prop
abbrev G4 (β:Type):=List Sl→Mem→(β→Mem→Prop)→XM→Prop
abbrev E4:=G4 T
abbrev B4:=G4 Bool
abbrev A4:=G4 (List T)
def CellRep (K:PySem.W.Frag) (Hv H:Hp) (a:Addr):T→Prop
 | .lst xs=>∃vs,H a=some (.lst vs)∧RepL K Hv vs xs
 | .dic kvs=>∃ks,H a=some (.dK ks)∧ks.map (·.1)=kvs.map (·.1)∧RepL K Hv (ks.map (·.2)) (kvs.map (·.2))
 | .ins C fs=>∃dx ks,H a=some (.ins C dx ks)∧ks.map (·.1)=fs.map (·.1)∧RepL K Hv (ks.map (·.2)) (fs.map (·.2))
 | .tup xs=>∃C d oe ks fs,xs=[.ins C fs]∧H a=some (.frz oe (.own a))∧Zc (.ref C) (some d) oe∧(∃vs,oe.data= .fields vs)∧Hv d=some (.xd ks)∧ks.map (·.1)=fs.map (·.1)∧RepL K Hv (ks.map (·.2)) (fs.map (·.2))
 | _=>False
section
variable {K:PySem.W.Frag} {Hv Hv' H H':Hp} {a:Addr} {t:T}
theorem CellRep.mono (r:CellRep K Hv H a t) (e:Same Hv Hv') (h:H' a=H a):CellRep K Hv' H' a t:=by
 cases t with
 | lst xs=>obtain ⟨vs,h1,h2⟩:=r;exact ⟨vs,h.trans h1,h2.mono e⟩
 | dic kvs=>obtain ⟨ks,h1,h2,h3⟩:=r;exact ⟨ks,h.trans h1,h2,h3.mono e⟩
 | ins C fs=>obtain ⟨dx,ks,h1,h2,h3⟩:=r;exact ⟨dx,ks,h.trans h1,h2,h3.mono e⟩
 | tup xs=>obtain ⟨C,d,oe,ks,fs,h0,h1,h2,h3,h4,h5,h6⟩:=r;exact ⟨C,d,oe,ks,fs,h0,h.trans h1,h2,h3,e _ _ h4,h5,h6.mono e⟩
 | _=>exact r.elim
theorem CellRep.obj (r:CellRep K Hv H a t):∃o,H a=some o∧vis o=true∧∀φ,o≠ .ext φ:=by
 cases t with
 | lst xs=>obtain ⟨vs,h1,_⟩:=r;exact ⟨_,h1,rfl,fun _ z=>by cases z⟩
 | dic kvs=>obtain ⟨ks,h1,_⟩:=r;exact ⟨_,h1,rfl,fun _ z=>by cases z⟩
 | ins C fs=>obtain ⟨dx,ks,h1,_⟩:=r;exact ⟨_,h1,rfl,fun _ z=>by cases z⟩
 | tup xs=>obtain ⟨_,_,_,_,_,_,h1,_⟩:=r;exact ⟨_,h1,rfl,fun _ z=>by cases z⟩
 | _=>exact r.elim
end
structure Cells (K:PySem.W.Frag) (S L:List Addr) (M:Mem) (H:Hp):Prop where
 on:∀a,a∈L↔M a≠none
 off:∀a∈L,a ∉ S
 at_:∀a t,M a=some t→CellRep K (hid (S++L) H) H a t
theorem Cells.obj {K:PySem.W.Frag} {S L:List Addr} {M:Mem} {H:Hp} (c:Cells K S L M H) {a:Addr} (h:a∈L):∃o,H a=some o∧vis o=true∧∀φ,o≠ .ext φ:=by
 cases e:M a with
 | none=>exact absurd e ((c.on a).mp h)
 | some t=>exact (c.at_ a t e).obj
abbrev nons (n:Nat):List (Option Addr):=List.replicate n none
theorem addrs_nons (n:Nat):addrs (nons n)=[]:=by
 unfold addrs
 rw [List.filterMap_replicate_of_none rfl]
theorem S_nons {c:Cf} {G L:List Addr} {n:Nat}:c.S (G++L) (nons n)=c.S0++G++L:=by
 unfold Cf.S
 rw [addrs_nons,List.append_nil,List.append_assoc]
theorem nons_of {A:List (Option Addr)} (h:∀a,a ∉ addrs A):A=nons A.length:=by
 refine List.eq_replicate_iff.mpr ⟨rfl,fun o ho=> ?_⟩
 cases o with
 | none=>rfl
 | some a=>exact absurd (mem_addrs.mpr ho) (h a)
abbrev vs4 (c:Cf) (G L:List Addr) (H:Hp):Hp:=hid (c.S0++G++L) H
theorem R3.re {K:PySem.W.Frag} {c:Cf} {Hb H:Hp} {Y:List Addr} {n:Nat} {σ3:List Sl} {σ:St} (r:R3 K c Hb Y (nons n) σ3 σ H):R3 K c H Y (nons n) σ3 σ H:=by
 refine ⟨r.inv, ?_,fun a h=>⟨rfl,(r.gk a h).2⟩,r.gv,r.nd,r.ns,r.l1,r.l2,r.at_⟩
 have e:c.S Y (nons n)=c.S0++Y:=by
  unfold Cf.S
  rw [addrs_nons,List.append_nil]
 rw [e]
 exact Same.refl _
structure R4 (K:PySem.W.Frag) (c:Cf) (Hb:Hp) (G L0 L:List Addr) (M:Mem) (σ3:List Sl) (σ:St) (H:Hp):Prop where
 r3:R3 K c H (G++L) (nons σ3.length) σ3 σ H
 base:Same (vs4 c G L0 Hb) (vs4 c G L H)
 gk:∀a∈G,H a=Hb a
 cells:Cells K (c.S0++G) L M H
section
variable {K:PySem.W.Frag} {c:Cf} {Hb H H':Hp} {G L0 L L':List Addr} {M M':Mem} {σ3:List Sl} {σ:St} {v:V} {t:T}
theorem Le.vis4 {n:Nat} (l:Le c (G++L) (nons n) H H'):Same (vs4 c G L H) (vs4 c G L H'):=by
 have:=l.vis
 rwa [S_nons] at this
theorem R4.le (r:R4 K c Hb G L0 L M σ3 σ H) (l:Le c (G++L) (nons σ3.length) H H'):R4 K c Hb G L0 L M σ3 σ H' where
 r3:=(r.r3.le l).re
 base:=Same.trans r.base l.vis4
 gk:=fun a h=>(l.own a (by simp [h])).trans (r.gk a h)
 cells:=⟨r.cells.on,r.cells.off,fun a t e=>(r.cells.at_ a t e).mono l.vis4 (l.own a (by simp [(r.cells.on a).mpr (by rw [e];intro z;cases z)]))⟩
theorem R4.rep {n:Nat} {u:V} {d:T} (h:Rep K (hid (c.S (G++L) (nons n)) H) u d):Rep K (vs4 c G L H) u d:=by rwa [S_nons] at h
structure Post (K:PySem.W.Frag) (S L:List Addr) (H:Hp) (L':List Addr) (M':Mem) (H':Hp):Prop where
 vis:Same (hid (S++L) H) (hid (S++L') H')
 gk:∀a∈S,H' a=H a
 cells:Cells K S L' M' H'
theorem Post.sameX {S:List Addr} (p:Post K S L H L' M' H') (cl:Cells K S L M H):SameX H H':=fun a φ e=>by
 by_cases h:a∈S
 · rw [p.gk a h];exact e
 · by_cases h2:a∈L
   · obtain ⟨o,e1,_,e2⟩:=cl.obj h2
     rw [e] at e1
     cases e1
     exact absurd rfl (e2 _)
   · exact (hid_some (p.vis _ _ (hid_mk e (by simp [h,h2])))).1
theorem R4.step (r:R4 K c Hb G L0 L M σ3 σ H) (hi:c.I H') (hv:Same (vs4 c G L H) (vs4 c G L' H')) (hg:∀a∈G,H' a=H a) (hc:Cells K (c.S0++G) L' M' H'):R4 K c Hb G L0 L' M' σ3 σ H' where
 r3:=by
  have e0:∀n,hid (c.S (G++L) (nons n)) H=vs4 c G L H:=fun n=>by rw [S_nons]
  refine ⟨hi, ?_,fun a h=>⟨rfl, ?_⟩,fun a h o e=> ?_,by rw [addrs_nons];exact List.nodup_nil,(by rw [addrs_nons];intro a h;cases h),r.r3.l1,r.r3.l2, ?_⟩
  · rw [S_nons, ←List.append_assoc]
    exact Same.refl _
  · rcases List.mem_append.mp h with h | h
    · rw [hg a h]
      exact (r.r3.gk a (by simp [h])).2
    · obtain ⟨o,e,_⟩:=hc.obj h
      exact ⟨(by rw [e];intro z;cases z),fun z=>hc.off a h (by simp [z])⟩
  · rcases List.mem_append.mp h with h | h
    · exact r.r3.gv a (by simp [h]) o (by rw [←hg a h];exact e)
    · obtain ⟨o',e',v',_⟩:=hc.obj h
      rw [e'] at e
      cases e
      exact c.gV _ v'
  · intro i s o x h1 h2 h3
    have z:=r.r3.at_ i s o x h1 h2 h3
    rw [e0] at z
    rw [S_nons]
    cases s with
    | no=>exact z
    | val t=>obtain ⟨e,v,e2,q⟩:=z;exact ⟨e,v,e2,q.mono hv⟩
    | own t=>
      obtain ⟨a,e,_⟩:=z
      have:=(List.mem_replicate.mp (List.mem_of_getElem? h2)).2
      rw [this] at e
      cases e
 base:=Same.trans r.base hv
 gk:=fun a h=>(hg a h).trans (r.gk a h)
 cells:=hc
theorem R4.post (r:R4 K c Hb G L0 L M σ3 σ H) (p:Post K (c.S0++G) L H L' M' H'):R4 K c Hb G L0 L' M' σ3 σ H':=
 r.step (c.st H H' (fun a h=>p.gk a (by simp [h])) (p.sameX r.cells) r.r3.inv) p.vis (fun a h=>p.gk a (by simp [h])) p.cells
theorem R4.rebase (r:R4 K c Hb G L0 L M σ3 σ H):R4 K c H G L L M σ3 σ H:=⟨r.r3,Same.refl _,fun _ _=>rfl,r.cells⟩
theorem R4.debase {L1:List Addr} {M1:Mem} {σ1:List Sl} {σ1':St} {H1:Hp} (r1:R4 K c Hb G L0 L1 M1 σ1 σ1' H1) (r:R4 K c H1 G L1 L M σ3 σ H):R4 K c Hb G L0 L M σ3 σ H:=
 ⟨r.r3,Same.trans r1.base r.base,fun a h=>(r.gk a h).trans (r1.gk a h),r.cells⟩
theorem R4.slots {σ3':List Sl} {σ':St} {A':List (Option Addr)} (r:R4 K c Hb G L0 L M σ3 σ H) (q:R3 K c H (G++L) A' σ3' σ' H) (hA:∀a,a ∉ addrs A'):R4 K c Hb G L0 L M σ3' σ' H where
 r3:=by
  have e:=nons_of hA
  rw [q.l1] at e
  rw [e] at q
  exact q
 base:=r.base
 gk:=r.gk
 cells:=r.cells
end
def LiftG4 (K:PySem.W.Frag) (c:Cf) (W:WX) {α β:Type} (rel:Hp→α→β→Prop) (te:St→Hp→(α→Hp→Prop)→Prop) (t:G4 β):Prop:=
 ∀σ3 M Q4 X,t σ3 M Q4 X→∀Hb G L0 L σ H Q,R4 K c Hb G L0 L M σ3 σ H→
  (∀v d L' M' H',R4 K c Hb G L0 L' M' σ3 σ H'→Same (vs4 c G L H) (vs4 c G L' H')→rel (vs4 c G L' H') v d→Q4 d M'→Q v H')→
  (∀cls dd x L' M' H',R4 K c Hb G L0 L' M' σ3 σ H'→Same (vs4 c G L H) (vs4 c G L' H')→XRep K (vs4 c G L' H') cls dd x→X x M'→W cls dd σ H')→te σ H Q
abbrev Lift4 (K:PySem.W.Frag) (c:Cf) (W:WX) (te:TE) (t:E4):Prop:=LiftG4 K c W (Rep K) te t
abbrev LiftT4 (K:PySem.W.Frag) (c:Cf) (W:WX) (te:TT) (t:B4):Prop:=LiftG4 K c W (fun _ (b b':Bool)=>b=b') te t
abbrev LiftA4 (K:PySem.W.Frag) (c:Cf) (W:WX) (te:TA) (t:A4):Prop:=LiftG4 K c W (RepL K) te t
def pu {β:Type} (t:G3 β):G4 β:=fun σ M Q X=>t σ (fun d=>Q d M) (fun x=>X x M)
section
variable {K:PySem.W.Frag} {c:Cf} {W:WX} {ta tb te:TE} {a b e:E4} {t u:TA} {x y:A4}
theorem lift_pu {α β:Type} {rel:Hp→α→β→Prop} {te:St→Hp→(α→Hp→Prop)→Prop} {t:G3 β} (h:LiftG K c W rel te t):LiftG4 K c W rel te (pu t):=by
 intro σ3 M Q4 X ht Hb G L0 L σ H Q R k e
 refine h _ _ _ ht H (G++L) (nons σ3.length) σ H Q R.r3 (fun v d H' l r q=> ?_) (fun cls dd x H' l r q=> ?_)
 · rw [S_nons] at r
   exact k v d L M H' (R.le l) l.vis4 r q
 · rw [S_nons] at r
   exact e cls dd x L M H' (R.le l) l.vis4 r q
def nil4:A4:=fun _ M Q _=>Q [] M
def cons4 (a:E4) (r:A4):A4:=fun σ M Q X=>a σ M (fun d M1=>r σ M1 (fun ds M2=>Q (d::ds) M2) X) X
theorem lift_nil4:LiftA4 K c W tNil nil4:=by
 intro σ3 M Q4 X h Hb G L0 L σ H Q R k e
 exact k _ _ L M H R (Same.refl _) .nil h
theorem lift_cons4 (ha:Lift4 K c W ta a) (hx:LiftA4 K c W t x):LiftA4 K c W (tCons ta t) (cons4 a x):=by
 intro σ3 M Q4 X h Hb G L0 L σ H Q R k e
 refine ha _ _ _ _ h Hb G L0 L σ H _ R (fun v d L1 M1 H1 R1 s1 r q=> ?_) e
 refine hx _ _ _ _ q Hb G L0 L1 σ H1 _ R1 (fun vs ds L2 M2 H2 R2 s2 rs q2=> ?_) (fun cls dd x L' M' H' R' s'=>e cls dd x L' M' H' R' (Same.trans s1 s'))
 exact k _ _ L2 M2 H2 R2 (Same.trans s1 s2) (.cons (r.mono s2) rs) q2
def op4 (r:T→T→(T→Prop)→Prop) (a b:E4):E4:=fun σ M Q X=>a σ M (fun d M1=>b σ M1 (fun d2 M2=>r d d2 (fun z=>Q z M2)) X) X
theorem lift_op4 {r:R2} {r3:T→T→(T→Prop)→Prop} (hr:RL2 K r r3) (ha:Lift4 K c W ta a) (hb:Lift4 K c W tb b):Lift4 K c W (tOp r ta tb) (op4 r3 a b):=by
 intro σ3 M Q4 X h Hb G L0 L σ H Q R k e
 refine ha _ _ _ _ h Hb G L0 L σ H _ R (fun v d L1 M1 H1 R1 s1 rv q=> ?_) e
 refine hb _ _ _ _ q Hb G L0 L1 σ H1 _ R1 (fun w d2 L2 M2 H2 R2 s2 rw' q2=> ?_) (fun cls dd x L' M' H' R' s'=>e cls dd x L' M' H' R' (Same.trans s1 s'))
 have rv2:=rv.mono s2
 refine hr c d d2 _ q2 H2 (G++L2) (nons σ3.length) σ3 σ H2 v w Q R2.r3 (by rw [S_nons];exact rv2) (by rw [S_nons];exact rw') (fun z dz H3 l rz qz=> ?_)
 rw [S_nons] at rz
 exact k z dz L2 M2 H3 (R2.le l) (Same.trans (Same.trans s1 s2) l.vis4) rz qz
def tst4 (a:E4):B4:=fun σ M Q X=>a σ M (fun d M1=>ob (asB d) fun b=>Q b M1) X
def not4 (a:B4):B4:=fun σ M Q X=>a σ M (fun b M1=>Q (!b) M1) X
def or4 (a b:B4):B4:=fun σ M Q X=>a σ M (fun x M1=>if x=true then Q true M1 else b σ M1 Q X) X
end
abbrev F4:=List T→Mem→(T→Mem→Prop)→XM→Prop
def sp4 (K:PySem.W.Frag) (n:Nat) (f:F4):Sp:=fun vs H Q E=>∃G L M ds,ds.length=n∧(∀a∈G,H a≠none)∧Cells K G L M H∧RepL K (hid (G++L) H) vs ds∧∃Q4 X4,f ds M Q4 X4∧
 (∀v d L' M' H',Post K G L H L' M' H'→Rep K (hid (G++L') H') v d→Q4 d M'→Q v H')∧
 (∀cls dd x L' M' H',Post K G L H L' M' H'→XRep K (hid (G++L') H') cls dd x→X4 x M'→E cls dd H')
theorem sp4_len {K:PySem.W.Frag} {n:Nat} {f:F4} {ps:List Str} (h:ps.length=n):∀vs H Q E,sp4 K n f vs H Q E→vs.length=ps.length:=by
 intro vs H Q E h'
 obtain ⟨G,L,M,ds,hl,_,_,r,_⟩:=h'
 rw [r.length,hl,h]
section
variable {K:PySem.W.Frag} {c:Cf} {W:WX} {t:TA} {x:A4} {n:Nat} {f:F4} {E:XK} {dvs:List V} {dts:List T}
theorem sp4_call {Hb H1:Hp} {G L0 L:List Addr} {M:Mem} {σ3:List Sl} {σ:St} {vs:List V} {ds:List T} {Q:VK} {Q4:T→Mem→Prop} {X:XM} (R:R4 K c Hb G L0 L M σ3 σ H1) (rx:RepL K (vs4 c G L H1) vs ds) (hl:ds.length=n) (hf:f ds M Q4 X)
 (k:∀v d L' M' H',R4 K c Hb G L0 L' M' σ3 σ H'→Same (vs4 c G L H1) (vs4 c G L' H')→Rep K (vs4 c G L' H') v d→Q4 d M'→Q v H')
 (e:∀cls dd x L' M' H',R4 K c Hb G L0 L' M' σ3 σ H'→Same (vs4 c G L H1) (vs4 c G L' H')→XRep K (vs4 c G L' H') cls dd x→X x M'→E cls dd H'):sp4 K n f vs H1 Q E:=by
 refine ⟨c.S0++G,L,M,ds,hl,fun a h=> ?_,R.cells,rx,Q4,X,hf,fun v d L' M' H' p r q=>k v d L' M' H' (R.post p) p.vis r q,fun cls dd x L' M' H' p r q=>e cls dd x L' M' H' (R.post p) p.vis r q⟩
 rcases List.mem_append.mp h with h | h
 · exact c.on _ R.r3.inv a h
 · exact (R.r3.gk a (by simp [h])).2.1
def fn40 (n:Nat) (f:F4) (x:A4) (dts:List T):E4:=fun σ M Q X=>x σ M (fun ds M1=>(ds++dts).length=n∧f (ds++dts) M1 Q (fun _ _=>False)) X
theorem lift_fn40 (hx:LiftA4 K c W t x) (hd:∀H,RepL K H dvs dts):Lift4 K c W (tCall (sp4 K n f) dvs E t) (fn40 n f x dts):=by
 intro σ3 M Q4 X h Hb G L0 L σ H Q R k e
 refine hx _ _ _ _ h Hb G L0 L σ H _ R (fun vs ds L1 M1 H1 R1 s1 rs q=> ?_) e
 exact sp4_call R1 (rs.append (hd _)) q.1 q.2 (fun v d L' M' H' R' s' r q=>k v d L' M' H' R' (Same.trans s1 s') r q) (fun cls dd x L' M' H' R' s' r q=>q.elim)
end
end M3
namespace M3
open PySem L2
structure N4 where
 nx:List Sl→Mem→Prop
 rt:T→Mem→Prop
 bk:List Sl→Mem→Prop:=fun _ _=>False
 ct:List Sl→Mem→Prop:=fun _ _=>False
 xn:List Sl→Xn→Mem→Prop:=fun _ _ _=>False
abbrev S4:=N4→List Sl→Mem→Prop
structure Fin4 (K:PySem.W.Frag) (c:Cf) (Hb:Hp) (G L0 L:List Addr) (M:Mem) (H:Hp):Prop where
 inv:c.I H
 base:Same (vs4 c G L0 Hb) (vs4 c G L H)
 gk:∀a∈G,H a=Hb a
 cells:Cells K (c.S0++G) L M H
theorem R4.fin {K:PySem.W.Frag} {c:Cf} {Hb H:Hp} {G L0 L:List Addr} {M:Mem} {σ3:List Sl} {σ:St} (r:R4 K c Hb G L0 L M σ3 σ H):Fin4 K c Hb G L0 L M H:=⟨r.r3.inv,r.base,r.gk,r.cells⟩
structure To4 (K:PySem.W.Frag) (c:Cf) (W:WX) (Hb:Hp) (G L0:List Addr) (N:N4) (D:Ends):Prop where
 nx:∀L M σ3 σ H,R4 K c Hb G L0 L M σ3 σ H→N.nx σ3 M→D.nx σ H
 rt:∀v d L M H,Fin4 K c Hb G L0 L M H→Rep K (vs4 c G L H) v d→N.rt d M→D.rt v H
 bk:∀L M σ3 σ H,R4 K c Hb G L0 L M σ3 σ H→N.bk σ3 M→D.bk σ H
 ct:∀L M σ3 σ H,R4 K c Hb G L0 L M σ3 σ H→N.ct σ3 M→D.ct σ H
 xn:∀L M σ3 σ H cls dd x,R4 K c Hb G L0 L M σ3 σ H→XRep K (vs4 c G L H) cls dd x→N.xn σ3 x M→W cls dd σ H
def LiftS4 (K:PySem.W.Frag) (c:Cf) (W:WX) (ts:TS) (t:S4):Prop:=
 ∀N σ3 M,t N σ3 M→∀Hb G L0 L σ H (D:Ends),R4 K c Hb G L0 L M σ3 σ H→To4 K c W Hb G L0 N D→ts D σ H
def next4:S4:=fun N σ M=>N.nx σ M
def seq4 (t u:S4):S4:=fun N σ M=>t {N with nx:=u N} σ M
def ret4 (a:E4):S4:=fun N σ M=>a σ M N.rt (N.xn σ)
def ifs4 (z:B4) (t u:S4):S4:=fun N σ M=>z σ M (fun b M1=>if b=true then t N σ M1 else u N σ M1) (N.xn σ)
def asg4 (a:E4) (g:TG3):S4:=fun N σ M=>a σ M (fun d M1=>g d σ fun σ'=>N.nx σ' M1) (N.xn σ)
section
variable {K:PySem.W.Frag} {c:Cf} {W:WX} {ta:TE} {a:E4} {t u:TS} {x y:S4}
theorem lift_next4:LiftS4 K c W tNext next4:=fun N σ3 M h Hb G L0 L σ H D R Z=>Z.nx _ _ _ _ _ R h
theorem lift_seq4 (h1:LiftS4 K c W t x) (h2:LiftS4 K c W u y):LiftS4 K c W (tSeq t u) (seq4 x y):=by
 intro N σ3 M h Hb G L0 L σ H D R Z
 exact h1 _ _ _ h Hb G L0 L σ H _ R ⟨fun L' M' σ3' σ' H' R' q=>h2 _ _ _ q Hb G L0 L' σ' H' D R' Z,Z.rt,Z.bk,Z.ct,Z.xn⟩
theorem lift_ret4 (ha:Lift4 K c W ta a):LiftS4 K c W (tRet ta) (ret4 a):=by
 intro N σ3 M h Hb G L0 L σ H D R Z
 exact ha _ _ _ _ h Hb G L0 L σ H _ R (fun v d L' M' H' R' _ r q=>Z.rt _ _ _ _ _ R'.fin r q) (fun cls dd x L' M' H' R' _ r q=>Z.xn _ _ _ _ _ _ _ _ R' r q)
theorem lift_ifs4 {k:TT} {z:B4} (hc:LiftT4 K c W k z) (h1:LiftS4 K c W t x) (h2:LiftS4 K c W u y):LiftS4 K c W (tIfS k t u) (ifs4 z x y):=by
 intro N σ3 M h Hb G L0 L σ H D R Z
 refine hc _ _ _ _ h Hb G L0 L σ H _ R (fun vx w L' M' H' R' _ r q=> ?_) (fun cls dd x L' M' H' R' _ r q=>Z.xn _ _ _ _ _ _ _ _ R' r q)
 subst r
 cases vx with
 | true=>exact iteT (h1 _ _ _ (by simpa using q) Hb G L0 L' σ H' D R' Z)
 | false=>exact iteF (h2 _ _ _ (by simpa using q) Hb G L0 L' σ H' D R' Z)
theorem lift_asg4 {vs:List Nat} {g:TG} {g3:TG3} (ha:Lift4 K c W ta a) (hg:LiftTg K c vs g g3):LiftS4 K c W (tAsg ta g) (asg4 a g3):=by
 intro N σ3 M h Hb G L0 L σ H D R Z
 refine ha _ _ _ _ h Hb G L0 L σ H _ R (fun v d L' M' H' R' _ r q=> ?_) (fun cls dd x L' M' H' R' _ r q=>Z.xn _ _ _ _ _ _ _ _ R' r q)
 refine hg _ _ _ q H' (G++L') (nons σ3.length) σ H' v _ R'.r3 (.inl (by rw [S_nons];exact r)) (fun A' σ3' σ' H2 R2 e2 st q'=> ?_)
 subst e2
 exact Z.nx _ _ _ _ _ (R'.slots R2 fun a h=>by
  have:=st.2.2 a h
  rw [addrs_nons] at this
  cases this) q'
def loop4 (g:TG3) (tb:S4) (N:N4):List T→List Sl→Mem→Prop
 | [],σ,M=>N.nx σ M
 | x::r,σ,M=>g x σ fun σ'=>tb {nx:=loop4 g tb N r,ct:=loop4 g tb N r,bk:=N.nx,rt:=N.rt,xn:=N.xn} σ' M
def for4 (s:A3) (g:TG3) (tb:S4):S4:=fun N σ M=>s σ (fun ds=>loop4 g tb N ds σ M) (fun x=>N.xn σ x M)
theorem lift_for4 {wk:Bool} {vs:List Nat} {wi:TI} {s:A3} {g:TG} {g3:TG3} {tb:TS} {b:S4} (hi:LiftIB K c wk W wi s) (hg:LiftTgB K c wk vs g g3) (hb:LiftS4 K c W tb b):LiftS4 K c W (tFor wi g tb) (for4 s g3 b):=by
 intro N σ3 M h Hb G L0 L σ H D R Z
 refine hi _ _ _ h H (G++L) (nons σ3.length) σ H _ R.r3 (fun J ds H1 l1 w q=> ?_) (fun cls dd x H' l r q=> ?_)
 rotate_left
 · rw [S_nons] at r
   exact Z.xn _ _ _ _ _ _ _ _ (R.le l) r q
 have R1:=R.le l1
 rw [S_nons] at w
 refine ⟨fun i m σ' H'=>m=ds.length-i∧i≤ds.length∧∃L' M' σ3',R4 K c H1 G L L' M' σ3' σ' H'∧loop4 g3 b N (ds.drop i) σ3' M',⟨ds.length,rfl,Nat.zero_le _,L,M,σ3,R1.rebase,by simpa using q⟩, ?_⟩
 rintro i m σ' H' ⟨rfl,hi,L',M',σ3',R',q'⟩
 have vis:=R'.base
 by_cases hl:i=ds.length
 · subst hl
   left
   refine ⟨w.stop _ _ vis,Z.nx _ _ _ _ _ (R1.debase R') ?_⟩
   have e:ds.drop ds.length=[]:=List.drop_length
   rw [e] at q'
   exact q'
 · right
   have hlt:i<ds.length:=Nat.lt_of_le_of_ne hi hl
   have hd:ds[i]? =some ds[i]:=List.getElem?_eq_getElem hlt
   rw [List.drop_eq_getElem_cons hlt] at q'
   refine ⟨w.go i _ _ _ hd vis,fun σ2 H2=>∃L2 M2 σ32,R4 K c H1 G L L2 M2 σ32 σ2 H2∧loop4 g3 b N (ds.drop (i+1)) σ32 M2, ?_, ?_⟩
   · rintro σ2 H2 ⟨L2,M2,σ32,R2,q2⟩
     exact ⟨ds.length-(i+1),by omega,rfl,hlt,L2,M2,σ32,R2,q2⟩
   · intro x H2 y
     have th:∀a∈c.S0++G++L',H' a≠none:=fun a h=>R'.r3.there (by rw [S_nons];exact h)
     obtain ⟨hn,rx⟩:=w.yld i _ _ _ x H2 hd vis th y
     have R2:R4 K c H1 G L L' M' σ3' σ' H2:=by
      rcases hn with rfl | ⟨p,o,hp,rfl⟩
      · exact R'
      · exact R'.le (R'.r3.new (o:=o) hp)
     refine hg _ _ _ q' H2 (G++L') (nons σ3'.length) σ' H2 x _ R2.r3 (by rw [S_nons];exact rx) (fun A4 σ4 σ4' H4 R4' e4 st q4=> ?_)
     subst e4
     refine hb _ _ _ q4 H1 G L L' σ4' H4 _ (R2.slots R4' fun a h=>by
      have:=st.2.2 a h
      rw [addrs_nons] at this
      cases this) ⟨?_, ?_, ?_, ?_, ?_⟩
     · exact fun L5 M5 σ5 σ5' H5 R5 q5=>⟨L5,M5,σ5,R5,q5⟩
     · exact fun v d L5 M5 H5 F rv q5=>Z.rt v d L5 M5 H5 ⟨F.inv,Same.trans R1.base F.base,fun a h=>(F.gk a h).trans (R1.gk a h),F.cells⟩ rv q5
     · exact fun L5 M5 σ5 σ5' H5 R5 q5=>Z.nx _ _ _ _ _ (R1.debase R5) q5
     · exact fun L5 M5 σ5 σ5' H5 R5 q5=>⟨L5,M5,σ5,R5,q5⟩
     · exact fun L5 M5 σ5 σ5' H5 cls dd xn R5 rx q5=>Z.xn _ _ _ _ _ _ _ _ (R1.debase R5) rx q5
end
end M3
namespace M3
open PySem L2
section
variable {K:PySem.W.Frag} {c:Cf} {W:WX} {ta tb te:TE} {a b e:E4} {t u:TT} {x y:B4}
theorem lift_tst4 (ha:Lift4 K c W ta a):LiftT4 K c W (tTest ta) (tst4 a):=by
 intro σ3 M Q4 X h Hb G L0 L σ H Q R k e
 refine ha _ _ _ _ h Hb G L0 L σ H _ R (fun v d L1 M1 H1 R1 s1 r q=> ?_) e
 obtain ⟨z,ez,q1⟩:=ob_iff.mp q
 cases asB_is ez
 exact ⟨z,r.blI,k z z L1 M1 H1 R1 s1 rfl q1⟩
theorem lift_not4 (ha:LiftT4 K c W t x):LiftT4 K c W (tNot t) (not4 x):=by
 intro σ3 M Q4 X h Hb G L0 L σ H Q R k e
 refine ha _ _ _ _ h Hb G L0 L σ H _ R (fun v d L1 M1 H1 R1 s1 r q=> ?_) e
 subst r
 exact k _ _ L1 M1 H1 R1 s1 rfl q
theorem lift_or4 (ha:LiftT4 K c W t x) (hb:LiftT4 K c W u y):LiftT4 K c W (tOr t u) (or4 x y):=by
 intro σ3 M Q4 X h Hb G L0 L σ H Q R k e
 refine ha _ _ _ _ h Hb G L0 L σ H _ R (fun v d L1 M1 H1 R1 s1 r q=> ?_) e
 subst r
 cases v with
 | false=>exact iteF (hb _ _ _ _ (by simpa using q) Hb G L0 L1 σ H1 _ R1 (fun v d L' M' H' R' s'=>k v d L' M' H' R' (Same.trans s1 s')) (fun cls dd x L' M' H' R' s'=>e cls dd x L' M' H' R' (Same.trans s1 s')))
 | true=>exact iteT (k true true L1 M1 H1 R1 s1 rfl (by simpa using q))
end
theorem body4 {K:PySem.W.Frag} {n:Nat} {f:F4} {N:List Str} {t:TS} {x:S4} {W:WX} {vs:List V} {H:Hp} {Q:VK} {E:XK} (h:sp4 K n f vs H Q E) (hW:∀cls dd σ H',E cls dd H'→W cls dd σ H')
 (lt:LiftS4 K cf0 W t x) (hb:∀ds M Q4 X,ds.length=n→f ds M Q4 X→x {nx:=fun _ M=>Q4 .non M,rt:=Q4,xn:=fun _=>X} (start3 N.length ds) M):t {nx:=fun _ H'=>Q .non H',rt:=Q} (start N vs) H:=by
 obtain ⟨G,L,M,ds,hl,hG,cl,r,Q4,X,hf,hq,hx⟩:=h
 have r0:R3 K cf0 H (G++L) (nons (start3 N.length ds).length) (start3 N.length ds) (start N vs) H:=r3_start (c:=cf0) (N:=N) trivial (fun a h=>⟨(by
  rcases List.mem_append.mp h with h | h
  · exact hG a h
  · obtain ⟨o,e,_⟩:=cl.obj h
    rw [e];intro z;cases z),fun z=>by cases z⟩) (fun _=>trivial) r
 have R0:R4 K cf0 H G L L M (start3 N.length ds) (start N vs) H:=⟨r0,Same.refl _,fun _ _=>rfl,cl⟩
 refine lt _ _ _ (hb ds M Q4 X hl hf) H G L L _ H _ R0 ⟨?_, ?_,fun _ _ _ _ _ _ z=>z.elim,fun _ _ _ _ _ _ z=>z.elim, ?_⟩
 · intro L' M' σ3 σ H' R q
   exact hq _ _ L' M' H' ⟨R.base,R.gk,R.cells⟩ .non q
 · intro v d L' M' H' F rv q
   exact hq _ _ L' M' H' ⟨F.base,F.gk,F.cells⟩ rv q
 · intro L' M' σ3 σ H' cls dd xn R rx q
   exact hW _ _ _ _ (hx cls dd xn L' M' H' ⟨R.base,R.gk,R.cells⟩ rx q)
def asR:T→Option Addr
 | .ref a=>some a
 | _=>none
theorem asR_is {t:T} {a:Addr} (h:asR t=some a):t= .ref a:=by
 cases t<;>simp [asR] at h<;>subst h<;>rfl
end M3
namespace M3
open PySem L2
section
variable {K:PySem.W.Frag} {c:Cf} {Hb H H':Hp} {G L0 L L':List Addr} {M M':Mem} {σ3:List Sl} {σ:St} {W:WX}
theorem R4.noOwn (r:R4 K c Hb G L0 L M σ3 σ H) (vs:List Nat):noOwn σ3 vs:=fun i _ t e=>by
 have hl:i<σ3.length:=(List.getElem?_eq_some_iff.mp e).1
 have h1:(nons σ3.length)[i]? =some none:=by simp [hl]
 have h2:i<σ.length:=by rw [r.r3.l2];exact hl
 obtain ⟨a,z,_⟩:=r.r3.at_ i _ _ _ e h1 (List.getElem?_eq_getElem h2)
 cases z
theorem R4.hide (r:R4 K c Hb G L0 L M σ3 σ H) {D:Addr} {o:HO} (hD:H D=none) (ho:vis o=true):R4 K c (upd H D o) (D::G) L L M σ3 σ (upd H D o)∧Same (vs4 c G L H) (vs4 c (D::G) L (upd H D o)):=by
 have nD:D ∉ c.S0++G++L:=fun z=>r.r3.there (by rw [S_nons];exact z) hD
 have l:=r.r3.new (o:=o) hD
 have eS:∀a,a∈c.S0++(D::G)++L↔a=D∨a∈c.S0++G++L:=fun a=>by
  simp only [List.mem_cons,List.mem_append]
  exact ⟨fun h=>by rcases h with (h | h | h) | h<;>simp [h],fun h=>by rcases h with h | (h | h) | h<;>simp [h]⟩
 have hv:Same (vs4 c G L H) (vs4 c (D::G) L (upd H D o)):=fun a u z=>by
  obtain ⟨z1,z2⟩:=hid_some z
  have na:a≠D:=fun y=>by rw [y,hD] at z1;cases z1
  exact hid_mk (by rw [upd_ne na];exact z1) (fun y=>((eS a).mp y).elim na z2) (hid_vis z)
 have e0:∀n,hid (c.S (G++L) (nons n)) H=vs4 c G L H:=fun n=>by rw [S_nons]
 refine ⟨⟨⟨l.inv, ?_,fun a h=>⟨rfl, ?_⟩,fun a h u e=> ?_,by rw [addrs_nons];exact List.nodup_nil,(by rw [addrs_nons];intro a h;cases h),r.r3.l1,r.r3.l2, ?_⟩,Same.refl _,fun _ _=>rfl,⟨r.cells.on,fun a h z=> ?_,fun a t e=> ?_⟩⟩,hv⟩
 · rw [S_nons, ←List.append_assoc]
   exact Same.refl _
 · by_cases z:a=D
   · subst z
     exact ⟨(by rw [upd_same];intro y;cases y),fun y=>nD (by simp [y])⟩
   · have hm:a∈G++L:=by
      rcases List.mem_append.mp h with h | h
      · exact List.mem_append.mpr (.inl ((List.mem_cons.mp h).resolve_left z))
      · exact List.mem_append.mpr (.inr h)
     rw [upd_ne z]
     exact (r.r3.gk a hm).2
 · by_cases z:a=D
   · subst z
     rw [upd_same] at e
     cases e
     exact c.gV _ ho
   · have hm:a∈G++L:=by
      rcases List.mem_append.mp h with h | h
      · exact List.mem_append.mpr (.inl ((List.mem_cons.mp h).resolve_left z))
      · exact List.mem_append.mpr (.inr h)
     rw [upd_ne z] at e
     exact r.r3.gv a hm u e
 · intro i s o' x h1 h2 h3
   have z:=r.r3.at_ i s o' x h1 h2 h3
   rw [e0] at z
   rw [S_nons]
   cases s with
   | no=>exact z
   | val t=>obtain ⟨e,v,e2,q⟩:=z;exact ⟨e,v,e2,q.mono hv⟩
   | own t=>
     obtain ⟨a,e,_⟩:=z
     have:=(List.mem_replicate.mp (List.mem_of_getElem? h2)).2
     rw [this] at e
     cases e
 · have:=r.cells.off a h
   rcases List.mem_append.mp z with z | z
   · exact this (by simp [z])
   · rcases List.mem_cons.mp z with z | z
     · subst z;exact nD (by simp [h])
     · exact this (by simp [z])
 · have na:a≠D:=fun y=>by
    subst y
    exact nD (by simp [(r.cells.on a).mpr (by rw [e];intro z;cases z)])
   exact (r.cells.at_ a t e).mono hv (upd_ne na)
theorem R4.show_ {D:Addr} {Hx:Hp} {Lx:List Addr} (r:R4 K c Hx (D::G) Lx L M σ3 σ H) (nG:D ∉ c.S0++G):R4 K c H G L L M σ3 σ H∧Same (vs4 c (D::G) L H) (vs4 c G L H):=by
 have hv:Same (vs4 c (D::G) L H) (vs4 c G L H):=hid_mono fun a h=>by
  simp only [List.mem_cons,List.mem_append] at h ⊢
  rcases h with (h | h) | h<;>simp [h]
 have e0:∀n,hid (c.S (D::G++L) (nons n)) H=vs4 c (D::G) L H:=fun n=>by rw [S_nons]
 refine ⟨⟨⟨r.r3.inv, ?_,fun a h=>⟨rfl,(r.r3.gk a ?_).2⟩,fun a h u e=>r.r3.gv a ?_ u e,by rw [addrs_nons];exact List.nodup_nil,(by rw [addrs_nons];intro a h;cases h),r.r3.l1,r.r3.l2, ?_⟩,Same.refl _,fun _ _=>rfl,⟨r.cells.on,fun a h z=> ?_,fun a t e=>(r.cells.at_ a t e).mono hv rfl⟩⟩,hv⟩
 · rw [S_nons, ←List.append_assoc]
   exact Same.refl _
 · rcases List.mem_append.mp h with h | h<;>simp [h]
 · rcases List.mem_append.mp h with h | h<;>simp [h]
 · intro i s o' x h1 h2 h3
   have z:=r.r3.at_ i s o' x h1 h2 h3
   rw [e0] at z
   rw [S_nons]
   cases s with
   | no=>exact z
   | val t=>obtain ⟨e,v,e2,q⟩:=z;exact ⟨e,v,e2,q.mono hv⟩
   | own t=>
     obtain ⟨a,e,_⟩:=z
     have:=(List.mem_replicate.mp (List.mem_of_getElem? h2)).2
     rw [this] at e
     cases e
 · exact r.cells.off a h (by rcases List.mem_append.mp z with z | z<;>simp [z])
theorem R4.hidPut (r:R4 K c Hb G L0 L M σ3 σ H) {D:Addr} {o:HO} (hD:D∈G) (h0:∀φ,H D≠some (.ext φ)) (ho:vis o=true):R4 K c (upd H D o) G L L M σ3 σ (upd H D o)∧vs4 c G L (upd H D o)=vs4 c G L H:=by
 have hv:vs4 c G L (upd H D o)=vs4 c G L H:=hid_upd_in (by simp [hD])
 have nD:D ∉ c.S0:=(r.r3.gk D (by simp [hD])).2.2
 have e0:∀n,hid (c.S (G++L) (nons n)) H=vs4 c G L H:=fun n=>by rw [S_nons]
 have inv:c.I (upd H D o):=c.st H _ (fun b hb=>upd_ne (fun z=>nD (by rw [←z];exact hb))) (fun b φ e=>by
  have:b≠D:=fun z=>h0 _ ((congrArg H z).symm.trans e)
  rw [upd_ne this];exact e) r.r3.inv
 refine ⟨⟨⟨inv, ?_,fun a h=>⟨rfl, ?_⟩,fun a h u e=> ?_,by rw [addrs_nons];exact List.nodup_nil,(by rw [addrs_nons];intro a h;cases h),r.r3.l1,r.r3.l2, ?_⟩,Same.refl _,fun _ _=>rfl,⟨r.cells.on,r.cells.off,fun a t e=> ?_⟩⟩,hv⟩
 · rw [S_nons, ←List.append_assoc]
   exact Same.refl _
 · by_cases z:a=D
   · subst z
     exact ⟨(by rw [upd_same];intro y;cases y),nD⟩
   · rw [upd_ne z]
     exact (r.r3.gk a h).2
 · by_cases z:a=D
   · subst z
     rw [upd_same] at e
     cases e
     exact c.gV _ ho
   · rw [upd_ne z] at e
     exact r.r3.gv a h u e
 · intro i s o' x h1 h2 h3
   have z:=r.r3.at_ i s o' x h1 h2 h3
   rw [e0] at z
   rw [S_nons]
   show SlRep K (vs4 c G L (upd H D o)) (upd H D o) s o' x
   rw [hv]
   cases s with
   | no=>exact z
   | val t=>exact z
   | own t=>
     obtain ⟨a,e,_⟩:=z
     have:=(List.mem_replicate.mp (List.mem_of_getElem? h2)).2
     rw [this] at e
     cases e
 · show CellRep K (vs4 c G L (upd H D o)) (upd H D o) a t
   rw [hv]
   refine (r.cells.at_ a t e).mono (Same.refl _) (upd_ne fun z=> ?_)
   exact r.cells.off a ((r.cells.on a).mpr (by rw [e];intro z;cases z)) (by rw [z];simp [hD])
def comp4 (g:TG3) (tt:B3) (te:E4) (σ:List Sl) (X:XM) (Q:List T→Mem→Prop):List T→List T→Mem→Prop
 | [],acc,M=>Q acc M
 | x::r,acc,M=>g x σ fun σ'=>tt σ' (fun b=>if b=true then te σ' M (fun y M1=>acc.length<sizeLine∧comp4 g tt te σ X Q r (acc++[y]) M1) X else comp4 g tt te σ X Q r acc M) (fun x=>X x M)
def lc4 (s:A3) (g:TG3) (tt:B3) (te:E4) (vs:List Nat):E4:=fun σ M Q X=>s σ (fun ds=>comp4 g tt te (wipe3 σ vs) X (fun ys M1=>Q (.lst ys) M1) ds [] M) (fun x=>X x M)
theorem lift_lc4 {wk:Bool} {vs:List Nat} {wi:TI} {s:A3} {g:TG} {g3:TG3} {tt:TT} {b:B3} {te:TE} {e4:E4} (hi:LiftIB K c wk W wi s) (hg:LiftTgB K c wk vs g g3) (ht:LiftT K c W tt b) (he:Lift4 K c W te e4)
 (hW:∀cls dd σ σ' H,W cls dd σ H→W cls dd σ' H):Lift4 K c W (tLc wi g tt te vs) (lc4 s g3 b e4 vs):=by
 intro σ3 M Q4 X h Hb G L0 L σ H Q R k e
 refine hi _ _ _ h H (G++L) (nons σ3.length) σ H _ R.r3 (fun J ds H1 l1 w q=> ?_) (fun cls dd x H' l r q=> ?_)
 rotate_left
 · rw [S_nons] at r
   exact e cls dd x L M H' (R.le l) l.vis4 r q
 have R1:=R.le l1
 rw [S_nons] at w
 intro D hD
 have nG:D ∉ c.S0++G:=fun z=>R1.r3.there (by rw [S_nons];simp only [List.mem_append] at z ⊢;rcases z with z | z<;>simp [z]) hD
 have RW:R4 K c Hb G L0 L M (wipe3 σ3 vs) (wipe σ vs) H1:=R1.slots (R1.r3.wiped (vs:=vs) (R1.noOwn vs)) (by intro a h;rw [addrs_nons] at h;cases h)
 obtain ⟨RD,vD⟩:=RW.hide (o:=.lst []) hD rfl
 have fin:∀L' M' H',R4 K c H' (D::G) L' L' M' (wipe3 σ3 vs) (wipe σ vs) H'→Same (vs4 c G L H1) (vs4 c (D::G) L' H')→(∀a∈G,H' a=H1 a)→R4 K c Hb G L0 L' M' σ3 σ H'∧Same (vs4 c G L H1) (vs4 c G L' H')∧Same (vs4 c (D::G) L' H') (vs4 c G L' H'):=by
  intro L' M' H' R' v' g'
  obtain ⟨RS,vS⟩:=R'.show_ nG
  exact ⟨R1.step RS.r3.inv (Same.trans v' vS) g' RS.cells,Same.trans v' vS,vS⟩
 refine ⟨fun i m H'=>m=ds.length-i∧i≤ds.length∧∃accV acc L' M',H' D=some (.lst accV)∧R4 K c H' (D::G) L' L' M' (wipe3 σ3 vs) (wipe σ vs) H'∧RepL K (vs4 c (D::G) L' H') accV acc∧comp4 g3 b e4 (wipe3 σ3 vs) X (fun ys M1=>Q4 (.lst ys) M1) (ds.drop i) acc M'∧
  Same (vs4 c G L H1) (vs4 c (D::G) L' H')∧(∀a∈G,H' a=H1 a),⟨ds.length,rfl,Nat.zero_le _,[],[],L,M,upd_same,RD,.nil,by simpa using q,vD,fun a h=>upd_ne (fun z=>nG (by rw [←z];simp [h]))⟩, ?_⟩
 rintro i m H2 ⟨rfl,hi,accV,acc,L2,M2,hd2,R2,racc,q2,vis,gk2⟩
 obtain ⟨F1,F2,F3⟩:=fin L2 M2 H2 R2 vis gk2
 by_cases hl:i=ds.length
 · subst hl
   left
   refine ⟨w.stop _ _ F2, ?_⟩
   have e':ds.drop ds.length=[]:=List.drop_length
   rw [e'] at q2
   have nD2:D ∉ c.S0++G++L2:=fun z=>by
    rcases List.mem_append.mp z with z | z
    · exact nG z
    · exact R2.cells.off D z (by simp)
   exact k _ _ L2 M2 H2 F1 (Same.trans l1.vis4 F2) (.mkL (hid_mk hd2 nD2) (racc.mono F3)) q2
 · right
   have hlt:i<ds.length:=Nat.lt_of_le_of_ne hi hl
   have hdd:ds[i]? =some ds[i]:=List.getElem?_eq_getElem hlt
   rw [List.drop_eq_getElem_cons hlt] at q2
   refine ⟨w.go i _ _ _ hdd F2,fun H3=>∃accV acc L' M',H3 D=some (.lst accV)∧R4 K c H3 (D::G) L' L' M' (wipe3 σ3 vs) (wipe σ vs) H3∧RepL K (vs4 c (D::G) L' H3) accV acc∧comp4 g3 b e4 (wipe3 σ3 vs) X (fun ys M1=>Q4 (.lst ys) M1) (ds.drop (i+1)) acc M'∧
    Same (vs4 c G L H1) (vs4 c (D::G) L' H3)∧(∀a∈G,H3 a=H1 a), ?_, ?_⟩
   · rintro H3 ⟨accV,acc,z⟩
     exact ⟨ds.length-(i+1),by omega,rfl,hlt,accV,acc,z⟩
   · intro x H3 y
     obtain ⟨hn,rx⟩:=w.yld i _ (c.S0++(D::G)++L2) _ x H3 hdd vis (fun a h=>R2.r3.there (by rw [S_nons];exact h)) y
     have l3:Le c (D::G++L2) (nons (wipe3 σ3 vs).length) H2 H3:=by
      rcases hn with rfl | ⟨p,o,hp,rfl⟩
      · exact Le.refl R2.r3.inv
      · exact R2.r3.new hp
     have R3':=R2.le l3
     have exn:∀(σ':St) cls dd x L' M' (σx:List Sl) H',R4 K c H2 (D::G) L2 L' M' σx σ' H'→XRep K (vs4 c (D::G) L' H') cls dd x→X x M'→W cls dd σ' H':=fun σ' cls dd x L' M' σx H' R' r hx=>by
      have R5:R4 K c H2 (D::G) L2 L' M' (wipe3 σ3 vs) (wipe σ vs) H':=R2.step R'.r3.inv R'.base R'.gk R'.cells
      obtain ⟨f1,f2,f3⟩:=fin L' M' H' R5.rebase (Same.trans vis R5.base) (fun a h=>(R5.gk a (by simp [h])).trans (gk2 a h))
      refine hW cls dd σ σ' H' (e cls dd x L' M' H' f1 (Same.trans l1.vis4 f2) ?_ hx)
      obtain ⟨r1,r2⟩:=r
      refine ⟨r1, ?_⟩
      cases dd with
      | none=>exact r2
      | some d=>
        obtain ⟨fs,g1,g2,g3⟩:=r2
        exact ⟨fs,f3 _ _ g1,g2,g3.mono f3⟩
     refine hg _ _ _ q2 H3 (D::G++L2) (nons (wipe3 σ3 vs).length) (wipe σ vs) H3 x _ R3'.r3 (by rw [S_nons];exact rx) (fun A4 σ4 σ4' H4 R4a e4' st q4=> ?_)
     subst e4'
     have hA4:∀a,a ∉ addrs A4:=fun a h=>by
      have:=st.2.2 a h
      rw [addrs_nons] at this
      cases this
     refine ⟨?_, ?_⟩
     · rw [wipe_eq st.1 (fun j hj=>(st.2.1 j hj).1),wipe_wipe]
     have R4b:=R3'.slots R4a hA4
     refine ht _ _ _ q4 H4 (D::G++L2) (nons σ4.length) σ4' H4 _ R4b.r3 (fun v d H5 l5 r5 q5=> ?_) (fun cls dd x H5 l5 r5 q5=> ?_)
     rotate_left
     · rw [S_nons] at r5
       exact exn σ4' cls dd x L2 M2 σ4 H5 (R4b.le l5) r5 q5
     subst r5
     have R5:R4 K c H2 (D::G) L2 L2 M2 σ4 σ4' H5:=R4b.le l5
     cases v with
     | false=>
       rw [if_neg (by decide)]
       have q5':comp4 g3 b e4 (wipe3 σ3 vs) X (fun ys M1=>Q4 (.lst ys) M1) (ds.drop (i+1)) acc M2:=by simpa using q5
       have R6:R4 K c H2 (D::G) L2 L2 M2 (wipe3 σ3 vs) (wipe σ vs) H5:=R2.step R5.r3.inv R5.base R5.gk R5.cells
       exact ⟨accV,acc,L2,M2,(R6.gk D (by simp)).trans hd2,R6.rebase,racc.mono R6.base,q5',Same.trans vis R6.base,fun a h=>(R6.gk a (by simp [h])).trans (gk2 a h)⟩
     | true=>
       rw [if_pos rfl]
       have q5':e4 σ4 M2 (fun y M1=>acc.length<sizeLine∧comp4 g3 b e4 (wipe3 σ3 vs) X (fun ys M1=>Q4 (.lst ys) M1) (ds.drop (i+1)) (acc++[y]) M1) X:=by simpa using q5
       refine he _ _ _ _ q5' H2 (D::G) L2 L2 σ4' H5 _ R5 (fun v d L6 M6 H6 R6 s6 r6 q6=> ?_) (fun cls dd x L6 M6 H6 R6 s6 r6 q6=>exn σ4' cls dd x L6 M6 σ4 H6 R6 r6 q6)
       have R7:R4 K c H2 (D::G) L2 L6 M6 (wipe3 σ3 vs) (wipe σ vs) H6:=R2.step R6.r3.inv R6.base R6.gk R6.cells
       have hd6:H6 D=some (.lst accV):=(R7.gk D (by simp)).trans hd2
       obtain ⟨R8,v8⟩:=R7.hidPut (D:=D) (o:=.lst (accV++[v])) (by simp) (fun φ z=>by rw [hd6] at z;cases z) rfl
       refine ⟨accV,hd6,by rw [racc.length];exact q6.1,accV++[v],acc++[d],L6,M6,upd_same,R8, ?_,q6.2, ?_,fun a h=> ?_⟩
       · rw [v8]
         exact (racc.mono R7.base).append (.cons r6 .nil)
       · rw [v8]
         exact Same.trans vis R7.base
       · rw [upd_ne (fun z=>nG (by rw [←z];simp [h]))]
         exact (R7.gk a (by simp [h])).trans (gk2 a h)
end
end M3
namespace M3
open PySem L2
end M3
namespace M3
open PySem L2
end M3
namespace M3
open PySem L2
end M3
namespace PySem.SeqAt
open AutoSeq1 (wpAny_loadPart')
open MeetsSeq MeetsSeq2 MeetsSeq3 SeqRoads2
end PySem.SeqAt
namespace M3
open PySem L2
end M3
namespace M3
open PySem L2
end M3
namespace M3
open PySem L2
end M3
namespace M3
open PySem L2
end M3
namespace M3
open PySem L2 PySem.Froz PyProof.Rows
end M3
namespace M3
open PySem L2 PySem.Froz PyProof.Rows
end M3
namespace M3
open PySem L2 PySem.Froz PyProof.Rows
end M3
namespace M3
open PySem L2 PySem.Froz PyProof.Rows PySem.Spec
end M3
namespace M3
open PySem L2 PySem.Froz PyProof.Rows
end M3
namespace M3
open PySem PySem.Spec PySem.Froz PyProof.Rows L2
end M3
namespace M3
open PySem L2
end M3
namespace M3
open PySem PySem.Spec PyProof.Rows L2
end M3
namespace M3
open PySem PySem.Spec PyProof.Rows L2
end M3
set_option maxHeartbeats 1000000
namespace M3
open PySem PySem.Spec PyProof.Rows L2 LamX
structure LamP (sc scope:Scope) (b:Str):Prop where
 kind:scope.kind= .function
 co:scope.isCoroutine=false
 gen:scope.isGenerator=false
 own:∀y∈scope.names,(y.2= .local→y.1=b)∧y.2≠ .cell
 lb:scope.names.lookup b=some .local
 free:∀y∈scope.names,y.2= .free→sc.names.lookup y.1=some .cell∨sc.names.lookup y.1=some .free
 nn:∀y∈scope.names,y.1≠Str.empty
theorem LamP.has {X:Cx} {scope:Scope} {b:Str} (L:LamP X.env.scope scope b) (ok:X.Ok):∀y∈scope.names,y.2= .free→∃c,X.env.cells.lookup y.1=some c:=fun y hy e=>by
 rcases L.free y hy e with k | k
 · exact ok.has _ (.inl k)
 · exact ok.has _ (.inr k)
end M3
set_option maxHeartbeats 1000000
namespace M3
open PySem PySem.Spec PyProof.Rows L2 LamX PySem.W PySem.Calls
theorem Un.untracked {fs ex:List Addr} {H H1:Hp} {h h1 h2:Heap} {x:Addr} (u:Un fs ex H H1 h h1) (k:∀b o,b≠x→h1.get? b=some o→h2.get? b=some o) (hx:h.get? x=none):Un fs ex H H1 h h2:=by
 have ne:∀ {b:Addr} {o:Obj},h.get? b=some o→b≠x:=fun {b o} e z=>by rw [z,hx] at e;cases e
 exact ⟨fun b o e n h1 h2=>k b o (ne e) (u.keep b o e n h1 h2),fun b o e n h1 h2=>by
  obtain ⟨sl,q⟩:=u.slot b o e n h1 h2
  exact ⟨sl,k b _ (ne e) q⟩,u.free,fun b o e hb=>by
  obtain ⟨o',q⟩:=u.there b o e hb
  exact ⟨o',k b _ (ne e) q⟩,u.tups,u.frzs,u.tbls⟩
theorem HOk.untracked {P:Program} {w:World} {H:Hp} {h h':Heap} {x:Addr} (z:HOk P w H h) (hx:H x=none) (k:∀b o,b≠x→h.get? b=some o→h'.get? b=some o):HOk P w H h':=fun a o e=>
 (z a o e).stay (fun b u hb q=>k b u (fun y=>by
   subst y
   rcases hb with hb | hb
   · subst hb;rw [hx] at e;cases e
   · rw [hx] at hb;cases hb) q) (fun _ q=>q) fun _ _ q=>q
section
variable {X:Cx} {pins:List (Addr×Obj)} {σ:L2.St} {H0:Hp} {s0 s:Shared} {a kS f c':Addr} {k:Nat} {b:Str} {tb:TE} {params:Arguments} {body:Expr} {scope:Scope} {pm ctv:Value} {Qk:List V→Hp→Prop} {P:PySem.Fin→Shared→Prop} {E:Value→Shared→Prop} {A:Around} {e1:Nat}
structure KSt (X:Cx) (H0 H:Hp) (s0 s:Shared) (a kS:Addr) (e1:Nat) (ks:List V):Prop where
 os:s.os=s0.os
 bare:AllBare s.gens
 un:Un (frs X.stack) [] H0 H s0.heap s.heap
 hok:HOk X.prog X.w H s.heap
 nk:∃kA e,s.heap.get? kS=some (seqObj "list" kA e)∧Vals ks kA.toList
 na:s.heap.get? a=some (seqObj "list" #[] e1)
 fk:H kS=none
 fa:H a=none
theorem KSt.inv (z:KSt X H0 H s0 s a kS e1 ks) (I0:Inv X pins σ H0 s0):Inv X pins σ H s:=I0.call' (ch:=[]) z.os z.un z.hok z.bare fun b hb=>absurd hb (by simp)
theorem KSt.push (z:KSt X H0 H s0 s a kS e1 ks) (hk0:s0.heap.get? kS=none) (hka:kS≠a) (nfk:kS ∉ frs X.stack) (nfa:a ∉ frs X.stack) {H1:Hp} {s1:Shared} {v:V} {u:Value} (os:s1.os=s.os) (bare:AllBare s1.gens) (un:Un (frs X.stack) [] H H1 s.heap s1.heap) (hok:HOk X.prog X.w H1 s1.heap) (r:RelV v u)
 {g:Shared} (hg:g={s1 with heap:=s1.heap.update kS (Obj.mapSeq (·.push u))}):KSt X H0 H1 s0 g a kS e1 (ks++[v]):=by
 obtain ⟨kA,e,nk,hv⟩:=z.nk
 have nk2:s1.heap.get? kS=some (seqObj "list" kA e):=un.keep kS _ nk z.fk nfk (by simp)
 have na2:s1.heap.get? a=some (seqObj "list" #[] e1):=un.keep a _ z.na z.fa nfa (by simp)
 have fk2:H1 kS=none:=un.free kS _ nk z.fk (by simp)
 have fa2:H1 a=none:=un.free a _ z.na z.fa (by simp)
 have sb:=Heap.SameBut.update s1.heap kS (Obj.mapSeq (·.push u))
 obtain ⟨c2,hc2⟩:∃c2,(s1.heap.update kS (Obj.mapSeq (·.push u))).get? kS=some (seqObj "list" (kA.push u) c2):=⟨_,get?_update_seq nk2 (·.push u)⟩
 have kk:∀b o,b≠kS→s1.heap.get? b=some o→(s1.heap.update kS (Obj.mapSeq (·.push u))).get? b=some o:=fun b o hb e=>(sb.2 b hb).trans e
 subst hg
 refine ⟨os.trans z.os,bare,Un.untracked (z.un.trans un) kk hk0,HOk.untracked hok fk2 kk,⟨_,_,hc2, ?_⟩,(sb.2 a hka.symm).trans na2,fk2,fa2⟩
 rw [Array.toList_push]
 exact hv.append (.cons r .nil)
end
end M3
set_option maxHeartbeats 1000000
namespace M3
open PySem PySem.Spec PyProof.Rows L2 LamX PySem.W PySem.Calls
end M3
set_option maxHeartbeats 1000000
namespace M3
open PySem PySem.Spec PyProof.Rows L2 LamX PySem.W PySem.Calls
end M3
set_option maxHeartbeats 1000000
namespace M3
open PySem PySem.Spec PyProof.Rows L2
theorem RepL.rep {K:PySem.W.Frag} {H:Hp} {vs:List V} {ts:List T} (r:RepL K H vs ts):∀n:Nat,RepL K H (List.replicate n vs).flatten (List.replicate n ts).flatten
 | 0=>.nil
 | n+1=>by
   rw [List.replicate_succ,List.replicate_succ,List.flatten_cons,List.flatten_cons]
   exact r.append (RepL.rep r n)
end M3
namespace M3
open PySem PySem.Spec PySem.Froz PyProof.Rows L2
end M3
set_option maxHeartbeats 1000000
namespace M3
open PySem L2
end M3
set_option maxHeartbeats 1000000
namespace M3
open PySem L2
end M3
set_option maxHeartbeats 1000000
namespace M3
open PySem PySem.Spec PyProof.Rows L2
end M3
set_option maxHeartbeats 1000000
namespace M3
open PySem PySem.Spec PyProof.Rows L2
end M3
set_option maxHeartbeats 1000000
namespace M3
open PySem PySem.Spec PyProof.Rows L2 PySem.W
end M3
set_option maxHeartbeats 1000000
namespace M3
open PySem PySem.Spec PyProof.Rows L2 LamX PySem.W PySem.Calls
end M3
set_option maxHeartbeats 1000000
namespace M3
open PySem PySem.Spec PyProof.Rows L2 LamX PySem.W PySem.Calls
end M3
set_option maxHeartbeats 1000000
namespace M3
open PySem PySem.Spec PyProof.Rows L2
end M3
set_option maxHeartbeats 1000000
namespace M3
open PySem L2
structure FrO (K:PySem.W.Frag) (c:Cf) (G:List Addr) (A:List (Option Addr)) (H H':Hp) (D:Addr) (d:T):Prop where
 nD:D ∉ c.S G A
 vis:Same (hid (c.S G A) H) (hid (D::c.S G A) H')
 own:∀a∈G++addrs A,H' a=H a
 inv:c.I H'
 rep:OwnRep K (hid (D::c.S G A) H') H' D d
def LiftFrO (K:PySem.W.Frag) (c:Cf) (W:WX) (te:TE) (t:E3):Prop:=
 ∀σ3 Q3 X,t σ3 Q3 X→∀Hb G A σ H Q,R3 K c Hb G A σ3 σ H→
  (∀D d H',FrO K c G A H H' D d→Q3 d→Q (.ref D) H')→
  (∀cls dd x H',Le c G A H H'→XRep K (hid (c.S G A) H') cls dd x→X x→W cls dd σ H')→te σ H Q
section
variable {K:PySem.W.Frag} {c:Cf} {W:WX} {te:TE} {t:E3} {i:Nat} {Hb H H':Hp} {G:List Addr} {A:List (Option Addr)} {σ3:List Sl} {σ:St} {D:Addr} {d:T}
theorem FrO.le (f:FrO K c G A H H' D d):Le c G A H H':=⟨Same.trans f.vis (hid_mono fun a h=>List.mem_cons_of_mem _ h),f.own,f.inv⟩
def ofL3 (t:E3):E3:=fun σ Q X=>t σ (fun d=>ob (asL d) fun xs=>Q (.lst xs)) X
end
end M3
set_option maxHeartbeats 1000000
namespace PySem
end PySem
namespace M3
open PySem PySem.Spec PyProof.Rows L2
def Kd.seq:Kd→Prop
 | .s _=>False
 | _=>True
end M3
set_option maxHeartbeats 1000000
namespace M3
open PySem L2
end M3
set_option maxHeartbeats 1000000
namespace M3
open PySem L2
structure TabD (K:PySem.W.Frag) (mg:Str→Option Value) (base:Heap) (nm:Str) (st:Stmt) (ps:List Str) (Ts:List (Addr×Str)):Prop where
 ex:∃(f cL PL:Addr) (kV doc pm ct oc:Value) (an od:Option Addr) (osl:Array (Option Value)),K.lookup f=some ⟨oc,od,.func (PySem.W.fnOf nm nm (defArgs st) (defBody st) (defScope st) .none kV doc pm an (.ref cL) ct),osl⟩∧PySem.W.codeIn K (.ref cL) nm=true∧LamX.TabB base mg cL PL∧
  (PL,(nm++".<locals>.":Str)++"<lambda>")∈Ts∧(∀p∈Ts,p.1=PL→p.2=(nm++".<locals>.":Str)++"<lambda>")∧mg nm=some (.ref f)∧PySem.W.keepIn K (.ref f)=true∧L2.Binds K (PySem.W.fnOf nm nm (defArgs st) (defBody st) (defScope st) .none kV doc pm an (.ref cL) ct) ps []
end M3
set_option maxHeartbeats 1000000
namespace L2
open PySem PySem.Spec PyProof.Rows
end L2
namespace M3
open PySem L2
theorem RepD.has {K:PySem.W.Frag} {H:Hp} {kvs:List (Key×V)} {ts:List (Key×T)} (r:RepD K H kvs ts) (k:Key):(valV kvs k).isSome=(valT ts k).isSome:=by
 have h:=r.keys
 unfold valV valT
 rw [Option.isSome_map,Option.isSome_map]
 induction r with
 | nil=>rfl
 | cons e _ ih=>
   simp only [List.map_cons,List.cons.injEq] at h
   rw [List.find?_cons,List.find?_cons,h.1]
   generalize decide (_=k)=b
   cases b with
   | true=>rfl
   | false=>exact ih h.2
end M3
set_option maxHeartbeats 1000000
namespace M3
open PySem L2
end M3
set_option maxHeartbeats 1000000
namespace L2
open PySem PySem.Spec PyProof.Rows
end L2
namespace M3
open PySem PyProof.Rows L2
end M3
set_option maxHeartbeats 1000000
namespace M3
open PySem PySem.Spec PyProof.Rows L2
end M3
set_option maxHeartbeats 1000000
namespace M3
open PySem PySem.Spec PyProof.Rows L2
section
variable {P:Program} {w:World} {K:PySem.W.Frag} {mg:Str→Option Value} {base:Heap} {CX:CXT} {nm qual:Str} {st:Stmt} {ps:List Str} {Ts:List (Addr×Str)} {lv:Nat} {sp:Sp} {C:Addr}
theorem TabD.cl (D:TabD K mg base nm st ps Ts)
 (h:∀(f cL PL:Addr) (kV doc pm ct oc:Value) (an od:Option Addr) (osl:Array (Option Value)),K.lookup f=some ⟨oc,od,.func (PySem.W.fnOf nm nm (defArgs st) (defBody st) (defScope st) .none kV doc pm an (.ref cL) ct),osl⟩→PySem.W.codeIn K (.ref cL) nm=true→LamX.TabB base mg cL PL→
   (PL,(nm++".<locals>.":Str)++"<lambda>")∈Ts→(∀p∈Ts,p.1=PL→p.2=(nm++".<locals>.":Str)++"<lambda>")→FnOk P w K mg base CX lv f (PySem.W.fnOf nm nm (defArgs st) (defBody st) (defScope st) .none kV doc pm an (.ref cL) ct) ps sp):Cl P w K mg base CX nm lv [] sp:=by
 obtain ⟨f,cL,PL,kV,doc,pm,ct,oc,an,od,osl,lk,hcd,TB,hm,hu,hmg,kp,bd⟩:=D.ex
 exact ⟨f,_,ps,[],h f cL PL kV doc pm ct oc an od osl lk hcd TB hm hu,hmg,kp,bd,.nil⟩
end
end M3
namespace PySem.HandSPX
open PySem PySem.Spec PyProof.Rows
section
variable {M:Model} {A:Around} {E:Value→Shared→Prop} {h:Heap} {g:Array GenState} {d:Drawn} {t:Nat} {os:OsState}
variable {nm q:Str} {C N:Addr} {bs bm bmB:List Value} {hdct:Bool} {sn:List Str} {sub:List Value} {ab:Bool} {col:Option Bool} {dd:Option Addr} {k0 k1 k2 k3 k5:Option Value} {B newId initId:String}
theorem check_new_ownK (F:ExcBaseFacts B newId initId bmB) (hT:∀X:String,bm.contains (.type X)=bmB.contains (.type X)) {rest:List Value} {kw:List (Str×Value)} {Q:Unit→Shared→Prop}
 (hC:h.get? C=some (excClassObj nm q C N bs bm hdct sn sub ab col dd k0 k1 k2 k3 k5 newId)) (hq:Q () ⟨h,g,d,t,os⟩):wpAny M A (checkBuiltinCall newId ⟨.ref C::rest,kw⟩) Q E ⟨h,g,d,t,os⟩:=by
 have hcont:(Value.ref C::bm).contains (.type B)=true:=by rw [List.contains_cons,hT,F.hasB,Bool.or_true]
 have hstar:=F.noStar
 simp only [checkBuiltinCall,F.newKind,F.newSplit,F.newRow]
 repeat (first | refine wpAny_loadPart_at hC ?_ | (refine wpAny_isSubtype_exc hC ?_;rw [hcont]) | refine wpAny_staticBase_exc hC ?_ | refine wpAny_madeBy_exc hC ?_ | simp only [bne_self_eq_false,Bool.false_eq_true,if_false] | wp_step)
 exact hq
end
section
variable {prog:Program} {w:World} {A:Around} {E:Value→Shared→Prop} {R:Result→Shared→Prop} {h:Heap} {g:Array GenState} {d:Drawn} {t:Nat} {os:OsState}
variable {nm q:Str} {C N:Addr} {bs bm bmB:List Value} {hdct:Bool} {sn:List Str} {sub:List Value} {ab:Bool} {col:Option Bool} {dd:Option Addr} {k0 k1 k2 k3 k5:Option Value} {B newId initId:String}
theorem new_ownK (F:ExcBaseFacts B newId initId bmB) (hT:∀X:String,bm.contains (.type X)=bmB.contains (.type X)) {rest:List Value} {kw:List (Str×Value)}
 (hC:h.get? C=some (excClassObj nm q C N bs bm hdct sn sub ab col dd k0 k1 k2 k3 k5 newId))
 (hq:R (.ok (.ret (.ref (h.objs.size+1)))) ⟨(h.push {cls:=.type "tuple",data:=.seq rest.toArray}).push
   {cls:=.ref C,data:=.fields #[.ref h.objs.size,.none,.none,.none,.bool false,.none]},g,d,t,os⟩) (hrest:rest.length≤sizeLine):
 codeAny (model prog w) A (.builtin newId ⟨.ref C::rest,kw⟩) R ⟨h,g,d,t,os⟩:=by
 have hends:=F.ends
 have hcB:(Value.ref C::bm).contains (.type B)=true:=by rw [List.contains_cons,hT,F.hasB,Bool.or_true]
 have hcA:(Value.ref C::bm).contains (.type "AttributeError")=false:=by rw [List.contains_cons,hT,F.noAttr];rfl
 have hcN:(Value.ref C::bm).contains (.type "NameError")=false:=by rw [List.contains_cons,hT,F.noName];rfl
 refine codeAny_builtinAt F.entry ?_
 unfold Builtin.«BaseException.__new__»
 refine wpAt_bind ?_
 show wpAt _ _ _ (stack >>= _) _ _ _
 refine wpAt_bind (wpAt_stack fun p below=>wpAt_of_wpAny ?_)
 wp_walk
 refine wpAt_of_wpAny ?_
 rw [F.owner]
 repeat (first | with_reducible refine wpAny_madeHere_exc F.canon hC ?_ | with_reducible refine wpAny_loadPart_at hC ?_ | (with_reducible refine wpAny_isSubtype_exc hC ?_;first | rw [hcB] | rw [hcA] | rw [hcN]) | wp_step)
 show R _ _
 rw [Heap.size_push]
 exact hq
theorem type_call_ownK (F:ExcBaseFacts B newId initId bmB) (hT:∀X:String,bm.contains (.type X)=bmB.contains (.type X)) {rest:List Value} {kw:List (Str×Value)} {fI:Addr} {Q:Fin→Shared→Prop}
 (hC:h.get? C=some (excClassObj nm q C N bs bm hdct sn sub ab col dd k0 k1 k2 k3 k5 newId))
 (hi:W.Looks (model prog w) h (typeLookup (.ref C) "__init__") (some (.ref fI))) (hb:∀self,W.Looks (model prog w) h (bindSpecial (.ref fI) self) (.ref fI,[self])) (hrest:rest.length≤sizeLine)
 (hq:codeAny (model prog w) A (.call (.ref fI) ⟨.ref (h.objs.size+1)::rest,kw⟩)
   (fun r s'=>match r with | .ok (.ret v)=>v= .none∧Q (.done (.ret (.ref (h.objs.size+1)))) s' | .ok _=>False | .error e=>E e s')
   ⟨(h.push (W.kdv_tup rest)).push (excO C h.objs.size),g,d,t,os⟩):
 wpAny (model prog w) A (Builtin.«type.__call__» ⟨.ref C::rest,kw⟩) Q E ⟨h,g,d,t,os⟩:=by
 repeat (first | with_reducible refine wpAny_loadPart_at hC ?_ | with_reducible refine wpAny_madeBy_exc hC ?_ | wp_step)
 refine codeAny_call_builtin_code (Code.quiet_builtin _ F.quiet) (check_new_ownK F hT hC ?_)
 refine new_ownK F hT hC ?_ hrest
 show wpAny _ _ _ _ _ _
 have k:∀b o,h.get? b=some o→((h.push (W.kdv_tup rest)).push (excO C h.objs.size)).get? b=some o:=fun b o e=>Heap.get?_push_of_some _ (Heap.get?_push_of_some _ e)
 have hC₁:=k _ _ hC
 have hget:((h.push (W.kdv_tup rest)).push (excO C h.objs.size)).get? (h.objs.size+1)=some (excO C h.objs.size):=by heap_get
 have hcC:(Value.ref C::bm).contains (.ref C)=true:=by simp
 have i1:=hi.keeps k
 have b1:=(hb (.ref (h.objs.size+1))).keeps k
 unfold isInstance
 repeat (first | with_reducible refine wpAny_loadPart_at hget ?_ | (with_reducible refine wpAny_isSubtype_exc hC₁ ?_;rw [hcC]) | wp_step)
 show wpAny _ _ (typeLookup (.ref C) _) _ _ _
 refine i1.at ?_
 refine wpAny_holding (wpAny_bind (b1.at ?_))
 refine wpAny_bind (wpAny_call (codeAny_mono hq fun r s' z=> ?_))
 rcases r with e | (v | _ | _ | _)<;>first | exact z | exact z.elim | skip
 obtain ⟨rfl,z⟩:=z
 first
  | exact wpAny_pure (wpAny_pure z)
  | (wp_walk;exact z)
theorem call_ownK (F:ExcBaseFacts B newId initId bmB) (hT:∀X:String,bm.contains (.type X)=bmB.contains (.type X)) {rest:List Value} {kw:List (Str×Value)} {fI:Addr}
 (hC:h.get? C=some (excClassObj nm q C N bs bm hdct sn sub ab col dd k0 k1 k2 k3 k5 newId))
 (hi:W.Looks (model prog w) h (typeLookup (.ref C) "__init__") (some (.ref fI))) (hb:∀self,W.Looks (model prog w) h (bindSpecial (.ref fI) self) (.ref fI,[self])) (hrest:rest.length≤sizeLine)
 (hq:codeAny (model prog w) (A.under (.builtin "type.__call__" ⟨.ref C::rest,kw⟩)) (.call (.ref fI) ⟨.ref (h.objs.size+1)::rest,kw⟩) (W.InitBack (h.objs.size+1) R)
   ⟨(h.push (W.kdv_tup rest)).push (excO C h.objs.size),g,d,t,os⟩):
 codeAny (model prog w) A (.call (.ref C) ⟨rest,kw⟩) R ⟨h,g,d,t,os⟩:=by
 have f1:=tc_lookup
 have f2:=tc_bind (.ref C)
 have hTy:(⟨h,g,d,t,os⟩:Shared).TypeIs (.ref C) "type":=⟨_,hC,rfl⟩
 refine codeAny_of_tree ?_
 show wpAny _ _ (callAny (.ref C) _) _ _ _
 repeat (any_goals (first | assumption | with_reducible refine wpAny_loadPart_at hC ?_ | wp_step))
 refine ⟨rfl, ?_⟩
 refine codeAny_call_builtin_at (Code.quiet_builtin _ (by decide +kernel)) entry_typeCall (wpAny_check_type_call_sub hC (type_call_ownK F hT hC hi hb hrest ?_))
 refine codeAny_mono hq fun r s' z=> ?_
 rcases r with e | (v | _ | _ | _)<;>exact z
end
end PySem.HandSPX
namespace L2
open PySem PySem.Spec PyProof.Rows
def tMkOK (C:Addr) (sp:Sp) (m:Nat) (gV:List V→List V→List V) (tk:TA):St→Hp→XK→Prop:=fun σ H Q=>tk σ H fun zs H1=>zs.length=m∧∀a,H1 a=none→sp (gV [.ref a] zs) (upd H1 a (exo a C none))
 (fun v H2=>v= .non∧∃(d:Addr) (fs:List (Str×V)),H2 a=some (exo a C (some d))∧H2 d=some (exd d fs)∧H1 d=none∧Q (.ref C) (some d) (upd (del H2 a) d (.xd fs))) (fun _ _ _=>False)
theorem pmk_oexK {X:Cx} {CX:CXT} {x:Str} {C fI:Addr} {k:Nat} {fd:FuncData} {ps ks:List Str} {sp:Sp} {g:List Value→List Value→List Value} {gV:List V→List V→List V} {kws:List Keyword} {tk:TA} {p pos:Pos} (T:OexC X.K C) (iC:PySem.W.findIn X.K (.ref C) "__init__"=some (some (.ref fI))) (tI:PySem.W.typeIn X.K (.ref fI)=some (.type "function"))
 (F1:FnOk X.prog X.w X.K X.mg X.base CX k fI fd ps sp) (hr:Room (k+1) X.A) (hb:KBn X.K fd ps 1 ks g gV) (hx:Passes CX X (fun _ _ _=>False)) (hg:Gl X x) (hm:X.mg x=some (.ref C)) (hkw:PK X kws tk)
 (hall:(backToKw pos (keywordEach kws X.env)).all (·.1.isSome)=true:=by rfl) (hks:(backToKw pos (keywordEach kws X.env)).filterMap (·.1)=ks:=by rfl) (hdb:(x==("__debug__":Str))=false:=by decide)
 (hpl:((backTo pos (starEach [] X.env)).any (·.1)||(backToKw pos (keywordEach kws X.env)).any (·.1.isNone))=false:=by rfl):
 PMk X (.Call (.Name x p) [] kws pos) (tMkOK C sp ks.length gV tk):=by
 intro pins s σ H Q I h
 obtain ⟨nm,q,N,bs,bm,sn,sub,ab,col,dd,k0,k1,k2,k3,k5,hC,hbm⟩:=T.cls
 refine wpAny_Call_Name_kw (ld_glob I hg hm ?_ hdb)
 refine PySem.W.callWith_KW0 (h₀:=X.base) I.ok.mod.kin T.kC hall ?_ hpl
 refine thn (hkw.run pos pins s σ H _ I h) fun ws s1 ⟨zs,H1,I1,rz,l1,q1⟩=>⟨I1.kIn, ?_⟩
 rw [hks]
 obtain ⟨hp,g',dr,tk',os⟩:=s1
 have hsz:hp.objs.size≤hp.objs.size+1:=Nat.le_succ _
 have hn:H1 (hp.objs.size+1)=none:=I1.hok.fresh hsz
 have hq:=q1 (hp.objs.size+1) hn
 have kk:∀b o,hp.get? b=some o→((hp.push (PySem.W.kdv_tup [])).push (PySem.HandSPX.excO C hp.objs.size)).get? b=some o:=fun b o e=>Heap.get?_push_of_some _ (Heap.get?_push_of_some _ e)
 have hget:((hp.push (PySem.W.kdv_tup [])).push (PySem.HandSPX.excO C hp.objs.size)).get? (hp.objs.size+1)=some (PySem.HandSPX.excO C hp.objs.size):=by heap_get
 have I2:Inv X pins σ (upd H1 (hp.objs.size+1) (exo (hp.objs.size+1) C none)) ⟨(hp.push (PySem.W.kdv_tup [])).push (PySem.HandSPX.excO C hp.objs.size),g',dr,tk',os⟩:=
  I1.laid (t':=tk') (a:=hp.objs.size+1) (o:=exo (hp.objs.size+1) C none) (h':=(hp.push (PySem.W.kdv_tup [])).push (PySem.HandSPX.excO C hp.objs.size)) kk hsz (exo_ok hget)
 have r2:=hb.rel (.cons (show RelV (V.ref (hp.objs.size+1)) (Value.ref (hp.objs.size+1)) from rfl) .nil) rz
 refine wpAny_call (PySem.HandSPX.call_ownK F.excBase_ValueError (fun Y=>PySem.HandSPX.refsVE_contains Y bm hbm) (I1.kIn _ _ hC) (PySem.W.looks_findIn I1.kIn iC) (fun self=>PySem.W.bind_fn I1.kIn self tI) (by simp)
  (codeAny_mono (F1.run _ X.stack _ _ ⟨[Value.ref (hp.objs.size+1)],ks.zip ws⟩ (g [Value.ref (hp.objs.size+1)] ws) _ _ (fun _ _ _=>False) (hr.make C [] (ks.zip ws)) (I2.env0.make C [] (ks.zip ws)) (hb.to _ [Value.ref (hp.objs.size+1)] ws I2.kIn rfl (rz.length.symm.trans l1)) r2 hq) fun r s' hq'=> ?_))
 cases r with
 | error er=>exact hx pins σ _ _ er s' I2 hq'
 | ok fl=>
   cases fl with
   | ret u=>
     obtain ⟨v,H2,os2,bare2,un2,hok2,rv,ev,d,fs,ea,ed,hd1,q2⟩:=hq'
     subst ev
     obtain ⟨h2,g2,d2,t2,os'⟩:=s'
     exact ⟨rv,mk_end (raises_own T.exC T.tyC) I1 hsz kk un2 hok2 os2 bare2 ea ed hd1 q2⟩
   | next=>exact False.elim hq'
   | brk=>exact False.elim hq'
   | cont=>exact False.elim hq'
end L2
namespace M3
open PySem PySem.Spec PyProof.Rows L2
def FmtV (v:V):Prop:=(∃y:Str,v= .str y∧y.length≤1000)∨∃i:Int,v= .int i∧i.natAbs.log2<1920
def spXK (C:Addr) (fs:List Str) (mis:List Nat):Sp:=fun vs H Q _=>∃a ws,vs= .ref a::ws∧ws.length=fs.length∧(∀i∈mis,∃v,ws[i]? =some v∧FmtV v)∧H a=some (exo a C none)∧
 ∀dx H',H dx=none→dx≠a→H' a=some (exo a C (some dx))→H' dx=some (exd dx (fs.zip ws).reverse)→(∀b,b≠a→b≠dx→H' b=H b)→Q .non H'
theorem spXK_len {C:Addr} {fs:List Str} {mis:List Nat} {ps:List Str} (h:ps.length=fs.length+1):∀vs H Q E,spXK C fs mis vs H Q E→vs.length=ps.length:=by
 rintro vs H Q E ⟨a,ws,rfl,hl,_⟩
 rw [List.length_cons,hl,h]
section
variable {K:PySem.W.Frag} {C:Addr} {m m2:Str} {vs:List V} {H:Hp} {Q:VK} {E:XK} {N:List Str} {f1 f2 f3:Str}
theorem fmt_step {σ:L2.St} {j:Nat} {v:V} {acc:Str} {ts:List TE} {Qs:Str→Hp→Prop} (hs:σ[j]? =some (some v)) (fv:FmtV v) (ha:acc.length≤10000) (k:∀acc',acc'.length≤acc.length+3000→tJs ts acc' σ H Qs):tJs (tFmt (tVar j)::ts) acc σ H Qs:=by
 have sl:sizeLine=16777216:=by decide
 rcases fv with ⟨y,rfl,hy⟩ | ⟨i,rfl,hi⟩
 · exact ⟨.str y,hs,.inl ⟨y,rfl,by omega,y,rfl,by rw [Str.length_append];omega,k _ (by rw [Str.length_append];omega)⟩⟩
 · have e:=int_text_length_le (k:=1920) (by decide) hi
   have l2:(Str.ofString (toString i)).length≤3000:=by rw [PySem.ofString_length];omega
   exact ⟨.int i,hs,.inr ⟨i,rfl,hi,Str.ofString (toString i),rfl,by rw [Str.length_append];omega,k _ (by rw [Str.length_append];omega)⟩⟩
theorem txt_step {σ:L2.St} {m acc:Str} {ts:List TE} {Qs:Str→Hp→Prop} (hm:m.length≤1000) (ha:acc.length≤10000) (k:∀acc',acc'.length≤acc.length+1000→tJs ts acc' σ H Qs):tJs (tC (.str m)::ts) acc σ H Qs:=by
 have sl:sizeLine=16777216:=by decide
 exact ⟨m,rfl,by rw [Str.length_append];omega,k _ (by rw [Str.length_append];omega)⟩
theorem bodyXK2 (hN:N.length=3) (hm:m.length≤1000) (T:OexC K C) (n1:PySem.W.findIn K (.ref C) f1=some none) (n2:PySem.W.findIn K (.ref C) f2=some none) (h:spXK C [f1,f2] [0] vs H Q E):
 tSeq (tDrop (tVeI K (tCons (tVar 0) (tCons (fun σ H Q=>tJs [tC (.str m),tFmt (tVar 1)] Str.empty σ H fun out H1=>Q (.str out) H1) tNil)))) (tSeq (tOst K f1 (tVar 0) (tVar 1)) (tOst K f2 (tVar 0) (tVar 2))) {nx:=fun _ H'=>Q .non H',rt:=Q} (start N vs) H:=by
 obtain ⟨a,ws,rfl,hl,hf,ha,q⟩:=h
 match ws,hl with
 | [w1,w2],_=>
   obtain ⟨v,e1,fv⟩:=hf 0 (by simp)
   cases e1
   have es:start N [V.ref a,w1,w2]=[some (.ref a),some w1,some w2]:=by
    rw [start_eq,hN]
    rfl
   rw [es]
   refine ⟨.ref a,rfl, ?_⟩
   refine txt_step hm (by decide) fun acc h1=>fmt_step (j:=1) rfl fv (by rw [show Str.empty.length=0 from rfl] at h1;omega) fun acc' h2=> ?_
   refine ⟨a,C,_,rfl,by show (1:Nat)≤1000;decide,T,ha, ?_⟩
   refine ⟨w1,rfl,.ref a,rfl,a,C,rfl,T,n1,.inl ⟨ha,fun dx h1 h2=> ?_⟩⟩
   refine ⟨w2,rfl,.ref a,rfl,a,C,rfl,T,n2,.inr ⟨dx,[(f1,w1)],upd_same,(upd_ne h2).trans upd_same,by simp, ?_⟩⟩
   exact q dx _ h1 h2 ((upd_ne h2.symm).trans upd_same) upd_same fun b b1 b2=>(upd_ne b2).trans ((upd_ne b1).trans (upd_ne b2))
theorem bodyXK3 (hN:N.length=4) (hm:m.length≤1000) (hm2:m2.length≤1000) (T:OexC K C) (n1:PySem.W.findIn K (.ref C) f1=some none) (n2:PySem.W.findIn K (.ref C) f2=some none) (n3:PySem.W.findIn K (.ref C) f3=some none) (h:spXK C [f1,f2,f3] [1,2] vs H Q E):
 tSeq (tDrop (tVeI K (tCons (tVar 0) (tCons (fun σ H Q=>tJs [tC (.str m),tFmt (tVar 2),tC (.str m2),tFmt (tVar 3)] Str.empty σ H fun out H1=>Q (.str out) H1) tNil)))) (tSeq (tOst K f1 (tVar 0) (tVar 1)) (tSeq (tOst K f2 (tVar 0) (tVar 2)) (tOst K f3 (tVar 0) (tVar 3)))) {nx:=fun _ H'=>Q .non H',rt:=Q} (start N vs) H:=by
 obtain ⟨a,ws,rfl,hl,hf,ha,q⟩:=h
 match ws,hl with
 | [w1,w2,w3],_=>
   obtain ⟨v,e1,fv⟩:=hf 1 (by simp)
   cases e1
   obtain ⟨v,e1,fv2⟩:=hf 2 (by simp)
   cases e1
   have es:start N [V.ref a,w1,w2,w3]=[some (.ref a),some w1,some w2,some w3]:=by
    rw [start_eq,hN]
    rfl
   rw [es]
   refine ⟨.ref a,rfl, ?_⟩
   refine txt_step hm (by decide) fun acc h1=>fmt_step (j:=2) rfl fv (by rw [show Str.empty.length=0 from rfl] at h1;omega) fun acc' h2=> ?_
   rw [show Str.empty.length=0 from rfl] at h1
   refine txt_step hm2 (by omega) fun acc h3=>fmt_step (j:=3) rfl fv2 (by omega) fun acc' h4=> ?_
   refine ⟨a,C,_,rfl,by show (1:Nat)≤1000;decide,T,ha, ?_⟩
   refine ⟨w1,rfl,.ref a,rfl,a,C,rfl,T,n1,.inl ⟨ha,fun dx h1 h2=> ?_⟩⟩
   refine ⟨w2,rfl,.ref a,rfl,a,C,rfl,T,n2,.inr ⟨dx,[(f1,w1)],upd_same,(upd_ne h2).trans upd_same,by simp, ?_⟩⟩
   refine ⟨w3,rfl,.ref a,rfl,a,C,rfl,T,n3,.inr ⟨dx,[(f2,w2),(f1,w1)],(upd_ne h2.symm).trans upd_same,upd_same,by simp, ?_⟩⟩
   exact q dx _ h1 h2 ((upd_ne h2.symm).trans ((upd_ne h2.symm).trans upd_same)) upd_same fun b b1 b2=>(upd_ne b2).trans ((upd_ne b2).trans ((upd_ne b1).trans (upd_ne b2)))
end
structure XClsK (w:World) (K:PySem.W.Frag) (mg:Str→Option Value) (x:Str) (fs:List Str):Prop where
 g:mg x=some (.ref ((csOf w K mg).at_ x))
 oex:OexC K ((csOf w K mg).at_ x)
 no:∀f∈fs,PySem.W.findIn K (.ref ((csOf w K mg).at_ x)) f=some none
 fn:∀fI,PySem.W.findIn K (.ref ((csOf w K mg).at_ x)) "__init__"=some (some (.ref fI))→PySem.W.isFn K (.ref fI)=true
def fmtB:Option T→Bool
 | some (.str z)=>decide (z.length≤1000)
 | some (.int i)=>decide (i.natAbs.log2<1920)
 | _=>false
theorem zfst {α β:Type}:∀(xs:List α) (ys:List β),ys.length=xs.length→(xs.zip ys).map (·.1)=xs:=fun xs ys h=>List.map_fst_zip (by omega)
theorem zsnd {α β:Type}:∀(xs:List α) (ys:List β),ys.length=xs.length→(xs.zip ys).map (·.2)=ys:=fun xs ys h=>List.map_snd_zip (by omega)
theorem paired_snoc {α β:Type} {R:α→β→Prop} {a:α} {b:β}:∀ {as:List α} {bs:List β},Paired R as bs→R a b→Paired R (as++[a]) (bs++[b])
 | _,_,.nil,h=>.cons h .nil
 | _,_,.cons g r,h=>.cons g (paired_snoc r h)
theorem paired_rev {α β:Type} {R:α→β→Prop}:∀ {as:List α} {bs:List β},Paired R as bs→Paired R as.reverse bs.reverse
 | _,_,.nil=>.nil
 | _,_,.cons h r=>by rw [List.reverse_cons,List.reverse_cons];exact paired_snoc (paired_rev r) h
theorem fmtV_of {K:PySem.W.Frag} {H:Hp} {vs:List V} {ds:List T} (r:RepL K H vs ds) {i:Nat} (h:fmtB ds[i]? =true):∃v,vs[i]? =some v∧FmtV v:=by
 cases e:ds[i]? with
 | none=>rw [e] at h;cases h
 | some d=>
   rw [e] at h
   obtain ⟨v,ev,rv⟩:=r.get e
   refine ⟨v,ev, ?_⟩
   cases d with
   | str z=>cases rv.strI;exact .inl ⟨z,rfl,of_decide_eq_true h⟩
   | int z=>cases rv.intI;exact .inr ⟨z,rfl,of_decide_eq_true h⟩
   | _=>cases h
end M3
set_option maxHeartbeats 1000000
namespace M3
open PySem PySem.Spec PyProof.Rows L2
end M3
set_option maxHeartbeats 1000000
namespace M3
open PySem L2
end M3
namespace PySem
end PySem
namespace L2
open PySem PySem.Spec PyProof.Rows
end L2
namespace M3
open PySem L2
end M3
set_option maxHeartbeats 1000000
namespace M3
open PySem L2
section
variable {K:PySem.W.Frag} {c:Cf} {W:WX}
theorem LiftFrO.l {te:TE} {t:E3} (h:LiftFrO K c W te t):LiftFr K c W te (ofL3 t):=by
 intro σ3 Q3 X ht Hb G A σ H Q R k e
 refine h _ _ _ ht Hb G A σ H _ R (fun D d H' f q=> ?_) e
 obtain ⟨xs,ex,q⟩:=ob_iff.mp q
 cases asL_is ex
 obtain ⟨vs,h1,h2⟩:=f.rep
 exact k D vs xs H' ⟨f.nD,f.vis,f.own,f.inv,h1,h2⟩ q
end
end M3
namespace PySem
open Sem (wp)
open AutoSeq1 (wpAny_loadPart')
end PySem
namespace M3
open PySem PySem.Spec PyProof.Rows L2
end M3
set_option maxHeartbeats 1000000
namespace M3
open PySem L2
def KeyAt (K:PySem.W.Frag) (H:Hp) (v:V) (κ:NestedKey):Prop:=κ.depth≤8∧∃t,nkT t=some κ∧Rep K H v t
theorem KeyAt.mono {K:PySem.W.Frag} {H H':Hp} {v:V} {κ:NestedKey} (h:KeyAt K H v κ) (e:Same H H'):KeyAt K H' v κ:=⟨h.1,h.2.choose,h.2.choose_spec.1,h.2.choose_spec.2.mono e⟩
def hasKd (xs:List (NestedKey×Addr×V)) (κ:NestedKey):Bool:=xs.any fun q=>decide (q.1=κ)
abbrev KPair (xs:List (NestedKey×Addr×V)) (ys:List (NestedKey×Addr×Value)):Prop:=Paired (fun (p:NestedKey×Addr×V) (q:NestedKey×Addr×Value)=>p.1=q.1∧p.2.1=q.2.1∧RelV p.2.2 q.2.2) xs ys
theorem KPair.has {xs:List (NestedKey×Addr×V)} {ys:List (NestedKey×Addr×Value)} (r:KPair xs ys) (κ:NestedKey):(atKey ys κ).isSome=hasKd xs κ:=by
 unfold atKey hasKd
 rw [Option.isSome_map]
 induction r with
 | nil=>rfl
 | cons e _ ih=>
   rw [List.find?_cons,List.any_cons,e.1]
   generalize decide (_=κ)=b
   cases b with
   | true=>rfl
   | false=>simpa using ih
end M3
set_option maxHeartbeats 1000000
namespace M3
open PySem L2
end M3
namespace L2
open PySem PySem.Spec PyProof.Rows M3
end L2
namespace M3
open PySem L2
section
variable {X:Cx} {td ty tx:TE} {o e f:Expr} {apos cpos:Pos}
def getKd (xs:List (NestedKey×Addr×V)) (κ:NestedKey):Option V:=(xs.find? fun q=>decide (q.1=κ)).map (·.2.2)
theorem KPair.get {xs:List (NestedKey×Addr×V)} {ys:List (NestedKey×Addr×Value)} (r:KPair xs ys) (κ:NestedKey) {v:V} {u:Value} (rv:RelV v u):RelV ((getKd xs κ).getD v) (((atKey ys κ).map (·.2)).getD u):=by
 unfold atKey getKd
 induction r with
 | nil=>exact rv
 | cons e _ ih=>
   rw [List.find?_cons,List.find?_cons,e.1]
   generalize decide (_=κ)=b
   cases b with
   | true=>exact e.2.2
   | false=>exact ih
end
end M3
set_option maxHeartbeats 1000000
namespace M3
open PySem L2
structure TabF (K:PySem.W.Frag) (mg:Str→Option Value) (base:Heap) (nm:Str) (st:Stmt) (dts:List T) (kns:List Str) (kts:List T) (Ts:List (Addr×Str)):Prop where
 d:DefAt K mg nm nm st dts kns kts
 ex:∃(f cL PL:Addr) (dV kV doc pm ct oc:Value) (an od:Option Addr) (osl:Array (Option Value)),K.lookup f=some ⟨oc,od,.func (PySem.W.fnOf nm nm (defArgs st) (defBody st) (defScope st) dV kV doc pm an (.ref cL) ct),osl⟩∧PySem.W.codeIn K (.ref cL) nm=true∧LamX.TabB base mg cL PL∧
  (PL,(nm++".<locals>.":Str)++"<lambda>")∈Ts∧(∀p∈Ts,p.1=PL→p.2=(nm++".<locals>.":Str)++"<lambda>")∧mg nm=some (.ref f)
theorem TabF.ok {P:Program} {w:World} {K:PySem.W.Frag} {mg:Str→Option Value} {base:Heap} {CX:CXT} {nm:Str} {st:Stmt} {dts kts:List T} {kns:List Str} {Ts:List (Addr×Str)} {k:Nat} {ps:List Str} {sp:Sp} (t:TabF K mg base nm st dts kns kts Ts)
 (h:∀(f cL PL:Addr) (dV kV doc pm ct oc:Value) (an od:Option Addr) (osl:Array (Option Value)),K.lookup f=some ⟨oc,od,.func (PySem.W.fnOf nm nm (defArgs st) (defBody st) (defScope st) dV kV doc pm an (.ref cL) ct),osl⟩→PySem.W.codeIn K (.ref cL) nm=true→LamX.TabB base mg cL PL→
   (PL,(nm++".<locals>.":Str)++"<lambda>")∈Ts→(∀p∈Ts,p.1=PL→p.2=(nm++".<locals>.":Str)++"<lambda>")→FnOk P w K mg base CX k f (PySem.W.fnOf nm nm (defArgs st) (defBody st) (defScope st) dV kV doc pm an (.ref cL) ct) ps sp):OkF P w K mg base CX nm nm st dts kns kts k ps sp:=by
 obtain ⟨f',fd,dvs,kvs,rd,rk,F,hm⟩:=t.d.ex
 obtain ⟨f,cL,PL,dV,kV,doc,pm,ct,oc,an,od,osl,lk,hc,tb,h1,h2,m⟩:=t.ex
 rw [hm] at m
 cases m
 obtain ⟨oc',od',dV',kV',doc',pm',an',cdv',ct',osl',e,lk',_⟩:=F.ex
 rw [lk] at lk'
 have e2:PySem.W.fnOf nm nm (defArgs st) (defBody st) (defScope st) dV kV doc pm an (.ref cL) ct=fd:=by
  injection lk' with z
  injection z with _ _ z _
  injection z
 refine ⟨_,fd,dvs,kvs,rd,rk,F,hm, ?_⟩
 rw [←e2]
 exact h _ cL PL dV kV doc pm ct oc an od osl lk hc tb h1 h2
end M3
set_option maxHeartbeats 1000000
namespace M3
open PySem PySem.Spec PyProof.Rows L2
theorem KPair.at_ {xs:List (NestedKey×Addr×V)} {ys:List (NestedKey×Addr×Value)} (r:KPair xs ys) (κ:NestedKey) {v:V} (h:getKd xs κ=some v):∃p,atKey ys κ=some p∧RelV v p.2:=by
 unfold atKey
 unfold getKd at h
 induction r with
 | nil=>cases h
 | @cons p q _ _ e _ ih=>
   rw [List.find?_cons,e.1] at h
   rw [List.find?_cons]
   by_cases z:q.1=κ
   · rw [decide_eq_true z] at h ⊢
     cases h
     exact ⟨_,rfl,e.2.2⟩
   · rw [decide_eq_false z] at h ⊢
     exact ih h
end M3
set_option maxHeartbeats 1000000
namespace M3
open PySem L2
end M3
set_option maxHeartbeats 1000000
namespace M3
open PySem L2
section
variable {K:PySem.W.Frag} {c:Cf} {Hb H H':Hp} {G L0 L L':List Addr} {M M':Mem} {σ3:List Sl} {σ:St} {W:WX} {t:TA} {x:A4}
def lst4 (x:A4):E4:=fun σ M Q X=>x σ M (fun ds M1=>ds.length≤sizeLine∧Q (.lst ds) M1) X
theorem lift_lst4 (ha:LiftA4 K c W t x):Lift4 K c W (tLst t) (lst4 x):=by
 intro σ3 M Q4 X h Hb G L0 L σ H Q R k e
 refine ha _ _ _ _ h Hb G L0 L σ H _ R (fun vs ds L1 M1 H1 R1 s1 rs q=> ?_) e
 refine ⟨by rw [rs.length];exact q.1,fun p hp=> ?_⟩
 have l:=R1.r3.new (o:=.lst vs) hp
 have z:=R1.r3.newAt (o:=.lst vs) hp
 rw [S_nons] at z
 exact k _ _ L1 M1 _ (R1.le l) (Same.trans s1 l.vis4) (.mkL z (rs.mono l.vis4)) q.2
end
end M3
namespace M3
open PySem L2
section
variable {K:PySem.W.Frag} {c:Cf} {Hb H H':Hp} {G L0 L L':List Addr} {M M':Mem} {σ3:List Sl} {σ:St} {W:WX}
theorem R4.atI (r:R4 K c Hb G L0 L M σ3 σ H) {a C:Addr} {fs:List (Str×T)} (h:M a=some (.ins C fs)):a∈L∧∃dx ks,H a=some (.ins C dx ks)∧ks.map (·.1)=fs.map (·.1)∧RepL K (vs4 c G L H) (ks.map (·.2)) (fs.map (·.2)):=
 ⟨(r.cells.on a).mpr (by rw [h];intro z;cases z),r.cells.at_ a _ h⟩
theorem R4.fresh (R:R4 K c Hb G L0 L M σ3 σ H) {a:Addr} {o:HO} {t:T} (na:H a=none) (hr:∀Hv,Same (vs4 c G L H) Hv→CellRep K Hv (upd H a o) a t):M a=none∧R4 K c Hb G L0 (a::L) (mset M a (some t)) σ3 σ (upd H a o)∧Same (vs4 c G L H) (vs4 c G (a::L) (upd H a o)):=by
 have l:=R.r3.new (o:=o) na
 have nS:a ∉ c.S0++G++L:=by have:=R.r3.free na;rwa [S_nons] at this
 have mD:M a=none:=by
  cases e:M a with
  | none=>rfl
  | some t=>exact absurd (by simp [(R.cells.on a).mpr (by rw [e];intro z;cases z)]) nS
 have vis:Same (vs4 c G L H) (vs4 c G (a::L) (upd H a o)):=fun b u z=>by
  obtain ⟨z1,z2,z3⟩:=hid_all z
  refine hid_mk (by rw [upd_ne (ne_of_none z1 na)];exact z1) (fun y=>z2 ?_) z3
  rcases List.mem_append.mp y with y | y
  · exact List.mem_append.mpr (.inl y)
  · rcases List.mem_cons.mp y with y | y
    · rw [y,na] at z1;cases z1
    · exact List.mem_append.mpr (.inr y)
 refine ⟨mD,R.step l.inv vis (fun b h=>l.own b (by simp [h])) ⟨fun b=> ?_,fun b h=> ?_,fun b t' e=> ?_⟩,vis⟩
 · by_cases z:b=a
   · subst z;simp
   · rw [mset_ne z,List.mem_cons]
     exact ⟨fun h=>(R.cells.on b).mp (h.resolve_left z),fun h=>.inr ((R.cells.on b).mpr h)⟩
 · rcases List.mem_cons.mp h with rfl | h
   · exact fun z=>nS (by simp at z ⊢;rcases z with z | z<;>simp [z])
   · exact R.cells.off b h
 · by_cases z:b=a
   · subst z
     rw [mset_same] at e
     cases e
     exact hr _ vis
   · rw [mset_ne z] at e
     exact (R.cells.at_ b t' e).mono vis (l.own b (by simp [(R.cells.on b).mpr (by rw [e];intro z;cases z)]))
end
end M3
set_option maxHeartbeats 1000000
namespace M3
open PySem PySem.Spec PyProof.Rows L2 LamX PySem.W PySem.Calls
end M3
namespace PySem
structure ZOn (h:Heap) (zz TI TO j1 j2:Addr) (L:List (Addr×Value×Value)):Prop where
 ti:IsTupOf2 h TI (.ref j1) (.ref j2)
 st:(L=[]∧IsZip h zz TI TO .none∧∃a1 a2,IsTupOf2 h TO a1 a2)∨∃q fl,q∈L∧IsZipHeld h zz TI TO q.1 fl
 tup:∀q∈L,IsTupOf2 h q.1 q.2.1 q.2.2
theorem ZOn.keep {h h':Heap} {zz TI TO j1 j2:Addr} {L:List (Addr×Value×Value)} (z:ZOn h zz TI TO j1 j2 L) (k:∀b o,b=zz∨b=TI∨b=TO∨b∈L.map (·.1)→h.get? b=some o→h'.get? b=some o):ZOn h' zz TI TO j1 j2 L where
 ti:=k _ _ (.inr (.inl rfl)) z.ti
 st:=by
  rcases z.st with ⟨e,h1,a1,a2,h2⟩ | ⟨q,fl,hq,h1⟩
  · exact .inl ⟨e,k _ _ (.inl rfl) h1,a1,a2,k _ _ (.inr (.inr (.inl rfl))) h2⟩
  · exact .inr ⟨q,fl,hq,k _ _ (.inl rfl) h1⟩
 tup:=fun q hq=>k _ _ (.inr (.inr (.inr (List.mem_map.mpr ⟨q,hq,rfl⟩)))) (z.tup q hq)
end PySem
namespace PySem
end PySem
namespace M3
open PySem PySem.Spec PyProof.Rows L2
end M3
set_option maxHeartbeats 1000000
namespace M3
open PySem PySem.Spec PyProof.Rows L2
def frzL (F:Addr→Obj) (Z:List Addr) (H:Hp):Hp:=fun a=>if a∈Z then (match H a with | some (.dK kvs)=>some (.frz (F a) (.dK kvs)) | o=>o) else H a
def isDK:Option HO→Bool
 | some (.dK _)=>true
 | _=>false
def thw:Option HO→Option HO
 | some (.frz _ (.dK kvs))=>some (.dK kvs)
 | o=>o
def unfL (H:Hp) (Z:List Addr) (H1:Hp):Hp:=fun a=>if a∈Z∧isDK (H a)=true then thw (H1 a) else H1 a
theorem isDK_is {o:Option HO} (h:isDK o=true):∃kvs,o=some (.dK kvs):=by
 unfold isDK at h
 split at h
 · exact ⟨_,rfl⟩
 · cases h
section
variable {F:Addr→Obj} {Z:List Addr} {H H1:Hp} {a:Addr}
theorem frzL_dK {kvs:List (Key×V)} (hz:a∈Z) (h:H a=some (.dK kvs)):frzL F Z H a=some (.frz (F a) (.dK kvs)):=by
 unfold frzL
 rw [if_pos hz,h]
theorem frzL_off (h:a ∉ Z):frzL F Z H a=H a:=by
 unfold frzL
 rw [if_neg h]
theorem unfL_off (h:¬(a∈Z∧isDK (H a)=true)):unfL H Z H1 a=H1 a:=by
 unfold unfL
 rw [if_neg h]
theorem unfL_on (h:a∈Z∧isDK (H a)=true):unfL H Z H1 a=thw (H1 a):=by
 unfold unfL
 rw [if_pos h]
end
end M3
set_option maxHeartbeats 1000000
namespace M3
open PySem L2
structure See where
 l:Bool
 d:Bool
 cl:List Addr
def hidC (e:See) (M:Mem) (a:Addr):Bool:=match M a with
 | some (.lst _)=> !e.l
 | some (.dic _)=> !e.d
 | some (.ins C _)=> !decide (C∈e.cl)
 | _=>true
def noC (e:See) (M:Mem) (L:List Addr):List Addr:=L.filter fun a=>hidC e M a
def isDic:Option T→Bool
 | some (.dic _)=>true
 | _=>false
def zs (e:See) (M:Mem) (L:List Addr):List Addr:=L.filter fun a=>e.d&&isDic (M a)
mutual
def okS (e:See):T→Bool
 | .tup xs=>okSL e xs
 | .lst xs=> !e.l&&okSL e xs
 | .ins C fs=> !decide (C∈e.cl)&&okSF e fs
 | .dic ts=> !e.d&&okSD e ts
 | .kd _ _=>false
 | _=>true
def okSL (e:See):List T→Bool
 | []=>true
 | x::xs=>okS e x&&okSL e xs
def okSF (e:See):List (Str×T)→Bool
 | []=>true
 | x::xs=>okS e x.2&&okSF e xs
def okSD (e:See):List (Key×T)→Bool
 | []=>true
 | x::xs=>okS e x.2&&okSD e xs
end
theorem okSL_get {e:See}:∀ {xs:List T} {i:Nat} {x:T},okSL e xs=true→xs[i]? =some x→okS e x=true
 | [],_,_,_,h=>by simp at h
 | x::xs,0,y,h,q=>by
   simp only [okSL,Bool.and_eq_true] at h
   simp at q
   rw [←q];exact h.1
 | x::xs,i+1,y,h,q=>by
   simp only [okSL,Bool.and_eq_true] at h
   exact okSL_get (i:=i) h.2 (by simpa using q)
theorem okSF_get {e:See}:∀ {xs:List (Str×T)} {i:Nat} {x:T},okSF e xs=true→(xs.map (·.2))[i]? =some x→okS e x=true
 | [],_,_,_,h=>by simp at h
 | x::xs,0,y,h,q=>by
   simp only [okSF,Bool.and_eq_true] at h
   simp at q
   rw [←q];exact h.1
 | x::xs,i+1,y,h,q=>by
   simp only [okSF,Bool.and_eq_true] at h
   exact okSF_get (i:=i) h.2 (by simpa using q)
theorem okSD_get {e:See}:∀ {xs:List (Key×T)} {i:Nat} {x:T},okSD e xs=true→(xs.map (·.2))[i]? =some x→okS e x=true
 | [],_,_,_,h=>by simp at h
 | x::xs,0,y,h,q=>by
   simp only [okSD,Bool.and_eq_true] at h
   simp at q
   rw [←q];exact h.1
 | x::xs,i+1,y,h,q=>by
   simp only [okSD,Bool.and_eq_true] at h
   exact okSD_get (i:=i) h.2 (by simpa using q)
section
variable {K:PySem.W.Frag} {c:Cf} {Hb H H' H2:Hp} {G L0 L L':List Addr} {M M':Mem} {σ3:List Sl} {σ:St} {W:WX} {e:See} {F:Addr→Obj} {v:V} {d:T}
theorem noC_sub {a:Addr} (h:a∈noC e M L):a∈L:=(List.mem_filter.mp h).1
theorem zs_sub {a:Addr} (h:a∈zs e M L):a∈L∧e.d=true∧isDic (M a)=true:=by
 obtain ⟨h1,h2⟩:=List.mem_filter.mp h
 simp only [Bool.and_eq_true] at h2
 exact ⟨h1,h2⟩
abbrev HL (F:Addr→Obj) (e:See) (M:Mem) (L:List Addr) (H:Hp):Hp:=frzL F (zs e M L) H
theorem HL_off {a:Addr} (h:a ∉ zs e M L):HL F e M L H a=H a:=frzL_off h
theorem HL_dK {a:Addr} {kvs:List (Key×V)} (hz:a∈zs e M L) (h:H a=some (.dK kvs)):HL F e M L H a=some (.frz (F a) (.dK kvs)):=frzL_dK hz h
theorem zs_dK (cl:Cells K (c.S0++G) L M H) {a:Addr} (h:a∈zs e M L):isDK (H a)=true:=by
 obtain ⟨h1,_,h2⟩:=zs_sub h
 cases em:M a with
 | none=>rw [em] at h2;cases h2
 | some t=>
   rw [em] at h2
   have:=cl.at_ a t em
   cases t with
   | dic kvs=>obtain ⟨ks,e1,_⟩:=this;rw [e1];rfl
   | _=>cases h2
end
end M3
set_option maxHeartbeats 1000000
namespace M3
open PySem L2
section
variable {K:PySem.W.Frag} {c:Cf} {Hb H H' H2:Hp} {G L0 L L':List Addr} {M M':Mem} {σ3:List Sl} {σ:St} {W:WX} {e:See} {F:Addr→Obj} {v:V} {d:T}
abbrev HU (e:See) (M:Mem) (L:List Addr) (H H2:Hp):Hp:=unfL H (zs e M L) H2
theorem HU_off {a:Addr} (h:a ∉ L):HU e M L H H2 a=H2 a:=unfL_off fun z=>h (zs_sub z.1).1
structure Lk (K:PySem.W.Frag) (c:Cf) (G L:List Addr) (M:Mem) (H:Hp) (e:See) (F:Addr→Obj) (Ds:List Addr) (H2:Hp):Prop where
 vis:Same (hid (c.S0++G++noC e M L) (HL F e M L H)) (hid (Ds++(c.S0++G++noC e M L)) H2)
 own:∀a∈G++noC e M L,H2 a=HL F e M L H a
 inv:c.I H2
 nD:∀D∈Ds,D ∉ c.S0++G++noC e M L
variable {Ds:List Addr}
theorem Lk.at_ (k:Lk K c G L M H e F Ds H2) (cl:Cells K (c.S0++G) L M H) {a:Addr} (h:a∈L):a ∉ Ds∧H2 a=HL F e M L H a:=by
 by_cases z:a∈noC e M L
 · exact ⟨fun q=>k.nD a q (List.mem_append.mpr (.inr z)),k.own a (List.mem_append.mpr (.inr z))⟩
 · obtain ⟨o,eo,vo,_⟩:=cl.obj h
   have nS:a ∉ c.S0++G++noC e M L:=fun y=>by
    rcases List.mem_append.mp y with y | y
    · exact cl.off a h y
    · exact z y
   by_cases zz:a∈zs e M L
   · obtain ⟨kvs,ek⟩:=isDK_is (zs_dK cl zz)
     have e1:HL F e M L H a=some (.frz (F a) (.dK kvs)):=HL_dK zz ek
     obtain ⟨q1,q2⟩:=hid_some (k.vis _ _ (hid_mk e1 nS))
     exact ⟨fun q=>q2 (List.mem_append.mpr (.inl q)),q1.trans e1.symm⟩
   · have e1:HL F e M L H a=some o:=(HL_off zz).trans eo
     obtain ⟨q1,q2⟩:=hid_some (k.vis _ _ (hid_mk e1 nS vo))
     exact ⟨fun q=>q2 (List.mem_append.mpr (.inl q)),q1.trans e1.symm⟩
theorem Lk.cell (k:Lk K c G L M H e F Ds H2) (cl:Cells K (c.S0++G) L M H) {a:Addr} (h:a∈L):HU e M L H H2 a=H a:=by
 obtain ⟨_,q⟩:=k.at_ cl h
 by_cases zz:a∈zs e M L
 · obtain ⟨kvs,ek⟩:=isDK_is (zs_dK cl zz)
   rw [show HU e M L H H2 a=thw (H2 a) from unfL_on ⟨zz,zs_dK cl zz⟩,q,HL_dK zz ek,ek]
   rfl
 · rw [show HU e M L H H2 a=H2 a from unfL_off fun z=>zz z.1,q,HL_off zz]
theorem Lk.stay (k:Lk K c G L M H e F Ds H2) (cl:Cells K (c.S0++G) L M H):Same (vs4 c G L H) (hid (Ds++(c.S0++G++L)) (HU e M L H H2)):=fun a o h=>by
 obtain ⟨h1,h2⟩:=hid_some h
 have nL:a ∉ L:=fun z=>h2 (List.mem_append.mpr (.inr z))
 have nz:a ∉ zs e M L:=fun z=>nL (zs_sub z).1
 have nS:a ∉ c.S0++G++noC e M L:=fun z=>by
  rcases List.mem_append.mp z with z | z
  · exact h2 (List.mem_append.mpr (.inl z))
  · exact nL (noC_sub z)
 obtain ⟨q1,q2⟩:=hid_some (k.vis _ _ (hid_mk ((HL_off nz).trans h1) nS (hid_vis h)))
 refine hid_mk ((HU_off nL).trans q1) (fun z=> ?_) (hid_vis h)
 rcases List.mem_append.mp z with z | z
 · exact q2 (List.mem_append.mpr (.inl z))
 · exact h2 z
theorem Lk.seenC (k:Lk K c G L M H e F Ds H2) (cl:Cells K (c.S0++G) L M H) {a:Addr} (h:a∈L) (n:a ∉ noC e M L):(e.l=true∧∃vs,H2 a=some (.lst vs))∨(e.d=true∧∃o kvs,H2 a=some (.frz o (.dK kvs)))∨∃C dx ks,C∈e.cl∧H2 a=some (.ins C dx ks):=by
 obtain ⟨_,q⟩:=k.at_ cl h
 have nh:hidC e M a=false:=by
  cases z:hidC e M a with
  | false=>rfl
  | true=>exact absurd (List.mem_filter.mpr ⟨h,z⟩) n
 cases em:M a with
 | none=>exact absurd em ((cl.on a).mp h)
 | some t=>
   have at_:=cl.at_ a t em
   unfold hidC at nh
   rw [em] at nh
   cases t with
   | lst xs=>
     obtain ⟨vs,h1,_⟩:=at_
     have nz:a ∉ zs e M L:=fun z=>by
      have:=(zs_sub z).2.2
      rw [em] at this
      cases this
     exact .inl ⟨by simpa using nh,vs,by rw [q,HL_off nz];exact h1⟩
   | dic ts=>
     obtain ⟨ks,h1,_⟩:=at_
     have ed:e.d=true:=by simpa using nh
     have nz:a∈zs e M L:=List.mem_filter.mpr ⟨h,by rw [em,ed];rfl⟩
     exact .inr (.inl ⟨ed,_,ks,by rw [q,HL_dK nz h1]⟩)
   | ins C fs=>
     obtain ⟨dx,ks,h1,_⟩:=at_
     have nz:a ∉ zs e M L:=fun z=>by
      have:=(zs_sub z).2.2
      rw [em] at this
      cases this
     exact .inr (.inr ⟨C,dx,ks,by simpa using nh,by rw [q,HL_off nz];exact h1⟩)
   | tup xs=>cases nh
   | _=>exact at_.elim
theorem Lk.ok (k:Lk K c G L M H e F Ds H2) (cl:Cells K (c.S0++G) L M H) (r:Rep K (hid (Ds++(c.S0++G++noC e M L)) H2) v d):okS e d=true→Rep K (hid (Ds++(c.S0++G++L)) (HU e M L H H2)) v d:=by
 have put:∀ {a:Addr} {o:HO},hid (Ds++(c.S0++G++noC e M L)) H2 a=some o→a ∉ L→hid (Ds++(c.S0++G++L)) (HU e M L H H2) a=some o:=fun {a o} h n=>by
  obtain ⟨h1,h2⟩:=hid_some h
  refine hid_mk ((HU_off n).trans h1) (fun z=>h2 ?_) (hid_vis h)
  rcases List.mem_append.mp z with z | z
  · exact List.mem_append.mpr (.inl z)
  · refine List.mem_append.mpr (.inr ?_)
    rcases List.mem_append.mp z with z | z
    · exact List.mem_append.mpr (.inl z)
    · exact absurd z n
 have out:∀ {a:Addr} {o:HO},hid (Ds++(c.S0++G++noC e M L)) H2 a=some o→a ∉ noC e M L:=fun {a o} h z=>(hid_some h).2 (List.mem_append.mpr (.inr (List.mem_append.mpr (.inr z))))
 induction r with
 | non=>exact fun _=>.non
 | bl b=>exact fun _=>.bl b
 | int i=>exact fun _=>.int i
 | str x=>exact fun _=>.str x
 | ty n=>exact fun _=>.ty n
 | ref a=>exact fun _=>.ref a
 | @tup a vs ts h hl hr ih=>
   intro q
   have q:okSL e ts=true:=by simpa [okS] using q
   refine .tup ?_ hl fun i v t h1 h2=>ih i v t h1 h2 (okSL_get q h2)
   rcases h with ⟨o,dn,eo⟩ | h
   · refine .inl ⟨o,dn,put eo fun z=> ?_⟩
     have e2:=(hid_some eo).1
     rcases k.seenC cl z (out eo) with ⟨_,vs,e1⟩ | ⟨_,o,kvs,e1⟩ | ⟨C,dx,ks,_,e1⟩<;>rw [e1] at e2<;>cases e2
   · exact .inr h
 | @lst a vs ts h hl hr ih=>
   intro q
   have q:e.l=false∧okSL e ts=true:=by simpa [okS] using q
   refine .lst (put h fun z=> ?_) hl fun i v t h1 h2=>ih i v t h1 h2 (okSL_get q.2 h2)
   have e2:=(hid_some h).1
   rcases k.seenC cl z (out h) with ⟨l1,vs,e1⟩ | ⟨_,o,kvs,e1⟩ | ⟨C,dx,ks,_,e1⟩
   · rw [l1] at q;cases q.1
   · rw [e1] at e2;cases e2
   · rw [e1] at e2;cases e2
 | @dic a kvs ts h hk hr ih=>
   intro q
   have q:e.d=false∧okSD e ts=true:=by simpa [okS] using q
   obtain ⟨o,h⟩:=h
   refine .dic ⟨o,put h fun z=> ?_⟩ hk fun i v t h1 h2=>ih i v t h1 h2 (okSD_get q.2 h2)
   have e2:=(hid_some h).1
   rcases k.seenC cl z (out h) with ⟨l1,vs,e1⟩ | ⟨d1,o,kvs,e1⟩ | ⟨C,dx,ks,_,e1⟩
   · rw [e1] at e2;cases e2
   · rw [d1] at q;cases q.1
   · rw [e1] at e2;cases e2
 | @ins a C dx fs ts h hk hr ih=>
   intro q
   have q:C ∉ e.cl∧okSF e ts=true:=by simpa [okS] using q
   refine .ins (put h fun z=> ?_) hk fun i v t h1 h2=>ih i v t h1 h2 (okSF_get q.2 h2)
   have e2:=(hid_some h).1
   rcases k.seenC cl z (out h) with ⟨l1,vs,e1⟩ | ⟨d1,o,kvs,e1⟩ | ⟨C,dx,ks,hc,e1⟩
   · rw [e1] at e2;cases e2
   · rw [e1] at e2;cases e2
   · rw [e1] at e2;cases e2;exact q.1 hc
end
end M3
set_option maxHeartbeats 1000000
namespace M3
open PySem L2
end M3
set_option maxHeartbeats 1000000
namespace M3
open PySem L2
end M3
set_option maxHeartbeats 1000000
namespace M3
open PySem PySem.Spec PyProof.Rows L2
end M3
set_option maxHeartbeats 1000000
namespace M3
open PySem PySem.Spec PyProof.Rows L2
end M3
set_option maxHeartbeats 1000000
namespace M3
open PySem PySem.Spec PyProof.Rows L2
end M3
set_option maxHeartbeats 1000000
namespace M3
open PySem L2
section
variable {K:PySem.W.Frag} {c:Cf} {Hb H H' H1:Hp} {G L0 L L':List Addr} {M M':Mem} {σ3:List Sl} {σ:St} {W:WX}
theorem RepL.reverse {H:Hp} {vs:List V} {ts:List T} (r:RepL K H vs ts):RepL K H vs.reverse ts.reverse:=by
 induction r with
 | nil=>exact .nil
 | cons h _ ih=>rw [List.reverse_cons,List.reverse_cons];exact ih.append (.cons h .nil)
end
end M3
set_option maxHeartbeats 1000000
namespace M3
open PySem PySem.Spec PyProof.Rows L2
end M3
set_option maxHeartbeats 1000000
namespace M3
open PySem PySem.Spec PyProof.Rows L2
section
variable {K:PySem.W.Frag} {c:Cf} {Hb H H' H2:Hp} {G L0 L L':List Addr} {M M':Mem} {σ3:List Sl} {σ:L2.St} {W:WX} {e:See} {n:Nat} {is:List Nat} {F:Addr→Obj} {Ds:List Addr}
theorem Lk.xd (k:Lk K c G L M H e F [] H2) (cl:Cells K (c.S0++G) L M H) {d:Addr} {fs:List (Str×V)} (h:hid (c.S0++G++noC e M L) H2 d=some (.xd fs)):vs4 c G L (HU e M L H H2) d=some (.xd fs):=by
 obtain ⟨h1,h2⟩:=hid_some h
 have nL:d ∉ L:=fun z=>by
  by_cases nn:d∈noC e M L
  · exact h2 (List.mem_append.mpr (.inr nn))
  · rcases k.seenC cl z nn with ⟨_,vs,q⟩ | ⟨_,o,kvs,q⟩ | ⟨C,dx,ks,_,q⟩<;>(rw [h1] at q;cases q)
 refine hid_mk ((HU_off nL).trans h1) (fun z=> ?_) (hid_vis h)
 rcases List.mem_append.mp z with z | z
 · exact h2 (List.mem_append.mpr (.inl z))
 · exact nL z
end
end M3
set_option maxHeartbeats 1000000
namespace L2
open PySem PySem.Spec PyProof.Rows
end L2
namespace M3
open PySem L2
end M3
set_option maxHeartbeats 1000000
namespace M3
open PySem PySem.Spec PyProof.Rows L2
end M3
set_option maxHeartbeats 1000000
namespace M3
open PySem L2
end M3
set_option maxHeartbeats 1000000
namespace M3
open PySem PySem.Spec PyProof.Rows L2 LamX PySem.W PySem.Calls
end M3
set_option maxHeartbeats 1000000
namespace M3
open PySem L2 PySem.Froz PyProof.Rows
end M3
set_option maxHeartbeats 1000000
namespace M3
open PySem L2 PySem.Froz PyProof.Rows
section
variable {P:Program} {w:World} {A:Around} {E:Value→Shared→Prop} {s:Shared}
structure Fr1 (f:Addr) (s s':Shared):Prop where
 heap:∀b o,b≠f→s.heap.get? b=some o→s'.heap.get? b=some o
 gens:s'.gens=s.gens
 os:s'.os=s.os
theorem Fr1.refl {f:Addr} {s:Shared}:Fr1 f s s:=⟨fun _ _ _ e=>e,rfl,rfl⟩
theorem Fr1.trans {f:Addr} {s s' s'':Shared} (x:Fr1 f s s') (y:Fr1 f s' s''):Fr1 f s s'':=⟨fun b o n e=>y.heap b o n (x.heap b o n e),y.gens.trans x.gens,y.os.trans x.os⟩
end
end M3
set_option maxHeartbeats 1000000
namespace M3
open PySem L2 PySem.Froz PyProof.Rows PySem.Spec
end M3
namespace L2
open PySem
end L2
namespace M3
open PySem L2
end M3
namespace L2H
open PySem PySem.Spec PyProof.Rows L2 HotX
end L2H
namespace L2
open PySem PySem.Spec PyProof.Rows L2H HotX
end L2
namespace M3
open PySem PySem.Spec PyProof.Rows L2 L2H HotX
section
variable {K:PySem.W.Frag} {C:Addr} {m:Str} {vs:List V} {H:Hp} {Q:VK} {E:XK} {N:List Str} {f1:Str}
theorem bodyXK1 (hN:N.length=2) (hm:m.length≤1000) (T:OexC K C) (n1:PySem.W.findIn K (.ref C) f1=some none) (h:spXK C [f1] [0] vs H Q E):
 tSeq (tDrop (tVeI K (tCons (tVar 0) (tCons (fun σ H Q=>tJs [tC (.str m),tFmt (tVar 1)] Str.empty σ H fun out H1=>Q (.str out) H1) tNil)))) (tOst K f1 (tVar 0) (tVar 1)) {nx:=fun _ H'=>Q .non H',rt:=Q} (start N vs) H:=by
 obtain ⟨a,ws,rfl,hl,hf,ha,q⟩:=h
 match ws,hl with
 | [w1],_=>
   obtain ⟨v,e1,fv⟩:=hf 0 (by simp)
   cases e1
   have es:start N [V.ref a,w1]=[some (.ref a),some w1]:=by
    rw [start_eq,hN]
    rfl
   rw [es]
   refine ⟨.ref a,rfl, ?_⟩
   refine txt_step hm (by decide) fun acc h1=>fmt_step (j:=1) rfl fv (by rw [show Str.empty.length=0 from rfl] at h1;omega) fun acc' h2=> ?_
   refine ⟨a,C,_,rfl,by show (1:Nat)≤1000;decide,T,ha, ?_⟩
   refine ⟨w1,rfl,.ref a,rfl,a,C,rfl,T,n1,.inl ⟨ha,fun dx h1 h2=> ?_⟩⟩
   exact q dx _ h1 h2 upd_same ((upd_ne h2).trans upd_same) fun b b1 b2=>(upd_ne b1).trans (upd_ne b2)
end
end M3
namespace M3
open PySem PySem.Spec PyProof.Rows L2 L2H
end M3
set_option maxHeartbeats 1000000
namespace M3
open PySem L2
end M3
namespace PySem.SeqAt
open AutoSeq1 (wpAny_loadPart')
open MeetsSeq MeetsSeq2 MeetsSeq3 SeqRoads2
end PySem.SeqAt
namespace M3
open PySem L2
mutual
theorem eqv_lay:∀d:PyData,d.canLay0=true→PyData.eqv d d=true
 | .none,_=>rfl
 | .bool b,_=>by cases b<;>rfl
 | .int i,_=>by simp [PyData.eqv]
 | .str x,_=>by simp [PyData.eqv]
 | .list xs,h=>eqv_layL xs h
 | .tuple xs,h=>eqv_layL xs h
 | .dict _,h=>nomatch h
theorem eqv_layL:∀ds:List PyData,PyData.canLayAll0 ds=true→PyData.eqvAll ds ds=true
 | [],_=>rfl
 | d::ds,h=>by
   have h':d.canLay0=true∧PyData.canLayAll0 ds=true:=by simpa [PyData.canLayAll0] using h
   show (PyData.eqv d d&&PyData.eqvAll ds ds)=true
   rw [eqv_lay d h'.1,eqv_layL ds h'.2]
   rfl
end
end M3
namespace L2
open PySem PySem.Spec PyProof.Rows
section
variable {X:Cx}
def tHeld (t:St→Hp→XK→Prop):TE:=fun σ H Q=>t σ H fun cls d H'=>∃C dd,cls= .ref C∧d=some dd∧∀(a:Addr) (oe:Obj),H' a=none→Zc (.ref C) (some dd) oe→(∃vs,oe.data= .fields vs)→Q (.ref a) (upd H' a (.frz oe (.own a)))
theorem pe_held {e:Expr} {t:St→Hp→XK→Prop} (he:PMk X e t):PE X e (tHeld t):=by
 refine ⟨fun pins s σ H Q I h=> ?_⟩
 refine thn (he pins s σ H _ I h) fun u s1 hu=> ?_
 obtain ⟨a,oe,vs,sI,H',cls,d,rfl,J,k,hne,ha,hz,hd,h1,na,os,ag,r,C,dd,rfl,rfl,q⟩:=hu
 have J2:=J.laidN (t':=s1.toks) (h':=s1.heap) (o:=.frz oe (.own a)) k hne na ⟨ha,oe,ha⟩
 exact ⟨.ref a,_,⟨J2.ok,os.trans J.os,ag,J2.base,J2.loc,J2.cell,J2.free,J2.freeC,J2.pin,J2.hok,J2.len⟩,rfl,q a oe na hz ⟨vs,hd⟩⟩
def XHeld (H:Hp) (a C d:Addr):Prop:=∃oe,H a=some (.frz oe (.own a))∧Zc (.ref C) (some d) oe∧∃vs,oe.data= .fields vs
def tXfV (cl:List Addr) (f:Str) (te:TE):TE:=fun σ H Q=>te σ H fun x H1=>∃(a C dd:Addr) (fs:List (Str×V)) (v:V),x= .ref a∧C∈cl∧XHeld H1 a C dd∧H1 dd=some (.xd fs)∧fs.lookup f=some v∧Q v H1
theorem pe_xfV {cl:List Addr} {e:Expr} {te:TE} {pos:Pos} {n:Str} (T:∀C∈cl,XfC X.K C∧PySem.W.findIn X.K (.ref C) n=some none) (he:PE X e te) (hb:attributeBase e n X.env (eval e X.env)=eval e X.env:=by rfl):
 PE X (.Attribute e n pos) (tXfV cl n te):=by
 refine ⟨fun pins s σ H Q I h=> ?_⟩
 refine attr_of hb (thn (he.run pins s σ H _ I h) fun u s1 hh=> ?_)
 obtain ⟨x,H1,I1,rx,a,C,dd,fs,v,ex,hC,⟨oe,e1,hz,vs,hd⟩,ed,l,q⟩:=hh
 subst ex
 obtain rfl:u=Value.ref a:=rx
 obtain ⟨T,hno⟩:=T C hC
 have ha:s1.heap.get? a=some oe:=(show ObjOk X.prog X.w H1 s1.heap a (.frz oe (.own a)) from I1.hok a _ e1).1
 have hx:ObjOk X.prog X.w H1 s1.heap dd (.xd fs):=I1.hok dd _ ed
 obtain ⟨mA,hns,hr⟩:=hx
 obtain ⟨od,ho,hl⟩:=lookIn_ns hns
 obtain ⟨u,hu,ru⟩:=RelO.some_of (v:=v) (o:=mA n) (by rw [←l];exact hr n)
 have J:PySem.W.InstAt s1.heap a oe C (some od):=⟨ha,hz.1,by unfold PySem.W.notCls;rw [hd]<;>rfl,by rw [hz.2];exact ho⟩
 exact HandSPX.exc_get I1.kIn J T.ga T.gg T.exC (PySem.W.findObj_own T.hdC hno rfl (by rw [hl,hu])) (handed_of ru) ⟨v,H1,I1.tok _,ru,q⟩
theorem pe_xfVK {K:PySem.W.Frag} {cl:List Addr} {e:Expr} {te:TE} {pos:Pos} {n:Str} (h:X.K=K) (T:∀C∈cl,XfC K C∧PySem.W.findIn K (.ref C) n=some none) (he:PE X e te) (hb:attributeBase e n X.env (eval e X.env)=eval e X.env:=by rfl):
 PE X (.Attribute e n pos) (tXfV cl n te):=by
 subst h
 exact pe_xfV T he hb
def rIsX (C D:Addr) (b:Bool):List V→Hp→VK→Prop:=fun xs H Q=>∃(a dd:Addr) (fs:List (Str×V)),xs=[.ref a,.ref D]∧XHeld H a C dd∧H dd=some (.xd fs)∧Q (.bl b) H
theorem call_isX {C D:Addr} {b:Bool} (T:ExcC X.K C) (e:PySem.W.kitOne X.K (.ref C) (.ref D)=some b):CallR X (.builtin "isinstance") (rIsX C D b):=by
 intro pins s σ H xs us Q I r h
 obtain ⟨a,dd,fs,rfl,⟨oe,e1,hz,vs,hd⟩,ed,q⟩:=h
 cases r with
 | cons rx rr=>
   cases rr with
   | cons rt rr=>
     cases rr
     cases rx
     cases rt
     have ha:s.heap.get? a=some oe:=(show ObjOk X.prog X.w H s.heap a (.frz oe (.own a)) from I.hok a _ e1).1
     have hx:ObjOk X.prog X.w H s.heap dd (.xd fs):=I.hok dd _ ed
     obtain ⟨mA,hns,hr⟩:=hx
     obtain ⟨od,ho,hl⟩:=lookIn_ns hns
     have J:PySem.W.InstAt s.heap a oe C (some od):=⟨ha,hz.1,by unfold PySem.W.notCls;rw [hd]<;>rfl,by rw [hz.2];exact ho⟩
     have hcl:(PySem.W.clsIn X.K C).isSome=true:=by
      obtain ⟨cd,hc,_⟩:=PySem.W.any_some T.hd
      rw [hc];rfl
     exact PySem.W.kia_one (PySem.W.kitx_exc hcl T.hg T.hk T.hs T.ha T.hn T.ht T.hm) I.kIn J e (fun z=>nomatch z) fun tk=>⟨.bl b,H,I.kept (t':=tk) fun _ _ z=>z,rfl,q⟩
theorem call_isXK {K:PySem.W.Frag} {C D:Addr} {b:Bool} (h:X.K=K) (T:ExcC K C) (e:PySem.W.kitOne K (.ref C) (.ref D)=some b):CallR X (.builtin "isinstance") (rIsX C D b):=by
 subst h
 exact call_isX T e
end
end L2
namespace M3
open PySem L2
theorem kit_ref {K:PySem.W.Frag} {C D:Addr} {b:Bool} (h1:PySem.W.isClsIn K D=true) (h2:PySem.W.typeIn K (.ref D)=some (.type "type")) (h3:PySem.W.subIn K (.ref C) (.ref D)=some b) (ne:(Value.ref C==Value.ref D)=false):PySem.W.kitOne K (.ref C) (.ref D)=some b:=by
 unfold PySem.W.kitOne
 rw [if_neg (by rw [ne];exact Bool.false_ne_true)]
 unfold PySem.W.kitCls
 have e:(PySem.W.clsIn K D).isSome=true:=by
  unfold PySem.W.isClsIn at h1
  first | exact h1 | (split at h1<;>first | (rename_i e;rw [e];rfl) | cases h1)
 simp only [e,h2]
 rw [if_pos (by simp)]
 exact h3
def asX:T→Option (Addr×List (Str×T))
 | .tup [.ins C fs]=>some (C,fs)
 | _=>none
theorem asX_is {t:T} {p:Addr×List (Str×T)} (h:asX t=some p):t= .tup [.ins p.1 p.2]:=by
 unfold asX at h
 split at h
 · cases h;rfl
 · cases h
def cellX (M:Mem) (a:Addr):Option (Addr×List (Str×T)):=(M a).bind asX
theorem cellX_is {M:Mem} {a:Addr} {p:Addr×List (Str×T)} (h:cellX M a=some p):M a=some (.tup [.ins p.1 p.2]):=by
 unfold cellX at h
 cases e:M a with
 | none=>rw [e] at h;cases h
 | some t=>rw [e] at h;rw [asX_is (show asX t=some p from h)]
section
variable {K:PySem.W.Frag} {c:Cf} {Hb H H' H1:Hp} {G L0 L L':List Addr} {M M':Mem} {σ3:List Sl} {σ:St} {W:WX}
theorem R4.atX (r:R4 K c Hb G L0 L M σ3 σ H) {a C:Addr} {fs:List (Str×T)} (h:M a=some (.tup [.ins C fs])):∃d ks,XHeld H a C d∧H d=some (.xd ks)∧ks.map (·.1)=fs.map (·.1)∧RepL K (vs4 c G L H) (ks.map (·.2)) (fs.map (·.2)):=by
 obtain ⟨C',d,oe,ks,fs',e,h1,h2,h3,h4,h5,h6⟩:=r.cells.at_ a _ h
 cases e
 exact ⟨d,ks,⟨oe,h1,h2,h3⟩,(hid_some h4).1,h5,h6⟩
def fldX4 (cl:List Addr) (f:Str) (o:E4):E4:=fun σ M Q X=>o σ M (fun d M1=>ob (asR d) fun a=>ob (cellX M1 a) fun p=>p.1∈cl∧ob (p.2.lookup f) fun t=>Q t M1) X
theorem lift_fldX {cl:List Addr} {f:Str} {to:TE} {o:E4} (ho:Lift4 K c W to o):Lift4 K c W (tXfV cl f to) (fldX4 cl f o):=by
 intro σ3 M Q4 X h Hb G L0 L σ H Q R k ex
 refine ho _ _ _ _ h Hb G L0 L σ H _ R (fun v d L1 M1 H1 R1 s1 r q=> ?_) ex
 obtain ⟨a,ea,qa⟩:=ob_iff.mp q
 cases asR_is ea
 cases r.refI
 obtain ⟨⟨C,fs⟩,ei,hc,qb⟩:=ob_iff.mp qa
 obtain ⟨t,et,qc⟩:=ob_iff.mp qb
 obtain ⟨dd,ks,o1,o2,o3,o4⟩:=R1.atX (cellX_is ei)
 obtain ⟨u,eu,ru⟩:=lookup_rep o3 o4 et
 exact ⟨a,C,dd,ks,u,rfl,hc,o1,o2,eu,k _ _ L1 M1 H1 R1 s1 ru qc⟩
def isX4 (C D:Addr) (b:Bool) (o:E4):E4:=fun σ M Q X=>o σ M (fun d M1=>ob (asR d) fun a=>ob (cellX M1 a) fun p=>p.1=C∧Q (.bl b) M1) X
theorem lift_isX {C D:Addr} {b:Bool} {to:TE} {o:E4} (ho:Lift4 K c W to o):Lift4 K c W (tCB (rIsX C D b) (tCons to (tCons (tC (.ref D)) tNil))) (isX4 C D b o):=by
 intro σ3 M Q4 X h Hb G L0 L σ H Q R k ex
 refine ho _ _ _ _ h Hb G L0 L σ H _ R (fun v d L1 M1 H1 R1 s1 r q=> ?_) ex
 obtain ⟨a,ea,qa⟩:=ob_iff.mp q
 cases asR_is ea
 cases r.refI
 obtain ⟨⟨C',fs⟩,ei,hc,qb⟩:=ob_iff.mp qa
 cases hc
 obtain ⟨dd,ks,o1,o2,o3,o4⟩:=R1.atX (cellX_is ei)
 exact ⟨a,dd,ks,rfl,o1,o2,k _ _ L1 M1 H1 R1 s1 (.bl b) qb⟩
theorem mkX_core {vs:List V} {ds:List T} {C:Addr} {fs:List Str} {mis:List Nat} {Q4:T→Mem→Prop} {Q:VK} (hfs:fs.length≤1000) (R1:R4 K c Hb G L0 L M σ3 σ H1) (r:RepL K (vs4 c G L H1) vs ds) (hl:ds.length=fs.length) (hf:(mis.all fun i=>fmtB ds[i]?)=true)
 (q:∀a,M a=none→Q4 (.ref a) (mset M a (some (.tup [.ins C (fs.zip ds).reverse]))))
 (k:∀v d L' M' H',R4 K c Hb G L0 L' M' σ3 σ H'→Same (vs4 c G L H1) (vs4 c G L' H')→Rep K (vs4 c G L' H') v d→Q4 d M'→Q v H') (b:Addr) (hb:H1 b=none):
 spXK C fs mis (.ref b::vs) (upd H1 b (exo b C none)) (fun v H2=>v= .non∧∃(d:Addr) (gs:List (Str×V)),H2 b=some (exo b C (some d))∧H2 d=some (exd d gs)∧H1 d=none∧
  (∃C' dd,Value.ref C= .ref C'∧some d=some dd∧∀(a:Addr) (oe:Obj),(upd (L2.del H2 b) d (.xd gs)) a=none→Zc (.ref C') (some dd) oe→(∃vs,oe.data= .fields vs)→Q (.ref a) (upd (upd (L2.del H2 b) d (.xd gs)) a (.frz oe (.own a))))) (fun _ _ _=>False):=by
 have hlv:vs.length=fs.length:=by rw [r.length,hl]
 refine ⟨b,vs,rfl,hlv,fun i hi=>fmtV_of r (List.all_eq_true.mp hf i hi),upd_same,fun dx H' h1 h2 e1 e2 e3=>⟨rfl,dx,(fs.zip vs).reverse,e1,e2, ?_, ?_⟩⟩
 · rw [upd_ne h2] at h1;exact h1
 · have h1':H1 dx=none:=by rw [upd_ne h2] at h1;exact h1
   have eH:upd (L2.del H' b) dx (.xd (fs.zip vs).reverse)=upd H1 dx (.xd (fs.zip vs).reverse):=by
    funext y
    by_cases y1:y=dx
    · rw [y1,upd_same,upd_same]
    · rw [upd_ne y1,upd_ne y1]
      by_cases y2:y=b
      · rw [y2,del_same,hb]
      · rw [del_ne y2,e3 y y2 y1,upd_ne y2]
   rw [eH]
   refine ⟨C,dx,rfl,rfl,fun a oe na hz hv=> ?_⟩
   have l2:=R1.r3.new (o:=.xd (fs.zip vs).reverse) h1'
   have at2:=R1.r3.newAt (o:=.xd (fs.zip vs).reverse) h1'
   rw [S_nons] at at2
   have R2:=R1.le l2
   obtain ⟨m0,R3',sm⟩:=R2.fresh (a:=a) (o:=.frz oe (.own a)) (t:=.tup [.ins C (fs.zip ds).reverse]) na fun Hv sv=>
    ⟨C,dx,oe,(fs.zip vs).reverse,_,rfl,upd_same,hz,hv,sv _ _ at2,by
      rw [List.map_reverse,List.map_reverse,zfst fs vs hlv,zfst fs ds hl],by
      rw [List.map_reverse,List.map_reverse,zsnd fs vs hlv,zsnd fs ds hl]
      exact paired_rev ((r.mono l2.vis4).mono sv)⟩
   exact k _ _ _ _ _ R3' (Same.trans l2.vis4 sm) (.ref a) (q a m0)
def mkX4 (C:Addr) (fs:List Str) (mis:List Nat) (x:A3):E4:=fun σ M Q X=>x σ (fun ds=>ds.length=fs.length∧(mis.all fun i=>fmtB ds[i]?)=true∧∀a,M a=none→Q (.ref a) (mset M a (some (.tup [.ins C (fs.zip ds).reverse])))) (fun x=>X x M)
theorem lift_mkX {tk:TA} {x:A3} {C:Addr} {fs:List Str} {mis:List Nat} (hfs:fs.length≤1000) (ha:LiftA K c W tk x):Lift4 K c W (tHeld (tMkO C (spXK C fs mis) [] tk)) (mkX4 C fs mis x):=by
 intro σ3 M Q4 X h Hb G L0 L σ H Q R k e
 refine ha _ _ _ h H (G++L) (nons σ3.length) σ H _ R.r3 (fun vs ds H1 l r q0=> ?_) (fun cls dd x H' l r q=> ?_)
 · obtain ⟨hl,hf,q⟩:=q0
   rw [S_nons] at r
   have R1:=R.le l
   refine ⟨by rw [r.length,hl];exact hfs,fun b hb=> ?_⟩
   rw [List.append_nil]
   exact mkX_core hfs R1 r hl hf q (fun v d L' M' H' R' s'=>k v d L' M' H' R' (Same.trans l.vis4 s')) b hb
 · rw [S_nons] at r
   exact e cls dd x L M H' (R.le l) l.vis4 r q
def mkXK4 (C:Addr) (fs:List Str) (mis:List Nat) (m:Nat) (is:List Nat) (dts:List T) (x:A3):E4:=fun σ M Q X=>x σ (fun ds=>ds.length=m∧(sel is (ds++dts)).length=fs.length∧(mis.all fun i=>fmtB (sel is (ds++dts))[i]?)=true∧∀a,M a=none→Q (.ref a) (mset M a (some (.tup [.ins C (fs.zip (sel is (ds++dts))).reverse])))) (fun x=>X x M)
theorem lift_mkXK {tk:TA} {x:A3} {C:Addr} {fs:List Str} {mis is:List Nat} {m:Nat} {dvs:List V} {dts:List T} (hd:∀H,RepL K H dvs dts) (hfs:fs.length≤1000) (ha:LiftA K c W tk x):Lift4 K c W (tHeld (tMkOK C (spXK C fs mis) m (fun us ws=>us++sel is (ws++dvs)) tk)) (mkXK4 C fs mis m is dts x):=by
 intro σ3 M Q4 X h Hb G L0 L σ H Q R k e
 refine ha _ _ _ h H (G++L) (nons σ3.length) σ H _ R.r3 (fun vs ds H1 l r q0=> ?_) (fun cls dd x H' l r q=> ?_)
 · obtain ⟨hm,hl,hf,q⟩:=q0
   rw [S_nons] at r
   have R1:=R.le l
   refine ⟨by rw [r.length,hm],fun b hb=> ?_⟩
   exact mkX_core hfs R1 (repL_sel is (r.append (hd _))) hl hf q (fun v d L' M' H' R' s'=>k v d L' M' H' R' (Same.trans l.vis4 s')) b hb
 · rw [S_nons] at r
   exact e cls dd x L M H' (R.le l) l.vis4 r q
end
end M3
namespace M3
open PySem PySem.Spec PyProof.Rows L2
section
variable {P:Program} {w:World} {K:PySem.W.Frag} {mg:Str→Option Value} {base:Heap} {x m qual:Str} {fs ks ps:List Str} {mis is:List Nat} {st:Stmt} {k:Nat} {dts:List T} {C:Addr}
structure InX (P:Program) (w:World) (K:PySem.W.Frag) (mg:Str→Option Value) (base:Heap) (lv:Nat) (C:Addr) (m qual:Str) (st:Stmt) (ps fs:List Str) (mis:List Nat) (dts:List T):Prop where
 ex:∃fI fd dvs,(∀H,RepL K H dvs dts)∧PySem.W.findIn K (.ref C) "__init__"=some (some (.ref fI))∧FunD K m qual (defArgs st) (defBody st) (defScope st) dvs [] fI fd∧FnOk P w K mg base CX0 lv fI fd ps (spXK C fs mis)
theorem inX_of (D:MethAt K C "__init__" m qual st dts [] []) (h:∀(fI:Addr) (fd:FuncData) (dvs:List V),FunD K m qual (defArgs st) (defBody st) (defScope st) dvs [] fI fd→FnOk P w K mg base CX0 k fI fd ps (spXK C fs mis)):InX P w K mg base k C m qual st ps fs mis dts:=by
 obtain ⟨fI,fd,dvs,kvs,rd,rk,F,hm⟩:=D.ex
 exact ⟨fI,fd,dvs,rd,hm,F,h fI fd dvs F⟩
structure InK (P:Program) (w:World) (K:PySem.W.Frag) (mg:Str→Option Value) (base:Heap) (lv:Nat) (C:Addr) (fs:List Str) (mis:List Nat) (ks:List Str) (is:List Nat) (dvs:List V):Prop where
 ex:∃fI fd ps g,PySem.W.findIn K (.ref C) "__init__"=some (some (.ref fI))∧FnOk P w K mg base CX0 lv fI fd ps (spXK C fs mis)∧KBn K fd ps 1 ks g (fun us ws=>us++sel is (ws++dvs))
structure InKT (P:Program) (w:World) (K:PySem.W.Frag) (mg:Str→Option Value) (base:Heap) (lv:Nat) (C:Addr) (fs:List Str) (mis:List Nat) (ks:List Str) (is:List Nat) (dts:List T):Prop where
 ex:∃dvs,(∀H,RepL K H dvs dts)∧InK P w K mg base lv C fs mis ks is dvs
theorem InX.kw0 (M:InX P w K mg base k C m qual st ps fs mis []) (ks:List Str) (is:List Nat)
 (h:∀(kV doc pm:Value) (an:Option Addr) (cdv ct:Value) (us ws:List Value),us.length=1→ws.length=ks.length→bindArgs (PySem.W.fnOf m qual (defArgs st) (defBody st) (defScope st) .none kV doc pm an cdv ct) ⟨us,ks.zip ws⟩=pure (ps.zip (us++sel is ws))):InKT P w K mg base k C fs mis ks is []:=by
 obtain ⟨fI,fd,dvs,rd,hm,F,O⟩:=M.ex
 have e:=(rd (fun _=>none)).len0
 subst e
 refine ⟨[],rd,fI,fd,ps,fun us ws=>us++sel is ws,hm,O, ?_⟩
 obtain ⟨oc,od,dV,kV,doc,pm,an,cdv,ct,osl,rfl,lk,hcd,hD,hK⟩:=F.ex
 rcases hD with ⟨_,rfl⟩ | ⟨e,_⟩
 · exact ⟨fun s us ws _ l1 l2=>.of_eq (h kV doc pm an cdv ct us ws l1 l2),fun r1 r2=>by rw [List.append_nil];exact r1.append (vals_sel is r2)⟩
 · exact absurd rfl e
theorem InX.kwD (M:InX P w K mg base k C m qual st ps fs mis dts) (hd:dts≠[]) (ks:List Str) (is:List Nat)
 (h:∀(Ta:Addr) (kV doc pm:Value) (an:Option Addr) (cdv ct:Value) (us its ws:List Value),us.length=1→its.length=dts.length→ws.length=ks.length→
   ∃k,bindArgs (PySem.W.fnOf m qual (defArgs st) (defBody st) (defScope st) (.ref Ta) kV doc pm an cdv ct) ⟨us,ks.zip ws⟩=seqItems? (.ref Ta) >>= k∧k (some its.toArray)=pure (ps.zip (us++sel is (ws++its)))):InKT P w K mg base k C fs mis ks is dts:=by
 obtain ⟨fI,fd,dvs,rd,hm,F,O⟩:=M.ex
 have e1:=(rd (fun _=>none)).length
 obtain ⟨oc,od,dV,kV,doc,pm,an,cdv,ct,osl,rfl,lk,hcd,hD,hK⟩:=F.ex
 rcases hD with ⟨e,_⟩ | ⟨_,Ta,o,its,n,rfl,lT,oT,rT⟩
 · rw [e] at e1
   cases dts with
   | nil=>exact absurd rfl hd
   | cons=>cases e1
 · refine ⟨dvs,rd,fI,_,ps,fun us ws=>us++sel is (ws++its),hm,O, ?_,fun r1 r2=>r1.append (vals_sel is (r2.append rT))⟩
   intro s us ws X l1 l2
   obtain ⟨k,q1,q2⟩:=h Ta kV doc pm an cdv ct us its ws l1 (rT.length.symm.trans e1) l2
   refine BindsTo.of_looks fun M=> ?_
   rw [q1]
   exact looks_items X lT oT (.of_pure q2)
structure InV (P:Program) (w:World) (K:PySem.W.Frag) (mg:Str→Option Value) (base:Heap) (lv:Nat) (C:Addr) (fs:List Str) (mis:List Nat):Prop where
 ex:∃fI fd ps,PySem.W.findIn K (.ref C) "__init__"=some (some (.ref fI))∧FnOk P w K mg base CX0 lv fI fd ps (spXK C fs mis)∧Binds K fd ps []
theorem InX.va (M:InX P w K mg base k C m qual st ps fs mis dts) (hb:∀(fI:Addr) (fd:FuncData) (dvs:List V),dvs.length=dts.length→FunD K m qual (defArgs st) (defBody st) (defScope st) dvs [] fI fd→Binds K fd ps []):InV P w K mg base k C fs mis:=by
 obtain ⟨fI,fd,dvs,rd,hm,F,O⟩:=M.ex
 exact ⟨fI,fd,ps,hm,O,hb fI fd dvs (rd (fun _=>none)).length F⟩
end
section
variable {X:Cx} {P:Program} {w:World} {K:PySem.W.Frag} {mg:Str→Option Value} {base:Heap} {x:Str} {fs ks:List Str} {mis is:List Nat} {dvs:List V} {k:Nat} {e:Expr} {es:List Expr} {ta tk:TA} {p pos:Pos} {kws:List Keyword}
theorem pe_hV (M:InV P w K mg base k ((csOf w K mg).at_ x) fs mis) (C:XClsK w K mg x fs) (hP:X.prog=P) (hw:X.w=w) (hK:X.K=K) (hmg:X.mg=mg) (hba:X.base=base)
 (hr:Room (k+1) X.A) (hg:Gl X x) (ha:PA X (e::es) ta) (hdb:(x==("__debug__":Str))=false:=by decide) (he:starEach (e::es) X.env=(false,eval e X.env)::starEach es X.env:=by rfl) (hpl:(backTo pos (starEach es X.env)).any (·.1)=false:=by rfl):
 PE X (.Call (.Name x p) (e::es) [] pos) (tHeld (tMkO ((csOf w K mg).at_ x) (spXK ((csOf w K mg).at_ x) fs mis) [] ta)):=by
 subst hP hw hK hmg hba
 obtain ⟨fI,fd,ps,hm,F,B⟩:=M.ex
 exact pe_held (pmk_oex C.oex hm (beq_iff_eq.mp (C.fn fI hm)) F hr B .nil pass0 hg C.g ha hdb he hpl)
theorem pe_hK (M:InK P w K mg base k ((csOf w K mg).at_ x) fs mis ks is dvs) (C:XClsK w K mg x fs) (hP:X.prog=P) (hw:X.w=w) (hK:X.K=K) (hmg:X.mg=mg) (hba:X.base=base)
 (hr:Room (k+1) X.A) (hg:Gl X x) (hkw:PK X kws tk) (hall:(backToKw pos (keywordEach kws X.env)).all (·.1.isSome)=true:=by rfl) (hks:(backToKw pos (keywordEach kws X.env)).filterMap (·.1)=ks:=by rfl) (hdb:(x==("__debug__":Str))=false:=by decide)
 (hpl:((backTo pos (starEach [] X.env)).any (·.1)||(backToKw pos (keywordEach kws X.env)).any (·.1.isNone))=false:=by rfl):
 PE X (.Call (.Name x p) [] kws pos) (tHeld (tMkOK ((csOf w K mg).at_ x) (spXK ((csOf w K mg).at_ x) fs mis) ks.length (fun us ws=>us++sel is (ws++dvs)) tk)):=by
 subst hP hw hK hmg hba
 obtain ⟨fI,fd,ps,g,hm,F,B⟩:=M.ex
 exact pe_held (pmk_oexK C.oex hm (beq_iff_eq.mp (C.fn fI hm)) F hr B pass0 hg C.g hkw hall hks hdb hpl)
end
def scrC (K:PySem.W.Frag) (a:Addr) (ns:List Int) (b:Bool):Cf where
 S0:=if b=true then [a] else []
 I:=fun H=>if b=true then Rd H a (.lst (ns.map V.int)) else ∃(o:Obj) (its:Array Value) (n:Nat),K.lookup a=some o∧o.cls= .type "list"∧o.dict=none∧o.data= .seq its n∧its.size≤sizeLine∧Vals (ns.map V.int) its.toList
 st:=fun H H' e x h=>by
  cases b with
  | false=>exact h
  | true=>
    have ea:=e a (by simp)
    rw [if_pos rfl] at h ⊢
    rcases h with h | ⟨o,h⟩
    · exact .inl (by rw [ea];exact h)
    · exact .inr ⟨o,by rw [ea];exact h⟩
 on:=fun H h b' hb=>by
  cases b with
  | false=>cases hb
  | true=>
    cases List.mem_singleton.mp hb
    rw [if_pos rfl] at h
    rcases h with h | ⟨o,h⟩<;>rw [h]<;>intro z<;>cases z
 gOk:=fun _=>True
 gL:=fun _=>trivial
 gV:=fun _ _=>trivial
 fr:=false
theorem scr_sq {K:PySem.W.Frag} {a:Addr} {ns:List Int} {b:Bool} {H:Hp} (h:(scrC K a ns b).I H):SqL K H a (ns.map V.int):=by
 cases b with
 | true=>exact .inl h
 | false=>exact .inr h
def scr3 (a:Addr) (ns:List Int) (e:E3) (l h:G3 (Option Int)):E3:=fun σ Q X=>e σ (fun d=>d= .ref a∧l σ (fun lo=>h σ (fun hi=>Q (.lst (cut (ns.map T.int) lo hi))) X) X) X
theorem rep_intsN {K:PySem.W.Frag} {H:Hp}:∀ns:List Int,RepL K H (ns.map V.int) (ns.map T.int)
 | []=>.nil
 | i::ns=>.cons (.int i) (rep_intsN ns)
theorem lift_scr {K:PySem.W.Frag} {a:Addr} {ns:List Int} {b:Bool} {W:WX} {te:TE} {e:E3} {tl th:TO} {l h:G3 (Option Int)} (ha:Lift K (scrC K a ns b) W te e) (hl:LiftO K (scrC K a ns b) W tl l) (hh:LiftO K (scrC K a ns b) W th h):
 Lift K (scrC K a ns b) W (tSl (rSlL K) te tl th) (scr3 a ns e l h):=by
 intro σ3 Q3 X hq Hb G A σ H Q R k ex
 refine ha _ _ _ hq Hb G A σ H _ R (fun vx x H1 L1 rx hx=> ?_) ex
 obtain ⟨ed,hx⟩:=hx
 subst ed
 cases rx.refI
 refine hl _ _ _ hx Hb G A σ H1 _ (R.le L1) (fun lo lo' H2 L2 e2 hy=> ?_) (fun cls dd x H' L=>ex cls dd x H' (L1.trans L))
 subst e2
 refine hh _ _ _ hy Hb G A σ H2 _ ((R.le L1).le L2) (fun hi hi' H3 L3 e3 hz=> ?_) (fun cls dd x H' L=>ex cls dd x H' ((L1.trans L2).trans L))
 subst e3
 have R3:=((R.le L1).le L2).le L3
 refine ⟨a,ns.map V.int,rfl,scr_sq R3.inv,fun p hp=> ?_⟩
 have L:=R3.new (o:=.lst (cutV (ns.map V.int) lo hi)) hp
 exact k _ _ _ (((L1.trans L2).trans L3).trans L) (.mkL (R3.newAt hp) ((rep_intsN ns).cut lo hi)) hz
theorem law_rest4N {K:PySem.W.Frag} {W:WX} {t:TS} {x:S4} {H:Hp} {Q:VK} {a:Addr} {ns:List Int} (m:Nat) (lt:∀b,LiftS4 K (scrC K a ns b) W t x) (hS:SqL K H a (ns.map V.int)) (hQ:∀H',Q (.bl true) H')
 (hx:x {nx:=fun _ _=>False,rt:=fun d _=>d= .bl true} (Sl.val (.ref a)::List.replicate m Sl.no) (fun _=>none)):t {nx:=fun _ H'=>Q .non H',rt:=Q} (some (V.ref a)::List.replicate m none) H:=by
 have main:∀b,(scrC K a ns b).I H→t {nx:=fun _ H'=>Q .non H',rt:=Q} (some (V.ref a)::List.replicate m none) H:=by
  intro b hI
  have r0:R3 K (scrC K a ns b) H [] (List.replicate (m+1) none) (Sl.val (.ref a)::List.replicate m Sl.no) (some (V.ref a)::List.replicate m none) H:=by
   have hA:addrs (List.replicate (m+1) (none:Option Addr))=[]:=by
    unfold addrs
    rw [List.filterMap_replicate_of_none rfl]
   refine ⟨hI, ?_,fun a h=>(by cases h),fun a h=>(by cases h),(by rw [hA];exact List.nodup_nil),fun a h=>(by rw [hA] at h;cases h),(by simp),(by simp), ?_⟩
   · unfold Cf.S
     rw [hA,List.append_nil,List.append_nil]
     exact Same.refl _
   · intro i s o x h1 h2 h3
     have ho:o=none:=(List.mem_replicate.mp (List.mem_of_getElem? h2)).2
     subst ho
     match i,h1,h3 with
     | 0,h1,h3=>cases h1;cases h3;exact ⟨rfl,_,rfl,.ref a⟩
     | i+1,h1,h3=>
       have hs:s= .no:=(List.mem_replicate.mp (List.mem_of_getElem? (show (List.replicate m Sl.no)[i]? =some s by simpa using h1))).2
       subst hs
       exact rfl
  have hl:(Sl.val (.ref a)::List.replicate m Sl.no:List Sl).length=m+1:=by simp
  have r1:R3 K (scrC K a ns b) H ([]++[]) (nons (Sl.val (.ref a)::List.replicate m Sl.no:List Sl).length) (Sl.val (.ref a)::List.replicate m Sl.no) (some (V.ref a)::List.replicate m none) H:=by
   rw [hl];exact r0
  have R0:R4 K (scrC K a ns b) H [] [] [] (fun _=>none) (Sl.val (.ref a)::List.replicate m Sl.no) (some (V.ref a)::List.replicate m none) H:=
   ⟨r1.re,Same.refl _,fun _ h=>(by cases h),⟨fun b=>by simp,fun b h=>(by cases h),fun b t e=>by cases e⟩⟩
  refine lt b _ _ _ hx H [] [] [] _ H _ R0 ⟨fun _ _ _ _ _ _ z=>z.elim,fun v d L' M' H' _ rv e=> ?_,fun _ _ _ _ _ _ z=>z.elim,fun _ _ _ _ _ _ z=>z.elim,fun _ _ _ _ _ _ _ _ _ _ z=>z.elim⟩
  subst e
  rw [rv.blI]
  exact hQ H'
 rcases hS with h | h
 · exact main true h
 · exact main false h
end M3
namespace Law
open PySem L2 M3
def LbearB (C:Cs):S4:=(seq4 (asg4 (mkXK4 (C.at_ "Tie") ["table","one","other"] [1,2] 3 [1,2,0] [] (cons3 (op3 addP (v3 3) (k3 (.int 1))) (cons3 (v3 0) (cons3 (v3 3) nil3)))) (name3 4)) (seq4 (asg4 (mkXK4 (C.at_ "Clash") ["table","cells"] [0] 2 [1,0] [] (cons3 (v3 2) (cons3 (v3 1) nil3))) (name3 5)) (seq4 (asg4 (mkXK4 (C.at_ "Lost") ["table","row"] [0] 2 [1,0] [] (cons3 (v3 2) (cons3 (v3 0) nil3))) (name3 6)) (seq4 (asg4 (lst4 (cons4 (fldX4 [C.at_ "Tie"] "table" (pu (v3 4))) (cons4 (fldX4 [C.at_ "Tie"] "one" (pu (v3 4))) (cons4 (fldX4 [C.at_ "Tie"] "other" (pu (v3 4))) (cons4 (fldX4 [C.at_ "Clash"] "table" (pu (v3 5))) (cons4 (fldX4 [C.at_ "Clash"] "cells" (pu (v3 5))) (cons4 (fldX4 [C.at_ "Lost"] "table" (pu (v3 6))) (cons4 (fldX4 [C.at_ "Lost"] "row" (pu (v3 6))) nil4)))))))) (name3 7)) (seq4 (asg4 (lst4 (cons4 (mkX4 (C.at_ "BadName") ["name"] [0] (cons3 (v3 0) nil3)) (cons4 (mkXK4 (C.at_ "Taken") ["name"] [0] 1 [0] [] (cons3 (v3 1) nil3)) (cons4 (mkX4 (C.at_ "NoTable") ["name"] [0] (cons3 (v3 0) nil3)) (cons4 (mkXK4 (C.at_ "NoColumn") ["name"] [0] 1 [0] [] (cons3 (v3 1) nil3)) (cons4 (mkX4 (C.at_ "Twice") ["name"] [0] (cons3 (v3 0) nil3)) (cons4 (mkXK4 (C.at_ "Ring") ["name"] [0] 1 [0] [] (cons3 (v3 1) nil3)) nil4))))))) (name3 8)) (seq4 (asg4 (op4 addP (pu (v3 7)) (lc4 (iterP (v3 8)) (name3 9) yes3 (fldX4 [C.at_ "BadName",C.at_ "Taken",C.at_ "NoTable",C.at_ "NoColumn",C.at_ "Twice",C.at_ "Ring"] "name" (pu (v3 9))) [9])) (name3 7)) (seq4 (asg4 (op4 addP (pu (v3 7)) (lst4 (cons4 (fldX4 [C.at_ "BadText"] "at" (mkXK4 (C.at_ "BadText") ["at"] [0] 0 [0] [(.int 0)] nil3)) (cons4 (fldX4 [C.at_ "BadText"] "at" (mkX4 (C.at_ "BadText") ["at"] [0] (cons3 (v3 3) nil3))) (cons4 (fldX4 [C.at_ "BadText"] "at" (mkXK4 (C.at_ "BadText") ["at"] [0] 1 [0] [(.int 0)] (cons3 (op3 addP (v3 3) (k3 (.int 2))) nil3))) nil4))))) (name3 7)) (seq4 (asg4 (op4 addP (pu (v3 7)) (lst4 (cons4 (fldX4 [C.at_ "Overtaken"] "number" (mkXK4 (C.at_ "Overtaken") ["number"] [0] 0 [0] [(.int 0)] nil3)) (cons4 (fldX4 [C.at_ "Overtaken"] "number" (mkX4 (C.at_ "Overtaken") ["number"] [0] (cons3 (v3 3) nil3))) (cons4 (fldX4 [C.at_ "Overtaken"] "number" (mkXK4 (C.at_ "Overtaken") ["number"] [0] 1 [0] [(.int 0)] (cons3 (op3 addP (v3 3) (k3 (.int 3))) nil3))) nil4))))) (name3 7)) (ret4 (op4 addP (pu (v3 7)) (lst4 (cons4 (fldX4 [C.at_ "NoDealing"] "number" (mkX4 (C.at_ "NoDealing") ["number"] [0] (cons3 (v3 3) nil3))) (cons4 (fldX4 [C.at_ "NoDealing"] "number" (mkXK4 (C.at_ "NoDealing") ["number"] [0] 1 [0] [] (cons3 (op3 addP (v3 3) (k3 (.int 4))) nil3))) nil4)))))))))))))
def LbearD (C:Cs):F4:=fun ds M Q X=>LbearB C {nx:=fun _ M=>Q .non M,rt:=Q,xn:=fun _=>X} (start3 10 ds) M
theorem Lbear_ex (C:Cs):∃f:F4,f=LbearD C:=⟨_,rfl⟩
noncomputable def Lbear (C:Cs):F4:=Classical.choose (Lbear_ex C)
theorem Lbear_def (C:Cs):Lbear C=LbearD C:=Classical.choose_spec (Lbear_ex C)
def law_1 (C:Cs) (p:Addr) (ns:List Int):S4:=(asg4 (pu (k3 (.int 7))) (name3 1))
def law_2b_1 (C:Cs) (p:Addr) (ns:List Int):S4:=(asg4 (pu (op3 mod3 (op3 addP (op3 addP (op3 mulP (v3 1) (k3 (.int 48271))) (op3 mod3 (v3 2) (k3 (.int 1000003)))) (k3 (.int 11))) (k3 (.int 2147483647)))) (name3 1))
def law_2b (C:Cs) (p:Addr) (ns:List Int):S4:=(law_2b_1 C p ns)
def law_2 (C:Cs) (p:Addr) (ns:List Int):S4:=(for4 (iterP (scr3 p ns (v3 0) no3 (part3 (k3 (.int 63))))) (name3 2) (law_2b C p ns))
def law_3 (C:Cs) (p:Addr) (ns:List Int):S4:=(asg4 (pu (k3 (.str "abcdefghijklmnopqrstuvwxyz"))) (name3 3))
def law_4b_1 (C:Cs) (p:Addr) (ns:List Int):S4:=(asg4 (pu (op3 mod3 (op3 addP (op3 mulP (v3 1) (k3 (.int 48271))) (k3 (.int 11))) (k3 (.int 2147483647)))) (name3 1))
def law_4b_2 (C:Cs) (p:Addr) (ns:List Int):S4:=(asg4 (pu (op3 ixP (v3 3) (op3 mod3 (op3 fdivW3 (v3 1) (k3 (.int 7))) (k3 (.int 26))))) (name3 5))
def law_4b_3 (C:Cs) (p:Addr) (ns:List Int):S4:=(asg4 (pu (op3 addP (k3 (.str "row")) (op3 ixP (v3 3) (op3 mod3 (op3 fdivW3 (v3 1) (k3 (.int 401))) (k3 (.int 26)))))) (name3 6))
def law_4b_4 (C:Cs) (p:Addr) (ns:List Int):S4:=(asg4 (pu (op3 mod3 (op3 fdivW3 (v3 1) (k3 (.int 16))) (op3 ixP (lst3 (cons3 (k3 (.int 5)) (cons3 (op3 pow3 (k3 (.int 10)) (k3 (.int 9))) nil3))) (op3 mod3 (v3 4) (k3 (.int 2)))))) (name3 7))
def law_4b_5 (C:Cs) (p:Addr) (ns:List Int):S4:=(asg4 (pu (sl3 slP (tup3 (cons3 (v3 7) (cons3 (k3 .non) (cons3 (op3 sub3 (k3 (.int 0)) (v3 7)) nil3)))) no3 (part3 (op3 addP (k3 (.int 1)) (op3 mod3 (op3 fdivW3 (v3 1) (k3 (.int 4096))) (k3 (.int 3))))))) (name3 8))
def law_4b_6 (C:Cs) (p:Addr) (ns:List Int):S4:=(asg4 (pu (lst3 (cons3 (v3 5) (cons3 (v3 7) (cons3 (op3 addP (v3 7) (k3 (.int 1))) (cons3 (v3 6) (cons3 (v3 8) (cons3 (v3 5) (cons3 (v3 8) (cons3 (v3 5) (cons3 (v3 6) (cons3 (v3 5) (cons3 (v3 6) (cons3 (v3 5) (cons3 (v3 6) (cons3 (k3 (.int 0)) (cons3 (v3 7) (cons3 (op3 addP (v3 7) (k3 (.int 2))) (cons3 (k3 (.int 0)) (cons3 (v3 7) (cons3 (op3 addP (v3 7) (k3 (.int 3))) (cons3 (v3 7) (cons3 (op3 addP (v3 7) (k3 (.int 4))) nil3))))))))))))))))))))))) (name3 9))
def law_4b_7 (C:Cs) (p:Addr) (ns:List Int):S4:=(asg4 (mkXK4 (C.at_ "Tie") ["table","one","other"] [1,2] 3 [0,1,2] [] (cons3 (v3 5) (cons3 (v3 7) (cons3 (v3 7) nil3)))) (name3 10))
def law_4b_8 (C:Cs) (p:Addr) (ns:List Int):S4:=(asg4 (mkXK4 (C.at_ "Tie") ["table","one","other"] [1,2] 3 [0,1,2] [] (cons3 (v3 6) (cons3 (k3 (.int 0)) (cons3 (op3 addP (v3 7) (k3 (.int 9))) nil3)))) (name3 11))
def law_4b_9t_1 (C:Cs) (p:Addr) (ns:List Int):S4:=(ret4 (pu (k3 (.bl false))))
def law_4b_9 (C:Cs) (p:Addr) (ns:List Int):S4:=(ifs4 (tst4 (op4 neP (fn40 4 (Lbear C) (cons4 (pu (v3 5)) (cons4 (pu (v3 6)) (cons4 (pu (v3 8)) (cons4 (pu (v3 7)) nil4)))) []) (pu (v3 9)))) (law_4b_9t_1 C p ns) next4)
def law_4b_10t_1 (C:Cs) (p:Addr) (ns:List Int):S4:=(ret4 (pu (k3 (.bl false))))
def law_4b_10 (C:Cs) (p:Addr) (ns:List Int):S4:=(ifs4 (tst4 (op4 neP (lst4 (cons4 (fldX4 [C.at_ "Tie"] "table" (pu (v3 10))) (cons4 (fldX4 [C.at_ "Tie"] "other" (pu (v3 10))) (cons4 (fldX4 [C.at_ "Tie"] "table" (pu (v3 11))) (cons4 (fldX4 [C.at_ "Tie"] "other" (pu (v3 11))) nil4))))) (pu (lst3 (cons3 (v3 5) (cons3 (v3 7) (cons3 (v3 6) (cons3 (op3 addP (v3 7) (k3 (.int 9))) nil3)))))))) (law_4b_10t_1 C p ns) next4)
def law_4b_11 (C:Cs) (p:Addr) (ns:List Int):S4:=(asg4 (lst4 (cons4 (isX4 (C.at_ "Tie") (C.at_ "DeedError") true (pu (v3 10))) (cons4 (isX4 (C.at_ "Tie") (C.at_ "FormError") false (pu (v3 10))) (cons4 (isX4 (C.at_ "BadText") (C.at_ "FormError") true (mkXK4 (C.at_ "BadText") ["at"] [0] 0 [0] [(.int 0)] nil3)) nil4)))) (name3 12))
def law_4b_12t_1 (C:Cs) (p:Addr) (ns:List Int):S4:=(ret4 (pu (k3 (.bl false))))
def law_4b_12 (C:Cs) (p:Addr) (ns:List Int):S4:=(ifs4 (or4 (pu (tst3 (op3 neP (v3 12) (lst3 (cons3 (k3 (.bl true)) (cons3 (k3 (.bl false)) (cons3 (k3 (.bl true)) nil3))))))) (not4 (tst4 (isX4 (C.at_ "Tie") (C.at_ "PourError") true (pu (v3 11)))))) (law_4b_12t_1 C p ns) next4)
def law_4b (C:Cs) (p:Addr) (ns:List Int):S4:=(seq4 (law_4b_1 C p ns) (seq4 (law_4b_2 C p ns) (seq4 (law_4b_3 C p ns) (seq4 (law_4b_4 C p ns) (seq4 (law_4b_5 C p ns) (seq4 (law_4b_6 C p ns) (seq4 (law_4b_7 C p ns) (seq4 (law_4b_8 C p ns) (seq4 (law_4b_9 C p ns) (seq4 (law_4b_10 C p ns) (seq4 (law_4b_11 C p ns) (law_4b_12 C p ns))))))))))))
def law_4 (C:Cs) (p:Addr) (ns:List Int):S4:=(for4 (iterR3 (cons3 (k3 (.int 4)) nil3)) (name3 4) (law_4b C p ns))
def law_5 (C:Cs) (p:Addr) (ns:List Int):S4:=(ret4 (pu (k3 (.bl true))))
def lawB (C:Cs) (p:Addr) (ns:List Int):S4:=(seq4 (law_1 C p ns) (seq4 (law_2 C p ns) (seq4 (law_3 C p ns) (seq4 (law_4 C p ns) (law_5 C p ns)))))
def Plain (C:Cs):Prop:=∀(p:Addr) (ns:List Int),lawB C p ns {nx:=fun _ _=>False,rt:=fun d _=>d= .bl true} (Sl.val (.ref p)::List.replicate 12 Sl.no) (fun _=>none)
end Law
namespace Law
open PySem L2 M3
def top (i:Nat):Stmt:=PySem.Challenge.pw_onepour_k66_refusals_made_by_hand.main.body.getD i (.Pass ⟨0,0,0,0⟩)
abbrev s_Lbear:Stmt:=top 17
abbrev N_Lbear:List Str:=["_law_a","_law_b","_law_line","_law_n","_law_tie","_law_clash","_law_gone","_law_found","_law_names","_law_bad"]
theorem sc_Lbear:FnScope N_Lbear ["_law_a","_law_b","_law_line","_law_n"] (defScope s_Lbear):=⟨rfl,rfl,rfl,by decide +kernel,rfl,by decide +kernel,by decide +kernel⟩
abbrev s_law:Stmt:=top 18
abbrev N_law:List Str:=["_law_script","_law_seed","_law_cell","_law_letters","_law_turn","_law_a","_law_b","_law_n","_law_line","_law_due","_law_first","_law_second","_law_kinds"]
theorem sc_law:FnScope N_law ["_law_script"] (defScope s_law):=⟨rfl,rfl,rfl,by decide +kernel,rfl,by decide +kernel,by decide +kernel⟩
abbrev s_BadName_init:Stmt:=inClass (top 4) 0
abbrev N_BadName_init:List Str:=["self","name"]
theorem sc_BadName_init:FnScope N_BadName_init ["self","name"] (defScope s_BadName_init):=⟨rfl,rfl,rfl,by decide +kernel,rfl,by decide +kernel,by decide +kernel⟩
abbrev s_BadText_init:Stmt:=inClass (top 10) 0
abbrev N_BadText_init:List Str:=["self","at"]
theorem sc_BadText_init:FnScope N_BadText_init ["self","at"] (defScope s_BadText_init):=⟨rfl,rfl,rfl,by decide +kernel,rfl,by decide +kernel,by decide +kernel⟩
abbrev s_Clash_init:Stmt:=inClass (top 12) 0
abbrev N_Clash_init:List Str:=["self","table","cells"]
theorem sc_Clash_init:FnScope N_Clash_init ["self","table","cells"] (defScope s_Clash_init):=⟨rfl,rfl,rfl,by decide +kernel,rfl,by decide +kernel,by decide +kernel⟩
abbrev s_Lost_init:Stmt:=inClass (top 13) 0
abbrev N_Lost_init:List Str:=["self","table","row"]
theorem sc_Lost_init:FnScope N_Lost_init ["self","table","row"] (defScope s_Lost_init):=⟨rfl,rfl,rfl,by decide +kernel,rfl,by decide +kernel,by decide +kernel⟩
abbrev s_NoColumn_init:Stmt:=inClass (top 7) 0
abbrev N_NoColumn_init:List Str:=["self","name"]
theorem sc_NoColumn_init:FnScope N_NoColumn_init ["self","name"] (defScope s_NoColumn_init):=⟨rfl,rfl,rfl,by decide +kernel,rfl,by decide +kernel,by decide +kernel⟩
abbrev s_NoDealing_init:Stmt:=inClass (top 15) 0
abbrev N_NoDealing_init:List Str:=["self","number"]
theorem sc_NoDealing_init:FnScope N_NoDealing_init ["self","number"] (defScope s_NoDealing_init):=⟨rfl,rfl,rfl,by decide +kernel,rfl,by decide +kernel,by decide +kernel⟩
abbrev s_NoTable_init:Stmt:=inClass (top 6) 0
abbrev N_NoTable_init:List Str:=["self","name"]
theorem sc_NoTable_init:FnScope N_NoTable_init ["self","name"] (defScope s_NoTable_init):=⟨rfl,rfl,rfl,by decide +kernel,rfl,by decide +kernel,by decide +kernel⟩
abbrev s_Overtaken_init:Stmt:=inClass (top 14) 0
abbrev N_Overtaken_init:List Str:=["self","number"]
theorem sc_Overtaken_init:FnScope N_Overtaken_init ["self","number"] (defScope s_Overtaken_init):=⟨rfl,rfl,rfl,by decide +kernel,rfl,by decide +kernel,by decide +kernel⟩
abbrev s_Ring_init:Stmt:=inClass (top 9) 0
abbrev N_Ring_init:List Str:=["self","name"]
theorem sc_Ring_init:FnScope N_Ring_init ["self","name"] (defScope s_Ring_init):=⟨rfl,rfl,rfl,by decide +kernel,rfl,by decide +kernel,by decide +kernel⟩
abbrev s_Taken_init:Stmt:=inClass (top 5) 0
abbrev N_Taken_init:List Str:=["self","name"]
theorem sc_Taken_init:FnScope N_Taken_init ["self","name"] (defScope s_Taken_init):=⟨rfl,rfl,rfl,by decide +kernel,rfl,by decide +kernel,by decide +kernel⟩
abbrev s_Tie_init:Stmt:=inClass (top 11) 0
abbrev N_Tie_init:List Str:=["self","table","one","other"]
theorem sc_Tie_init:FnScope N_Tie_init ["self","table","one","other"] (defScope s_Tie_init):=⟨rfl,rfl,rfl,by decide +kernel,rfl,by decide +kernel,by decide +kernel⟩
abbrev s_Twice_init:Stmt:=inClass (top 8) 0
abbrev N_Twice_init:List Str:=["self","name"]
theorem sc_Twice_init:FnScope N_Twice_init ["self","name"] (defScope s_Twice_init):=⟨rfl,rfl,rfl,by decide +kernel,rfl,by decide +kernel,by decide +kernel⟩
structure Top (w:World) (K:PySem.W.Frag) (mg:Str→Option Value):Prop where
 d_Lbear:DefAt K mg "_law_bear" "_law_bear" s_Lbear [] [] []
 zb_isinstance:mg "isinstance"=none
 zb_range:mg "range"=none
 v_DeedError:VeiC w K mg "DeedError"
 v_FormError:VeiC w K mg "FormError"
 d_BadName_init:MethAt K ((csOf w K mg).at_ "BadName") "__init__" "__init__" "BadName.__init__" s_BadName_init [] [] []
 yk_BadName:XClsK w K mg "BadName" ["name"]
 d_BadText_init:MethAt K ((csOf w K mg).at_ "BadText") "__init__" "__init__" "BadText.__init__" s_BadText_init [(.int 0)] [] []
 yk_BadText:XClsK w K mg "BadText" ["at"]
 d_NoColumn_init:MethAt K ((csOf w K mg).at_ "NoColumn") "__init__" "__init__" "NoColumn.__init__" s_NoColumn_init [] [] []
 yk_NoColumn:XClsK w K mg "NoColumn" ["name"]
 d_NoDealing_init:MethAt K ((csOf w K mg).at_ "NoDealing") "__init__" "__init__" "NoDealing.__init__" s_NoDealing_init [] [] []
 yk_NoDealing:XClsK w K mg "NoDealing" ["number"]
 d_NoTable_init:MethAt K ((csOf w K mg).at_ "NoTable") "__init__" "__init__" "NoTable.__init__" s_NoTable_init [] [] []
 yk_NoTable:XClsK w K mg "NoTable" ["name"]
 d_Overtaken_init:MethAt K ((csOf w K mg).at_ "Overtaken") "__init__" "__init__" "Overtaken.__init__" s_Overtaken_init [(.int 0)] [] []
 yk_Overtaken:XClsK w K mg "Overtaken" ["number"]
 d_Ring_init:MethAt K ((csOf w K mg).at_ "Ring") "__init__" "__init__" "Ring.__init__" s_Ring_init [] [] []
 yk_Ring:XClsK w K mg "Ring" ["name"]
 d_Taken_init:MethAt K ((csOf w K mg).at_ "Taken") "__init__" "__init__" "Taken.__init__" s_Taken_init [] [] []
 yk_Taken:XClsK w K mg "Taken" ["name"]
 d_Twice_init:MethAt K ((csOf w K mg).at_ "Twice") "__init__" "__init__" "Twice.__init__" s_Twice_init [] [] []
 yk_Twice:XClsK w K mg "Twice" ["name"]
 d_Clash_init:MethAt K ((csOf w K mg).at_ "Clash") "__init__" "__init__" "Clash.__init__" s_Clash_init [] [] []
 yk_Clash:XClsK w K mg "Clash" ["table","cells"]
 d_Lost_init:MethAt K ((csOf w K mg).at_ "Lost") "__init__" "__init__" "Lost.__init__" s_Lost_init [] [] []
 yk_Lost:XClsK w K mg "Lost" ["table","row"]
 d_Tie_init:MethAt K ((csOf w K mg).at_ "Tie") "__init__" "__init__" "Tie.__init__" s_Tie_init [] [] []
 yk_Tie:XClsK w K mg "Tie" ["table","one","other"]
 hx_BadName:L2.ExcC K ((csOf w K mg).at_ "BadName")
 hx_BadText:L2.ExcC K ((csOf w K mg).at_ "BadText")
 hx_Clash:L2.ExcC K ((csOf w K mg).at_ "Clash")
 hx_Lost:L2.ExcC K ((csOf w K mg).at_ "Lost")
 hx_NoColumn:L2.ExcC K ((csOf w K mg).at_ "NoColumn")
 hx_NoDealing:L2.ExcC K ((csOf w K mg).at_ "NoDealing")
 hx_NoTable:L2.ExcC K ((csOf w K mg).at_ "NoTable")
 hx_Overtaken:L2.ExcC K ((csOf w K mg).at_ "Overtaken")
 hx_Ring:L2.ExcC K ((csOf w K mg).at_ "Ring")
 hx_Taken:L2.ExcC K ((csOf w K mg).at_ "Taken")
 hx_Tie:L2.ExcC K ((csOf w K mg).at_ "Tie")
 hx_Twice:L2.ExcC K ((csOf w K mg).at_ "Twice")
 hg_DeedError:mg "DeedError"=some (.ref ((csOf w K mg).at_ "DeedError"))
 hg_FormError:mg "FormError"=some (.ref ((csOf w K mg).at_ "FormError"))
 hg_PourError:mg "PourError"=some (.ref ((csOf w K mg).at_ "PourError"))
 hk_BadText_FormError:PySem.W.kitOne K (.ref ((csOf w K mg).at_ "BadText")) (.ref ((csOf w K mg).at_ "FormError"))=some true
 hk_Tie_DeedError:PySem.W.kitOne K (.ref ((csOf w K mg).at_ "Tie")) (.ref ((csOf w K mg).at_ "DeedError"))=some true
 hk_Tie_FormError:PySem.W.kitOne K (.ref ((csOf w K mg).at_ "Tie")) (.ref ((csOf w K mg).at_ "FormError"))=some false
 hk_Tie_PourError:PySem.W.kitOne K (.ref ((csOf w K mg).at_ "Tie")) (.ref ((csOf w K mg).at_ "PourError"))=some true
section
variable {P:Program} {w:World} {K:PySem.W.Frag} {mg:Str→Option Value}
theorem ok_BadName_in (T:Top w K mg) (base:Heap):InX P w K mg base 1 ((csOf w K mg).at_ "BadName") "__init__" "BadName.__init__" s_BadName_init ["self","name"] ["name"] [0] []:=inX_of T.d_BadName_init (fun fI fd dvs F=>F.ok sc_BadName_init (spXK_len rfl) (fun cdv A outer s H vs Q E hr h=>
 ⟨_,pss_cons (ps_expr (pe_cinit (K:=K) rfl rfl T.v_FormError (by rfl) (pa_cons (pv 0) (pa_cons (pe_joined (.cons pe_str (.cons (pe_fmt (pv 1)) .nil))) pa_nil)) (by decide))) (pss_one (ps_ostK (K:=K) rfl (pv 0) (pv 1))),bodyXK1 rfl (by decide) T.yk_BadName.oex (T.yk_BadName.no _ (by simp)) h⟩))
theorem ok_BadText_in (T:Top w K mg) (base:Heap):InX P w K mg base 1 ((csOf w K mg).at_ "BadText") "__init__" "BadText.__init__" s_BadText_init ["self","at"] ["at"] [0] [(.int 0)]:=inX_of T.d_BadText_init (fun fI fd dvs F=>F.ok sc_BadText_init (spXK_len rfl) (fun cdv A outer s H vs Q E hr h=>
 ⟨_,pss_cons (ps_expr (pe_cinit (K:=K) rfl rfl T.v_FormError (by rfl) (pa_cons (pv 0) (pa_cons (pe_joined (.cons pe_str (.cons (pe_fmt (pv 1)) .nil))) pa_nil)) (by decide))) (pss_one (ps_ostK (K:=K) rfl (pv 0) (pv 1))),bodyXK1 rfl (by decide) T.yk_BadText.oex (T.yk_BadText.no _ (by simp)) h⟩))
theorem ok_Clash_in (T:Top w K mg) (base:Heap):InX P w K mg base 1 ((csOf w K mg).at_ "Clash") "__init__" "Clash.__init__" s_Clash_init ["self","table","cells"] ["table","cells"] [0] []:=inX_of T.d_Clash_init (fun fI fd dvs F=>F.ok sc_Clash_init (spXK_len rfl) (fun cdv A outer s H vs Q E hr h=>
 ⟨_,pss_cons (ps_expr (pe_cinit (K:=K) rfl rfl T.v_DeedError (by rfl) (pa_cons (pv 0) (pa_cons (pe_joined (.cons pe_str (.cons (pe_fmt (pv 1)) .nil))) pa_nil)) (by decide))) (pss_cons (ps_ostK (K:=K) rfl (pv 0) (pv 1)) (pss_one (ps_ostK (K:=K) rfl (pv 0) (pv 2)))),bodyXK2 rfl (by decide) T.yk_Clash.oex (T.yk_Clash.no _ (by simp)) (T.yk_Clash.no _ (by simp)) h⟩))
theorem ok_Lost_in (T:Top w K mg) (base:Heap):InX P w K mg base 1 ((csOf w K mg).at_ "Lost") "__init__" "Lost.__init__" s_Lost_init ["self","table","row"] ["table","row"] [0] []:=inX_of T.d_Lost_init (fun fI fd dvs F=>F.ok sc_Lost_init (spXK_len rfl) (fun cdv A outer s H vs Q E hr h=>
 ⟨_,pss_cons (ps_expr (pe_cinit (K:=K) rfl rfl T.v_DeedError (by rfl) (pa_cons (pv 0) (pa_cons (pe_joined (.cons pe_str (.cons (pe_fmt (pv 1)) .nil))) pa_nil)) (by decide))) (pss_cons (ps_ostK (K:=K) rfl (pv 0) (pv 1)) (pss_one (ps_ostK (K:=K) rfl (pv 0) (pv 2)))),bodyXK2 rfl (by decide) T.yk_Lost.oex (T.yk_Lost.no _ (by simp)) (T.yk_Lost.no _ (by simp)) h⟩))
theorem ok_NoColumn_in (T:Top w K mg) (base:Heap):InX P w K mg base 1 ((csOf w K mg).at_ "NoColumn") "__init__" "NoColumn.__init__" s_NoColumn_init ["self","name"] ["name"] [0] []:=inX_of T.d_NoColumn_init (fun fI fd dvs F=>F.ok sc_NoColumn_init (spXK_len rfl) (fun cdv A outer s H vs Q E hr h=>
 ⟨_,pss_cons (ps_expr (pe_cinit (K:=K) rfl rfl T.v_FormError (by rfl) (pa_cons (pv 0) (pa_cons (pe_joined (.cons pe_str (.cons (pe_fmt (pv 1)) .nil))) pa_nil)) (by decide))) (pss_one (ps_ostK (K:=K) rfl (pv 0) (pv 1))),bodyXK1 rfl (by decide) T.yk_NoColumn.oex (T.yk_NoColumn.no _ (by simp)) h⟩))
theorem ok_NoDealing_in (T:Top w K mg) (base:Heap):InX P w K mg base 1 ((csOf w K mg).at_ "NoDealing") "__init__" "NoDealing.__init__" s_NoDealing_init ["self","number"] ["number"] [0] []:=inX_of T.d_NoDealing_init (fun fI fd dvs F=>F.ok sc_NoDealing_init (spXK_len rfl) (fun cdv A outer s H vs Q E hr h=>
 ⟨_,pss_cons (ps_expr (pe_cinit (K:=K) rfl rfl T.v_DeedError (by rfl) (pa_cons (pv 0) (pa_cons (pe_joined (.cons pe_str (.cons (pe_fmt (pv 1)) .nil))) pa_nil)) (by decide))) (pss_one (ps_ostK (K:=K) rfl (pv 0) (pv 1))),bodyXK1 rfl (by decide) T.yk_NoDealing.oex (T.yk_NoDealing.no _ (by simp)) h⟩))
theorem ok_NoTable_in (T:Top w K mg) (base:Heap):InX P w K mg base 1 ((csOf w K mg).at_ "NoTable") "__init__" "NoTable.__init__" s_NoTable_init ["self","name"] ["name"] [0] []:=inX_of T.d_NoTable_init (fun fI fd dvs F=>F.ok sc_NoTable_init (spXK_len rfl) (fun cdv A outer s H vs Q E hr h=>
 ⟨_,pss_cons (ps_expr (pe_cinit (K:=K) rfl rfl T.v_FormError (by rfl) (pa_cons (pv 0) (pa_cons (pe_joined (.cons pe_str (.cons (pe_fmt (pv 1)) .nil))) pa_nil)) (by decide))) (pss_one (ps_ostK (K:=K) rfl (pv 0) (pv 1))),bodyXK1 rfl (by decide) T.yk_NoTable.oex (T.yk_NoTable.no _ (by simp)) h⟩))
theorem ok_Overtaken_in (T:Top w K mg) (base:Heap):InX P w K mg base 1 ((csOf w K mg).at_ "Overtaken") "__init__" "Overtaken.__init__" s_Overtaken_init ["self","number"] ["number"] [0] [(.int 0)]:=inX_of T.d_Overtaken_init (fun fI fd dvs F=>F.ok sc_Overtaken_init (spXK_len rfl) (fun cdv A outer s H vs Q E hr h=>
 ⟨_,pss_cons (ps_expr (pe_cinit (K:=K) rfl rfl T.v_DeedError (by rfl) (pa_cons (pv 0) (pa_cons (pe_joined (.cons pe_str (.cons (pe_fmt (pv 1)) .nil))) pa_nil)) (by decide))) (pss_one (ps_ostK (K:=K) rfl (pv 0) (pv 1))),bodyXK1 rfl (by decide) T.yk_Overtaken.oex (T.yk_Overtaken.no _ (by simp)) h⟩))
theorem ok_Ring_in (T:Top w K mg) (base:Heap):InX P w K mg base 1 ((csOf w K mg).at_ "Ring") "__init__" "Ring.__init__" s_Ring_init ["self","name"] ["name"] [0] []:=inX_of T.d_Ring_init (fun fI fd dvs F=>F.ok sc_Ring_init (spXK_len rfl) (fun cdv A outer s H vs Q E hr h=>
 ⟨_,pss_cons (ps_expr (pe_cinit (K:=K) rfl rfl T.v_FormError (by rfl) (pa_cons (pv 0) (pa_cons (pe_joined (.cons pe_str (.cons (pe_fmt (pv 1)) .nil))) pa_nil)) (by decide))) (pss_one (ps_ostK (K:=K) rfl (pv 0) (pv 1))),bodyXK1 rfl (by decide) T.yk_Ring.oex (T.yk_Ring.no _ (by simp)) h⟩))
theorem ok_Taken_in (T:Top w K mg) (base:Heap):InX P w K mg base 1 ((csOf w K mg).at_ "Taken") "__init__" "Taken.__init__" s_Taken_init ["self","name"] ["name"] [0] []:=inX_of T.d_Taken_init (fun fI fd dvs F=>F.ok sc_Taken_init (spXK_len rfl) (fun cdv A outer s H vs Q E hr h=>
 ⟨_,pss_cons (ps_expr (pe_cinit (K:=K) rfl rfl T.v_FormError (by rfl) (pa_cons (pv 0) (pa_cons (pe_joined (.cons pe_str (.cons (pe_fmt (pv 1)) .nil))) pa_nil)) (by decide))) (pss_one (ps_ostK (K:=K) rfl (pv 0) (pv 1))),bodyXK1 rfl (by decide) T.yk_Taken.oex (T.yk_Taken.no _ (by simp)) h⟩))
theorem ok_Tie_in (T:Top w K mg) (base:Heap):InX P w K mg base 1 ((csOf w K mg).at_ "Tie") "__init__" "Tie.__init__" s_Tie_init ["self","table","one","other"] ["table","one","other"] [1,2] []:=inX_of T.d_Tie_init (fun fI fd dvs F=>F.ok sc_Tie_init (spXK_len rfl) (fun cdv A outer s H vs Q E hr h=>
 ⟨_,pss_cons (ps_expr (pe_cinit (K:=K) rfl rfl T.v_DeedError (by rfl) (pa_cons (pv 0) (pa_cons (pe_joined (.cons pe_str (.cons (pe_fmt (pv 2)) (.cons pe_str (.cons (pe_fmt (pv 3)) .nil))))) pa_nil)) (by decide))) (pss_cons (ps_ostK (K:=K) rfl (pv 0) (pv 1)) (pss_cons (ps_ostK (K:=K) rfl (pv 0) (pv 2)) (pss_one (ps_ostK (K:=K) rfl (pv 0) (pv 3))))),bodyXK3 rfl (by decide) (by decide) T.yk_Tie.oex (T.yk_Tie.no _ (by simp)) (T.yk_Tie.no _ (by simp)) (T.yk_Tie.no _ (by simp)) h⟩))
theorem ok_Twice_in (T:Top w K mg) (base:Heap):InX P w K mg base 1 ((csOf w K mg).at_ "Twice") "__init__" "Twice.__init__" s_Twice_init ["self","name"] ["name"] [0] []:=inX_of T.d_Twice_init (fun fI fd dvs F=>F.ok sc_Twice_init (spXK_len rfl) (fun cdv A outer s H vs Q E hr h=>
 ⟨_,pss_cons (ps_expr (pe_cinit (K:=K) rfl rfl T.v_FormError (by rfl) (pa_cons (pv 0) (pa_cons (pe_joined (.cons pe_str (.cons (pe_fmt (pv 1)) .nil))) pa_nil)) (by decide))) (pss_one (ps_ostK (K:=K) rfl (pv 0) (pv 1))),bodyXK1 rfl (by decide) T.yk_Twice.oex (T.yk_Twice.no _ (by simp)) h⟩))
theorem ok_Lbear (T:Top w K mg) (base:Heap):OkF P w K mg base (L2.CX P w) "_law_bear" "_law_bear" s_Lbear [] [] [] 3 ["_law_a","_law_b","_law_line","_law_n"] (sp4 K 4 (Lbear (csOf w K mg))):=by
 have v_BadName_V:=(ok_BadName_in T base (P:=P) (w:=w)).va (fun fI fd dvs hl F=>by cases dvs with | nil=>exact F.bindsN fun _ _ _ _ _ _ us hl=>(match us,hl with | [_,_],_=>rfl) | cons a b=>cases hl)
 have v_BadText_V:=(ok_BadText_in T base (P:=P) (w:=w)).va (fun fI fd dvs hl F=>by obtain ⟨ds,v,B⟩:=F.binds1 (ps:=["self","at"]) 2 1 (by intro z;rw [z] at hl;cases hl) (by rw [hl];rfl) (fun _ _ _ _ _ _ _ us its h1 h2=>match us,its,h1,h2.trans hl with | [_,_],[_],_,_=>⟨_,rfl,rfl⟩);rw [List.drop_eq_nil_of_le (by rw [hl];exact Nat.le_refl _)] at v;cases v;exact B)
 have v_NoDealing_V:=(ok_NoDealing_in T base (P:=P) (w:=w)).va (fun fI fd dvs hl F=>by cases dvs with | nil=>exact F.bindsN fun _ _ _ _ _ _ us hl=>(match us,hl with | [_,_],_=>rfl) | cons a b=>cases hl)
 have v_NoTable_V:=(ok_NoTable_in T base (P:=P) (w:=w)).va (fun fI fd dvs hl F=>by cases dvs with | nil=>exact F.bindsN fun _ _ _ _ _ _ us hl=>(match us,hl with | [_,_],_=>rfl) | cons a b=>cases hl)
 have v_Overtaken_V:=(ok_Overtaken_in T base (P:=P) (w:=w)).va (fun fI fd dvs hl F=>by obtain ⟨ds,v,B⟩:=F.binds1 (ps:=["self","number"]) 2 1 (by intro z;rw [z] at hl;cases hl) (by rw [hl];rfl) (fun _ _ _ _ _ _ _ us its h1 h2=>match us,its,h1,h2.trans hl with | [_,_],[_],_,_=>⟨_,rfl,rfl⟩);rw [List.drop_eq_nil_of_le (by rw [hl];exact Nat.le_refl _)] at v;cases v;exact B)
 have v_Twice_V:=(ok_Twice_in T base (P:=P) (w:=w)).va (fun fI fd dvs hl F=>by cases dvs with | nil=>exact F.bindsN fun _ _ _ _ _ _ us hl=>(match us,hl with | [_,_],_=>rfl) | cons a b=>cases hl)
 obtain ⟨w_BadText_K,h_BadText_K,c_BadText_K⟩:=((ok_BadText_in T base (P:=P) (w:=w)).kwD (by simp) [] [0] (fun _ _ _ _ _ _ _ us its ws h1 h2 h3=>match us,its,ws,h1,h2,h3 with | [_],[_],[],_,_,_=>⟨_,rfl,rfl⟩)).ex
 obtain ⟨w_BadText_at_K,h_BadText_at_K,c_BadText_at_K⟩:=((ok_BadText_in T base (P:=P) (w:=w)).kwD (by simp) ["at"] [0] (fun _ _ _ _ _ _ _ us its ws h1 h2 h3=>match us,its,ws,h1,h2,h3 with | [_],[_],[_],_,_,_=>⟨_,rfl,rfl⟩)).ex
 obtain ⟨w_Clash_cells_table_K,h_Clash_cells_table_K,c_Clash_cells_table_K⟩:=((ok_Clash_in T base (P:=P) (w:=w)).kw0 ["cells","table"] [1,0] (fun _ _ _ _ _ _ us ws h1 h2=>match us,ws,h1,h2 with | [_],[_,_],_,_=>rfl)).ex
 obtain ⟨w_Lost_row_table_K,h_Lost_row_table_K,c_Lost_row_table_K⟩:=((ok_Lost_in T base (P:=P) (w:=w)).kw0 ["row","table"] [1,0] (fun _ _ _ _ _ _ us ws h1 h2=>match us,ws,h1,h2 with | [_],[_,_],_,_=>rfl)).ex
 obtain ⟨w_NoColumn_name_K,h_NoColumn_name_K,c_NoColumn_name_K⟩:=((ok_NoColumn_in T base (P:=P) (w:=w)).kw0 ["name"] [0] (fun _ _ _ _ _ _ us ws h1 h2=>match us,ws,h1,h2 with | [_],[_],_,_=>rfl)).ex
 obtain ⟨w_NoDealing_number_K,h_NoDealing_number_K,c_NoDealing_number_K⟩:=((ok_NoDealing_in T base (P:=P) (w:=w)).kw0 ["number"] [0] (fun _ _ _ _ _ _ us ws h1 h2=>match us,ws,h1,h2 with | [_],[_],_,_=>rfl)).ex
 obtain ⟨w_Overtaken_K,h_Overtaken_K,c_Overtaken_K⟩:=((ok_Overtaken_in T base (P:=P) (w:=w)).kwD (by simp) [] [0] (fun _ _ _ _ _ _ _ us its ws h1 h2 h3=>match us,its,ws,h1,h2,h3 with | [_],[_],[],_,_,_=>⟨_,rfl,rfl⟩)).ex
 obtain ⟨w_Overtaken_number_K,h_Overtaken_number_K,c_Overtaken_number_K⟩:=((ok_Overtaken_in T base (P:=P) (w:=w)).kwD (by simp) ["number"] [0] (fun _ _ _ _ _ _ _ us its ws h1 h2 h3=>match us,its,ws,h1,h2,h3 with | [_],[_],[_],_,_,_=>⟨_,rfl,rfl⟩)).ex
 obtain ⟨w_Ring_name_K,h_Ring_name_K,c_Ring_name_K⟩:=((ok_Ring_in T base (P:=P) (w:=w)).kw0 ["name"] [0] (fun _ _ _ _ _ _ us ws h1 h2=>match us,ws,h1,h2 with | [_],[_],_,_=>rfl)).ex
 obtain ⟨w_Taken_name_K,h_Taken_name_K,c_Taken_name_K⟩:=((ok_Taken_in T base (P:=P) (w:=w)).kw0 ["name"] [0] (fun _ _ _ _ _ _ us ws h1 h2=>match us,ws,h1,h2 with | [_],[_],_,_=>rfl)).ex
 obtain ⟨w_Tie_other_table_one_K,h_Tie_other_table_one_K,c_Tie_other_table_one_K⟩:=((ok_Tie_in T base (P:=P) (w:=w)).kw0 ["other","table","one"] [1,2,0] (fun _ _ _ _ _ _ us ws h1 h2=>match us,ws,h1,h2 with | [_],[_,_,_],_,_=>rfl)).ex
 obtain ⟨f,fd,dvs,kvs,rd,rk,F,hm⟩:=T.d_Lbear.ex
 refine ⟨f,fd,dvs,kvs,rd,rk,F,hm,F.ok sc_Lbear (sp4_len rfl) (fun cdv A outer s H vs Q E hr h=> ?_)⟩
 refine ⟨_,(pss_cons (ps_set (i:=4) sc_Lbear.nd rfl (Or.inl rfl) (pe_hK c_Tie_other_table_one_K T.yk_Tie rfl rfl rfl rfl rfl (hr.mono (by omega)) (by rfl) (pk_cons (pe_op (op_addP (K:=K) rfl) (pv 3) pe_int) (pk_cons (pv 0) (pk_cons (pv 3) pk_nil)))))
  (pss_cons (ps_set (i:=5) sc_Lbear.nd rfl (Or.inl rfl) (pe_hK c_Clash_cells_table_K T.yk_Clash rfl rfl rfl rfl rfl (hr.mono (by omega)) (by rfl) (pk_cons (pv 2) (pk_cons (pv 1) pk_nil))))
  (pss_cons (ps_set (i:=6) sc_Lbear.nd rfl (Or.inl rfl) (pe_hK c_Lost_row_table_K T.yk_Lost rfl rfl rfl rfl rfl (hr.mono (by omega)) (by rfl) (pk_cons (pv 2) (pk_cons (pv 0) pk_nil))))
  (pss_cons (ps_set (i:=7) sc_Lbear.nd rfl (Or.inl rfl) (pe_lst (pa_cons (pe_xfVK (K:=K) (cl:=[(csOf w K mg).at_ "Tie"]) rfl (fun C hC=>by simp only [List.mem_cons,List.not_mem_nil,or_false] at hC;rcases hC with rfl;exact ⟨⟨T.hx_Tie.hg,T.hx_Tie.hk,T.hx_Tie.hs,T.hx_Tie.hd⟩,T.yk_Tie.no _ (by simp)⟩) (pv 4)) (pa_cons (pe_xfVK (K:=K) (cl:=[(csOf w K mg).at_ "Tie"]) rfl (fun C hC=>by simp only [List.mem_cons,List.not_mem_nil,or_false] at hC;rcases hC with rfl;exact ⟨⟨T.hx_Tie.hg,T.hx_Tie.hk,T.hx_Tie.hs,T.hx_Tie.hd⟩,T.yk_Tie.no _ (by simp)⟩) (pv 4)) (pa_cons (pe_xfVK (K:=K) (cl:=[(csOf w K mg).at_ "Tie"]) rfl (fun C hC=>by simp only [List.mem_cons,List.not_mem_nil,or_false] at hC;rcases hC with rfl;exact ⟨⟨T.hx_Tie.hg,T.hx_Tie.hk,T.hx_Tie.hs,T.hx_Tie.hd⟩,T.yk_Tie.no _ (by simp)⟩) (pv 4)) (pa_cons (pe_xfVK (K:=K) (cl:=[(csOf w K mg).at_ "Clash"]) rfl (fun C hC=>by simp only [List.mem_cons,List.not_mem_nil,or_false] at hC;rcases hC with rfl;exact ⟨⟨T.hx_Clash.hg,T.hx_Clash.hk,T.hx_Clash.hs,T.hx_Clash.hd⟩,T.yk_Clash.no _ (by simp)⟩) (pv 5)) (pa_cons (pe_xfVK (K:=K) (cl:=[(csOf w K mg).at_ "Clash"]) rfl (fun C hC=>by simp only [List.mem_cons,List.not_mem_nil,or_false] at hC;rcases hC with rfl;exact ⟨⟨T.hx_Clash.hg,T.hx_Clash.hk,T.hx_Clash.hs,T.hx_Clash.hd⟩,T.yk_Clash.no _ (by simp)⟩) (pv 5)) (pa_cons (pe_xfVK (K:=K) (cl:=[(csOf w K mg).at_ "Lost"]) rfl (fun C hC=>by simp only [List.mem_cons,List.not_mem_nil,or_false] at hC;rcases hC with rfl;exact ⟨⟨T.hx_Lost.hg,T.hx_Lost.hk,T.hx_Lost.hs,T.hx_Lost.hd⟩,T.yk_Lost.no _ (by simp)⟩) (pv 6)) (pa_cons (pe_xfVK (K:=K) (cl:=[(csOf w K mg).at_ "Lost"]) rfl (fun C hC=>by simp only [List.mem_cons,List.not_mem_nil,or_false] at hC;rcases hC with rfl;exact ⟨⟨T.hx_Lost.hg,T.hx_Lost.hk,T.hx_Lost.hs,T.hx_Lost.hd⟩,T.yk_Lost.no _ (by simp)⟩) (pv 6)) pa_nil)))))))))
  (pss_cons (ps_set (i:=8) sc_Lbear.nd rfl (Or.inl rfl) (pe_lst (pa_cons (pe_hV v_BadName_V T.yk_BadName rfl rfl rfl rfl rfl (hr.mono (by omega)) (by rfl) (pa_cons (pv 0) pa_nil)) (pa_cons (pe_hK c_Taken_name_K T.yk_Taken rfl rfl rfl rfl rfl (hr.mono (by omega)) (by rfl) (pk_cons (pv 1) pk_nil)) (pa_cons (pe_hV v_NoTable_V T.yk_NoTable rfl rfl rfl rfl rfl (hr.mono (by omega)) (by rfl) (pa_cons (pv 0) pa_nil)) (pa_cons (pe_hK c_NoColumn_name_K T.yk_NoColumn rfl rfl rfl rfl rfl (hr.mono (by omega)) (by rfl) (pk_cons (pv 1) pk_nil)) (pa_cons (pe_hV v_Twice_V T.yk_Twice rfl rfl rfl rfl rfl (hr.mono (by omega)) (by rfl) (pa_cons (pv 0) pa_nil)) (pa_cons (pe_hK c_Ring_name_K T.yk_Ring rfl rfl rfl rfl rfl (hr.mono (by omega)) (by rfl) (pk_cons (pv 1) pk_nil)) pa_nil))))))))
  (pss_cons (ps_set (i:=7) sc_Lbear.nd rfl (Or.inl rfl) (pe_op (op_addP (K:=K) rfl) (pv 7) (pe_lc (own:=[("_law_bad",9)]) (g:=(gName 9)) (by rfl) sc_Lbear.nd (pi_P (K:=K) rfl (pv 8)) (blkOk_by (own:=[("_law_bad",9)]) (N:=N_Lbear) (sc:=defScope s_Lbear) (by decide +kernel)) (fun _ _ _ _ _=>(pg_name (i:=9) sc_Lbear.nd rfl (Or.inl rfl) (Or.inr rfl))) (fun _ _ _ _ _=>pts_nil) (fun _ _ _ _ _=>(pe_xfVK (K:=K) (cl:=[(csOf w K mg).at_ "BadName",(csOf w K mg).at_ "Taken",(csOf w K mg).at_ "NoTable",(csOf w K mg).at_ "NoColumn",(csOf w K mg).at_ "Twice",(csOf w K mg).at_ "Ring"]) rfl (fun C hC=>by simp only [List.mem_cons,List.not_mem_nil,or_false] at hC;rcases hC with rfl | rfl | rfl | rfl | rfl | rfl;exact ⟨⟨T.hx_BadName.hg,T.hx_BadName.hk,T.hx_BadName.hs,T.hx_BadName.hd⟩,T.yk_BadName.no _ (by simp)⟩;exact ⟨⟨T.hx_Taken.hg,T.hx_Taken.hk,T.hx_Taken.hs,T.hx_Taken.hd⟩,T.yk_Taken.no _ (by simp)⟩;exact ⟨⟨T.hx_NoTable.hg,T.hx_NoTable.hk,T.hx_NoTable.hs,T.hx_NoTable.hd⟩,T.yk_NoTable.no _ (by simp)⟩;exact ⟨⟨T.hx_NoColumn.hg,T.hx_NoColumn.hk,T.hx_NoColumn.hs,T.hx_NoColumn.hd⟩,T.yk_NoColumn.no _ (by simp)⟩;exact ⟨⟨T.hx_Twice.hg,T.hx_Twice.hk,T.hx_Twice.hs,T.hx_Twice.hd⟩,T.yk_Twice.no _ (by simp)⟩;exact ⟨⟨T.hx_Ring.hg,T.hx_Ring.hk,T.hx_Ring.hs,T.hx_Ring.hd⟩,T.yk_Ring.no _ (by simp)⟩) (pv 9))))))
  (pss_cons (ps_set (i:=7) sc_Lbear.nd rfl (Or.inl rfl) (pe_op (op_addP (K:=K) rfl) (pv 7) (pe_lst (pa_cons (pe_xfVK (K:=K) (cl:=[(csOf w K mg).at_ "BadText"]) rfl (fun C hC=>by simp only [List.mem_cons,List.not_mem_nil,or_false] at hC;rcases hC with rfl;exact ⟨⟨T.hx_BadText.hg,T.hx_BadText.hk,T.hx_BadText.hs,T.hx_BadText.hd⟩,T.yk_BadText.no _ (by simp)⟩) (pe_hK c_BadText_K T.yk_BadText rfl rfl rfl rfl rfl (hr.mono (by omega)) (by rfl) pk_nil)) (pa_cons (pe_xfVK (K:=K) (cl:=[(csOf w K mg).at_ "BadText"]) rfl (fun C hC=>by simp only [List.mem_cons,List.not_mem_nil,or_false] at hC;rcases hC with rfl;exact ⟨⟨T.hx_BadText.hg,T.hx_BadText.hk,T.hx_BadText.hs,T.hx_BadText.hd⟩,T.yk_BadText.no _ (by simp)⟩) (pe_hV v_BadText_V T.yk_BadText rfl rfl rfl rfl rfl (hr.mono (by omega)) (by rfl) (pa_cons (pv 3) pa_nil))) (pa_cons (pe_xfVK (K:=K) (cl:=[(csOf w K mg).at_ "BadText"]) rfl (fun C hC=>by simp only [List.mem_cons,List.not_mem_nil,or_false] at hC;rcases hC with rfl;exact ⟨⟨T.hx_BadText.hg,T.hx_BadText.hk,T.hx_BadText.hs,T.hx_BadText.hd⟩,T.yk_BadText.no _ (by simp)⟩) (pe_hK c_BadText_at_K T.yk_BadText rfl rfl rfl rfl rfl (hr.mono (by omega)) (by rfl) (pk_cons (pe_op (op_addP (K:=K) rfl) (pv 3) pe_int) pk_nil))) pa_nil))))))
  (pss_cons (ps_set (i:=7) sc_Lbear.nd rfl (Or.inl rfl) (pe_op (op_addP (K:=K) rfl) (pv 7) (pe_lst (pa_cons (pe_xfVK (K:=K) (cl:=[(csOf w K mg).at_ "Overtaken"]) rfl (fun C hC=>by simp only [List.mem_cons,List.not_mem_nil,or_false] at hC;rcases hC with rfl;exact ⟨⟨T.hx_Overtaken.hg,T.hx_Overtaken.hk,T.hx_Overtaken.hs,T.hx_Overtaken.hd⟩,T.yk_Overtaken.no _ (by simp)⟩) (pe_hK c_Overtaken_K T.yk_Overtaken rfl rfl rfl rfl rfl (hr.mono (by omega)) (by rfl) pk_nil)) (pa_cons (pe_xfVK (K:=K) (cl:=[(csOf w K mg).at_ "Overtaken"]) rfl (fun C hC=>by simp only [List.mem_cons,List.not_mem_nil,or_false] at hC;rcases hC with rfl;exact ⟨⟨T.hx_Overtaken.hg,T.hx_Overtaken.hk,T.hx_Overtaken.hs,T.hx_Overtaken.hd⟩,T.yk_Overtaken.no _ (by simp)⟩) (pe_hV v_Overtaken_V T.yk_Overtaken rfl rfl rfl rfl rfl (hr.mono (by omega)) (by rfl) (pa_cons (pv 3) pa_nil))) (pa_cons (pe_xfVK (K:=K) (cl:=[(csOf w K mg).at_ "Overtaken"]) rfl (fun C hC=>by simp only [List.mem_cons,List.not_mem_nil,or_false] at hC;rcases hC with rfl;exact ⟨⟨T.hx_Overtaken.hg,T.hx_Overtaken.hk,T.hx_Overtaken.hs,T.hx_Overtaken.hd⟩,T.yk_Overtaken.no _ (by simp)⟩) (pe_hK c_Overtaken_number_K T.yk_Overtaken rfl rfl rfl rfl rfl (hr.mono (by omega)) (by rfl) (pk_cons (pe_op (op_addP (K:=K) rfl) (pv 3) pe_int) pk_nil))) pa_nil))))))
  (pss_one (ps_ret (pe_op (op_addP (K:=K) rfl) (pv 7) (pe_lst (pa_cons (pe_xfVK (K:=K) (cl:=[(csOf w K mg).at_ "NoDealing"]) rfl (fun C hC=>by simp only [List.mem_cons,List.not_mem_nil,or_false] at hC;rcases hC with rfl;exact ⟨⟨T.hx_NoDealing.hg,T.hx_NoDealing.hk,T.hx_NoDealing.hs,T.hx_NoDealing.hd⟩,T.yk_NoDealing.no _ (by simp)⟩) (pe_hV v_NoDealing_V T.yk_NoDealing rfl rfl rfl rfl rfl (hr.mono (by omega)) (by rfl) (pa_cons (pv 3) pa_nil))) (pa_cons (pe_xfVK (K:=K) (cl:=[(csOf w K mg).at_ "NoDealing"]) rfl (fun C hC=>by simp only [List.mem_cons,List.not_mem_nil,or_false] at hC;rcases hC with rfl;exact ⟨⟨T.hx_NoDealing.hg,T.hx_NoDealing.hk,T.hx_NoDealing.hs,T.hx_NoDealing.hd⟩,T.yk_NoDealing.no _ (by simp)⟩) (pe_hK c_NoDealing_number_K T.yk_NoDealing rfl rfl rfl rfl rfl (hr.mono (by omega)) (by rfl) (pk_cons (pe_op (op_addP (K:=K) rfl) (pv 3) pe_int) pk_nil))) pa_nil)))))))))))))), ?_⟩
 exact body4 (x:=LbearB (csOf w K mg)) (W:=fun cls dd _ H=>E cls dd H) h (fun _ _ _ _ z=>z) (lift_seq4 (lift_asg4 (lift_mkXK h_Tie_other_table_one_K (by decide) (lift_cons (lift_op rl_addP (lift_v 3) (lift_int _)) (lift_cons (lift_v 0) (lift_cons (lift_v 3) lift_nil)))) (lift_name (vs:=[4]) 4 (by decide)))
  (lift_seq4 (lift_asg4 (lift_mkXK h_Clash_cells_table_K (by decide) (lift_cons (lift_v 2) (lift_cons (lift_v 1) lift_nil))) (lift_name (vs:=[5]) 5 (by decide)))
  (lift_seq4 (lift_asg4 (lift_mkXK h_Lost_row_table_K (by decide) (lift_cons (lift_v 2) (lift_cons (lift_v 0) lift_nil))) (lift_name (vs:=[6]) 6 (by decide)))
  (lift_seq4 (lift_asg4 (lift_lst4 (lift_cons4 (lift_fldX (cl:=[(csOf w K mg).at_ "Tie"]) (lift_pu (lift_v 4))) (lift_cons4 (lift_fldX (cl:=[(csOf w K mg).at_ "Tie"]) (lift_pu (lift_v 4))) (lift_cons4 (lift_fldX (cl:=[(csOf w K mg).at_ "Tie"]) (lift_pu (lift_v 4))) (lift_cons4 (lift_fldX (cl:=[(csOf w K mg).at_ "Clash"]) (lift_pu (lift_v 5))) (lift_cons4 (lift_fldX (cl:=[(csOf w K mg).at_ "Clash"]) (lift_pu (lift_v 5))) (lift_cons4 (lift_fldX (cl:=[(csOf w K mg).at_ "Lost"]) (lift_pu (lift_v 6))) (lift_cons4 (lift_fldX (cl:=[(csOf w K mg).at_ "Lost"]) (lift_pu (lift_v 6))) lift_nil4)))))))) (lift_name (vs:=[7]) 7 (by decide)))
  (lift_seq4 (lift_asg4 (lift_lst4 (lift_cons4 (lift_mkX (by decide) (lift_cons (lift_v 0) lift_nil)) (lift_cons4 (lift_mkXK h_Taken_name_K (by decide) (lift_cons (lift_v 1) lift_nil)) (lift_cons4 (lift_mkX (by decide) (lift_cons (lift_v 0) lift_nil)) (lift_cons4 (lift_mkXK h_NoColumn_name_K (by decide) (lift_cons (lift_v 1) lift_nil)) (lift_cons4 (lift_mkX (by decide) (lift_cons (lift_v 0) lift_nil)) (lift_cons4 (lift_mkXK h_Ring_name_K (by decide) (lift_cons (lift_v 1) lift_nil)) lift_nil4))))))) (lift_name (vs:=[8]) 8 (by decide)))
  (lift_seq4 (lift_asg4 (lift_op4 rl_addP (lift_pu (lift_v 7)) (lift_lc4 (vs:=[9]) (lift_iP (lift_v 8)) (lift_name 9 (by decide)) lift_yes (lift_fldX (cl:=[(csOf w K mg).at_ "BadName",(csOf w K mg).at_ "Taken",(csOf w K mg).at_ "NoTable",(csOf w K mg).at_ "NoColumn",(csOf w K mg).at_ "Twice",(csOf w K mg).at_ "Ring"]) (lift_pu (lift_v 9))) (fun _ _ _ _ _ z=>z))) (lift_name (vs:=[7]) 7 (by decide)))
  (lift_seq4 (lift_asg4 (lift_op4 rl_addP (lift_pu (lift_v 7)) (lift_lst4 (lift_cons4 (lift_fldX (cl:=[(csOf w K mg).at_ "BadText"]) (lift_mkXK h_BadText_K (by decide) lift_nil)) (lift_cons4 (lift_fldX (cl:=[(csOf w K mg).at_ "BadText"]) (lift_mkX (by decide) (lift_cons (lift_v 3) lift_nil))) (lift_cons4 (lift_fldX (cl:=[(csOf w K mg).at_ "BadText"]) (lift_mkXK h_BadText_at_K (by decide) (lift_cons (lift_op rl_addP (lift_v 3) (lift_int _)) lift_nil))) lift_nil4))))) (lift_name (vs:=[7]) 7 (by decide)))
  (lift_seq4 (lift_asg4 (lift_op4 rl_addP (lift_pu (lift_v 7)) (lift_lst4 (lift_cons4 (lift_fldX (cl:=[(csOf w K mg).at_ "Overtaken"]) (lift_mkXK h_Overtaken_K (by decide) lift_nil)) (lift_cons4 (lift_fldX (cl:=[(csOf w K mg).at_ "Overtaken"]) (lift_mkX (by decide) (lift_cons (lift_v 3) lift_nil))) (lift_cons4 (lift_fldX (cl:=[(csOf w K mg).at_ "Overtaken"]) (lift_mkXK h_Overtaken_number_K (by decide) (lift_cons (lift_op rl_addP (lift_v 3) (lift_int _)) lift_nil))) lift_nil4))))) (lift_name (vs:=[7]) 7 (by decide)))
  (lift_ret4 (lift_op4 rl_addP (lift_pu (lift_v 7)) (lift_lst4 (lift_cons4 (lift_fldX (cl:=[(csOf w K mg).at_ "NoDealing"]) (lift_mkX (by decide) (lift_cons (lift_v 3) lift_nil))) (lift_cons4 (lift_fldX (cl:=[(csOf w K mg).at_ "NoDealing"]) (lift_mkXK h_NoDealing_number_K (by decide) (lift_cons (lift_op rl_addP (lift_v 3) (lift_int _)) lift_nil))) lift_nil4))))))))))))) (fun ds M Q4 X _ hf=>by rw [Lbear_def] at hf;exact hf)
set_option maxHeartbeats 8000000 in
theorem ok_law (T:Top w K mg) (base:Heap) (hp:Plain (csOf w K mg)) {f:Addr} {fd:FuncData} (F:Fun K "law" "law" s_law f fd):FnOk P w K mg base CX0 4 f fd ["_law_script"] (spLaw K):=by
 obtain ⟨v_Lbear_4,h_Lbear_4,c_Lbear_4⟩:=((ok_Lbear T base (P:=P) (w:=w)).cl (fun _ _ _ _ _ _ us hl=>match us,hl with | [_,_,_,_],_=>rfl)).ex
 obtain ⟨w_BadText_K,h_BadText_K,c_BadText_K⟩:=((ok_BadText_in T base (P:=P) (w:=w)).kwD (by simp) [] [0] (fun _ _ _ _ _ _ _ us its ws h1 h2 h3=>match us,its,ws,h1,h2,h3 with | [_],[_],[],_,_,_=>⟨_,rfl,rfl⟩)).ex
 obtain ⟨w_Tie_table_one_other_K,h_Tie_table_one_other_K,c_Tie_table_one_other_K⟩:=((ok_Tie_in T base (P:=P) (w:=w)).kw0 ["table","one","other"] [0,1,2] (fun _ _ _ _ _ _ us ws h1 h2=>match us,ws,h1,h2 with | [_],[_,_,_],_,_=>rfl)).ex
 refine F.ok sc_law (fun vs H Q E h=> ?_) (fun cdv A outer s H vs Q E hr h=> ?_)
 · obtain ⟨a,ns,rfl,_⟩:=h
   rfl
 obtain ⟨a,ns,rfl,hS,hQ⟩:=h
 refine ⟨_,(pss_cons (ps_set (i:=1) sc_law.nd rfl (Or.inl rfl) pe_int)
  (pss_cons (ps_for PassesOwn.never (by rfl) (pi_P (K:=K) rfl (pe_slice (sl_listK (K:=K) rfl) (pv 0) po_none (po_some pe_int))) (pg_name (i:=2) sc_law.nd rfl (Or.inl rfl))
  (pss_one (ps_set (i:=1) sc_law.nd rfl (Or.inl rfl) (pe_op op_mod (pe_op (op_addP (K:=K) rfl) (pe_op (op_addP (K:=K) rfl) (pe_op op_mulP (pv 1) pe_int) (pe_op op_mod (pv 2) pe_int)) pe_int) pe_int))))
  (pss_cons (ps_set (i:=3) sc_law.nd rfl (Or.inl rfl) pe_str)
  (pss_cons (ps_for PassesOwn.never (by rfl) (pi_range1 (by rfl) T.zb_range (pa_cons pe_int pa_nil)) (pg_name (i:=4) sc_law.nd rfl (Or.inl rfl))
  (pss_cons (ps_set (i:=1) sc_law.nd rfl (Or.inl rfl) (pe_op op_mod (pe_op (op_addP (K:=K) rfl) (pe_op op_mulP (pv 1) pe_int) pe_int) pe_int))
  (pss_cons (ps_set (i:=5) sc_law.nd rfl (Or.inl rfl) (pe_ix (ix_P (K:=K) rfl) (pv 3) (pe_op op_mod (pe_op op_fdivW (pv 1) pe_int) pe_int) (fun _ _=>rfl)))
  (pss_cons (ps_set (i:=6) sc_law.nd rfl (Or.inl rfl) (pe_op (op_addP (K:=K) rfl) pe_str (pe_ix (ix_P (K:=K) rfl) (pv 3) (pe_op op_mod (pe_op op_fdivW (pv 1) pe_int) pe_int) (fun _ _=>rfl))))
  (pss_cons (ps_set (i:=7) sc_law.nd rfl (Or.inl rfl) (pe_op op_mod (pe_op op_fdivW (pv 1) pe_int) (pe_ix (ix_P (K:=K) rfl) (pe_lst (pa_cons pe_int (pa_cons (pe_op op_pow pe_int pe_int) pa_nil))) (pe_op op_mod (pv 4) pe_int) (fun _ _=>rfl))))
  (pss_cons (ps_set (i:=8) sc_law.nd rfl (Or.inl rfl) (pe_slice (sl_P (K:=K) rfl) (M3.pe_tup (pa_cons (pv 7) (pa_cons pe_non (pa_cons (pe_op op_sub pe_int (pv 7)) pa_nil)))) po_none (po_some (pe_op (op_addP (K:=K) rfl) pe_int (pe_op op_mod (pe_op op_fdivW (pv 1) pe_int) pe_int)))))
  (pss_cons (ps_set (i:=9) sc_law.nd rfl (Or.inl rfl) (pe_lst (pa_cons (pv 5) (pa_cons (pv 7) (pa_cons (pe_op (op_addP (K:=K) rfl) (pv 7) pe_int) (pa_cons (pv 6) (pa_cons (pv 8) (pa_cons (pv 5) (pa_cons (pv 8) (pa_cons (pv 5) (pa_cons (pv 6) (pa_cons (pv 5) (pa_cons (pv 6) (pa_cons (pv 5) (pa_cons (pv 6) (pa_cons pe_int (pa_cons (pv 7) (pa_cons (pe_op (op_addP (K:=K) rfl) (pv 7) pe_int) (pa_cons pe_int (pa_cons (pv 7) (pa_cons (pe_op (op_addP (K:=K) rfl) (pv 7) pe_int) (pa_cons (pv 7) (pa_cons (pe_op (op_addP (K:=K) rfl) (pv 7) pe_int) pa_nil)))))))))))))))))))))))
  (pss_cons (ps_set (i:=10) sc_law.nd rfl (Or.inl rfl) (pe_hK c_Tie_table_one_other_K T.yk_Tie rfl rfl rfl rfl rfl (hr.mono (by omega)) (by rfl) (pk_cons (pv 5) (pk_cons (pv 7) (pk_cons (pv 7) pk_nil)))))
  (pss_cons (ps_set (i:=11) sc_law.nd rfl (Or.inl rfl) (pe_hK c_Tie_table_one_other_K T.yk_Tie rfl rfl rfl rfl rfl (hr.mono (by omega)) (by rfl) (pk_cons (pv 6) (pk_cons pe_int (pk_cons (pe_op (op_addP (K:=K) rfl) (pv 7) pe_int) pk_nil)))))
  (pss_cons (ps_if (pt_cmpR (op_neP (K:=K) rfl hr.units) (pe_cl c_Lbear_4 (hr.mono (by omega)) (by rfl) passL (pa_cons (pv 5) (pa_cons (pv 6) (pa_cons (pv 8) (pa_cons (pv 7) pa_nil))))) (pv 9) (nomark _)) (pss_one (ps_ret pe_bl)) pss_nil)
  (pss_cons (ps_if (pt_cmpR (op_neP (K:=K) rfl hr.units) (pe_lst (pa_cons (pe_xfVK (K:=K) (cl:=[(csOf w K mg).at_ "Tie"]) rfl (fun C hC=>by simp only [List.mem_cons,List.not_mem_nil,or_false] at hC;rcases hC with rfl;exact ⟨⟨T.hx_Tie.hg,T.hx_Tie.hk,T.hx_Tie.hs,T.hx_Tie.hd⟩,T.yk_Tie.no _ (by simp)⟩) (pv 10)) (pa_cons (pe_xfVK (K:=K) (cl:=[(csOf w K mg).at_ "Tie"]) rfl (fun C hC=>by simp only [List.mem_cons,List.not_mem_nil,or_false] at hC;rcases hC with rfl;exact ⟨⟨T.hx_Tie.hg,T.hx_Tie.hk,T.hx_Tie.hs,T.hx_Tie.hd⟩,T.yk_Tie.no _ (by simp)⟩) (pv 10)) (pa_cons (pe_xfVK (K:=K) (cl:=[(csOf w K mg).at_ "Tie"]) rfl (fun C hC=>by simp only [List.mem_cons,List.not_mem_nil,or_false] at hC;rcases hC with rfl;exact ⟨⟨T.hx_Tie.hg,T.hx_Tie.hk,T.hx_Tie.hs,T.hx_Tie.hd⟩,T.yk_Tie.no _ (by simp)⟩) (pv 11)) (pa_cons (pe_xfVK (K:=K) (cl:=[(csOf w K mg).at_ "Tie"]) rfl (fun C hC=>by simp only [List.mem_cons,List.not_mem_nil,or_false] at hC;rcases hC with rfl;exact ⟨⟨T.hx_Tie.hg,T.hx_Tie.hk,T.hx_Tie.hs,T.hx_Tie.hd⟩,T.yk_Tie.no _ (by simp)⟩) (pv 11)) pa_nil))))) (pe_lst (pa_cons (pv 5) (pa_cons (pv 7) (pa_cons (pv 6) (pa_cons (pe_op (op_addP (K:=K) rfl) (pv 7) pe_int) pa_nil))))) (nomark _)) (pss_one (ps_ret pe_bl)) pss_nil)
  (pss_cons (ps_set (i:=12) sc_law.nd rfl (Or.inl rfl) (pe_lst (pa_cons (pe_callB (call_isXK (K:=K) rfl T.hx_Tie T.hk_Tie_DeedError) (by rfl) T.zb_isinstance (by decide +kernel) (pa_cons (pv 10) (pa_cons (pe_glob (v:=.ref _) (by rfl) T.hg_DeedError rfl) pa_nil))) (pa_cons (pe_callB (call_isXK (K:=K) rfl T.hx_Tie T.hk_Tie_FormError) (by rfl) T.zb_isinstance (by decide +kernel) (pa_cons (pv 10) (pa_cons (pe_glob (v:=.ref _) (by rfl) T.hg_FormError rfl) pa_nil))) (pa_cons (pe_callB (call_isXK (K:=K) rfl T.hx_BadText T.hk_BadText_FormError) (by rfl) T.zb_isinstance (by decide +kernel) (pa_cons (pe_hK c_BadText_K T.yk_BadText rfl rfl rfl rfl rfl (hr.mono (by omega)) (by rfl) pk_nil) (pa_cons (pe_glob (v:=.ref _) (by rfl) T.hg_FormError rfl) pa_nil))) pa_nil)))))
  (pss_one (ps_if (PW.pt (pw_or (pt_cmpR (op_neP (K:=K) rfl hr.units) (pv 12) (pe_lst (pa_cons pe_bl (pa_cons pe_bl (pa_cons pe_bl pa_nil)))) (nomark _)) (pw_or1 (pt_not (pt_val (pe_callB (call_isXK (K:=K) rfl T.hx_Tie T.hk_Tie_PourError) (by rfl) T.zb_isinstance (by decide +kernel) (pa_cons (pv 11) (pa_cons (pe_glob (v:=.ref _) (by rfl) T.hg_PourError rfl) pa_nil)))))))) (pss_one (ps_ret pe_bl)) pss_nil))))))))))))))
  (pss_one (ps_ret pe_bl)))))), ?_⟩
 exact law_rest4N (x:=lawB (csOf w K mg) a ns) (W:=fun _ _ _ _=>False) 12 (fun b=>(lift_seq4 (lift_asg4 (lift_pu (lift_int _)) (lift_name (vs:=[1]) 1 (by decide)))
  (lift_seq4 (lift_for4 (vs:=[2]) (lift_iP (lift_scr (lift_v 0) lift_po0 (lift_po (lift_int _)))) (lift_name 2 (by decide))
  (lift_asg4 (lift_pu (lift_op rl_mod (lift_op rl_addP (lift_op rl_addP (lift_op rl_mulP (lift_v 1) (lift_int _)) (lift_op rl_mod (lift_v 2) (lift_int _))) (lift_int _)) (lift_int _))) (lift_name (vs:=[1]) 1 (by decide))))
  (lift_seq4 (lift_asg4 (lift_pu (lift_str _)) (lift_name (vs:=[3]) 3 (by decide)))
  (lift_seq4 (lift_for4 (vs:=[4]) (lift_iR (lift_cons (lift_int _) lift_nil)) (lift_name 4 (by decide))
  (lift_seq4 (lift_asg4 (lift_pu (lift_op rl_mod (lift_op rl_addP (lift_op rl_mulP (lift_v 1) (lift_int _)) (lift_int _)) (lift_int _))) (lift_name (vs:=[1]) 1 (by decide)))
  (lift_seq4 (lift_asg4 (lift_pu (lift_op rl_ixP (lift_v 3) (lift_op rl_mod (lift_op rl_fdivW (lift_v 1) (lift_int _)) (lift_int _)))) (lift_name (vs:=[5]) 5 (by decide)))
  (lift_seq4 (lift_asg4 (lift_pu (lift_op rl_addP (lift_str _) (lift_op rl_ixP (lift_v 3) (lift_op rl_mod (lift_op rl_fdivW (lift_v 1) (lift_int _)) (lift_int _))))) (lift_name (vs:=[6]) 6 (by decide)))
  (lift_seq4 (lift_asg4 (lift_pu (lift_op rl_mod (lift_op rl_fdivW (lift_v 1) (lift_int _)) (lift_op rl_ixP (lift_lst (lift_cons (lift_int _) (lift_cons (lift_op rl_pow (lift_int _) (lift_int _)) lift_nil))) (lift_op rl_mod (lift_v 4) (lift_int _))))) (lift_name (vs:=[7]) 7 (by decide)))
  (lift_seq4 (lift_asg4 (lift_pu (lift_sl rl_slP (lift_tup (lift_cons (lift_v 7) (lift_cons lift_non (lift_cons (lift_op rl_sub (lift_int _) (lift_v 7)) lift_nil)))) lift_po0 (lift_po (lift_op rl_addP (lift_int _) (lift_op rl_mod (lift_op rl_fdivW (lift_v 1) (lift_int _)) (lift_int _)))))) (lift_name (vs:=[8]) 8 (by decide)))
  (lift_seq4 (lift_asg4 (lift_pu (lift_lst (lift_cons (lift_v 5) (lift_cons (lift_v 7) (lift_cons (lift_op rl_addP (lift_v 7) (lift_int _)) (lift_cons (lift_v 6) (lift_cons (lift_v 8) (lift_cons (lift_v 5) (lift_cons (lift_v 8) (lift_cons (lift_v 5) (lift_cons (lift_v 6) (lift_cons (lift_v 5) (lift_cons (lift_v 6) (lift_cons (lift_v 5) (lift_cons (lift_v 6) (lift_cons (lift_int _) (lift_cons (lift_v 7) (lift_cons (lift_op rl_addP (lift_v 7) (lift_int _)) (lift_cons (lift_int _) (lift_cons (lift_v 7) (lift_cons (lift_op rl_addP (lift_v 7) (lift_int _)) (lift_cons (lift_v 7) (lift_cons (lift_op rl_addP (lift_v 7) (lift_int _)) lift_nil))))))))))))))))))))))) (lift_name (vs:=[9]) 9 (by decide)))
  (lift_seq4 (lift_asg4 (lift_mkXK h_Tie_table_one_other_K (by decide) (lift_cons (lift_v 5) (lift_cons (lift_v 7) (lift_cons (lift_v 7) lift_nil)))) (lift_name (vs:=[10]) 10 (by decide)))
  (lift_seq4 (lift_asg4 (lift_mkXK h_Tie_table_one_other_K (by decide) (lift_cons (lift_v 6) (lift_cons (lift_int _) (lift_cons (lift_op rl_addP (lift_v 7) (lift_int _)) lift_nil)))) (lift_name (vs:=[11]) 11 (by decide)))
  (lift_seq4 (lift_ifs4 (lift_tst4 (lift_op4 rl_neP (lift_fn40 (lift_cons4 (lift_pu (lift_v 5)) (lift_cons4 (lift_pu (lift_v 6)) (lift_cons4 (lift_pu (lift_v 8)) (lift_cons4 (lift_pu (lift_v 7)) lift_nil4)))) h_Lbear_4) (lift_pu (lift_v 9)))) (lift_ret4 (lift_pu (lift_bl _))) lift_next4)
  (lift_seq4 (lift_ifs4 (lift_tst4 (lift_op4 rl_neP (lift_lst4 (lift_cons4 (lift_fldX (cl:=[(csOf w K mg).at_ "Tie"]) (lift_pu (lift_v 10))) (lift_cons4 (lift_fldX (cl:=[(csOf w K mg).at_ "Tie"]) (lift_pu (lift_v 10))) (lift_cons4 (lift_fldX (cl:=[(csOf w K mg).at_ "Tie"]) (lift_pu (lift_v 11))) (lift_cons4 (lift_fldX (cl:=[(csOf w K mg).at_ "Tie"]) (lift_pu (lift_v 11))) lift_nil4))))) (lift_pu (lift_lst (lift_cons (lift_v 5) (lift_cons (lift_v 7) (lift_cons (lift_v 6) (lift_cons (lift_op rl_addP (lift_v 7) (lift_int _)) lift_nil)))))))) (lift_ret4 (lift_pu (lift_bl _))) lift_next4)
  (lift_seq4 (lift_asg4 (lift_lst4 (lift_cons4 (lift_isX (C:=(csOf w K mg).at_ "Tie") (D:=(csOf w K mg).at_ "DeedError") (b:=true) (lift_pu (lift_v 10))) (lift_cons4 (lift_isX (C:=(csOf w K mg).at_ "Tie") (D:=(csOf w K mg).at_ "FormError") (b:=false) (lift_pu (lift_v 10))) (lift_cons4 (lift_isX (C:=(csOf w K mg).at_ "BadText") (D:=(csOf w K mg).at_ "FormError") (b:=true) (lift_mkXK h_BadText_K (by decide) lift_nil)) lift_nil4)))) (lift_name (vs:=[12]) 12 (by decide)))
  (lift_ifs4 (lift_or4 (lift_pu (lift_tst (lift_op rl_neP (lift_v 12) (lift_lst (lift_cons (lift_bl _) (lift_cons (lift_bl _) (lift_cons (lift_bl _) lift_nil))))))) (lift_not4 (lift_tst4 (lift_isX (C:=(csOf w K mg).at_ "Tie") (D:=(csOf w K mg).at_ "PourError") (b:=true) (lift_pu (lift_v 11)))))) (lift_ret4 (lift_pu (lift_bl _))) lift_next4)))))))))))))
  (lift_ret4 (lift_pu (lift_bl _)))))))) hS hQ (hp a ns)
end
end Law
set_option maxHeartbeats 1000000
namespace Law
open PySem L2 M3
theorem sq4_of {t u:S4} {N:N4} {σ:List Sl} {M:Mem} (h:t {nx:=u N,ct:=N.ct,bk:=N.bk,rt:=N.rt,xn:=N.xn} σ M):seq4 t u N σ M:=h
theorem lp4_cons {i:Nat} {tb:S4} {N:N4} {x:T} {xs:List T} {σ:List Sl} {M:Mem}:loop4 (name3 i) tb N (x::xs) σ M=tb {nx:=loop4 (name3 i) tb N xs,ct:=loop4 (name3 i) tb N xs,bk:=N.nx,rt:=N.rt,xn:=N.xn} (σ.set i (.val x)) M:=rfl
theorem nf:¬(false=true):=by decide
theorem ob_bl {b:Bool} {f:Bool→Prop}:ob (asB (.bl b)) f=f b:=rfl
theorem eqv_self {d:PyData} (h:d.canLay0=true):PyData.eqv d d=true:=eqv_lay d h
def Da (t:T):Prop:=∃d,dat t=some d∧d.canLay0=true∧d.depth≤50
theorem dats_of:∀ {xs:List T},(∀t∈xs,Da t)→∃ds,dats xs=some ds∧PyData.canLayAll0 ds=true∧PyData.depthAll ds≤50
 | [],_=>⟨[],rfl,rfl,by simp [PyData.depthAll]⟩
 | x::xs,h=>by
   obtain ⟨d,e1,e2,e3⟩:=h x (List.mem_cons_self ..)
   obtain ⟨ds,f1,f2,f3⟩:=dats_of (xs:=xs) fun t ht=>h t (List.mem_cons_of_mem _ ht)
   refine ⟨d::ds, ?_, ?_, ?_⟩
   · show (dat x).bind _=_
     rw [e1]
     show (dats xs).map _=_
     rw [f1]
     rfl
   · show (d.canLay0&&PyData.canLayAll0 ds)=true
     rw [e2,f2]
     rfl
   · simp only [PyData.depthAll]
     omega
theorem ne_self {xs:List T} (h:∀t∈xs,Da t) {Q:T→Prop} (q:Q (.bl false)):neP (.lst xs) (.lst xs) Q:=by
 obtain ⟨ds,e1,e2,e3⟩:=dats_of h
 have ed:dat (.lst xs)=some (.list ds):=by
  show (dats xs).map PyData.list=_
  rw [e1]
  rfl
 have lay:(PyData.list ds).canLay0=true:=e2
 have sh:SeqAt.shaped (.list ds)=true:=by
  unfold SeqAt.shaped
  have:(PyData.list ds).depth≤64:=by simp only [PyData.depth];omega
  simp [lay,this]
 have e:neP (.lst xs) (.lst xs) Q=neD3 (.lst xs) (.lst xs) Q:=by simp [neP,isSeq]
 rw [e]
 unfold neD3
 rw [ed,ob_some,ob_some]
 refine ⟨sh,sh, ?_⟩
 rw [eqv_self lay]
 exact q
theorem da_int (i:Int):Da (.int i):=⟨.int i,rfl,rfl,by simp [PyData.depth]⟩
theorem da_bl (b:Bool):Da (.bl b):=⟨.bool b,rfl,rfl,by simp [PyData.depth]⟩
theorem da_str {x:Str} (h:PyData.strOk x=true):Da (.str x):=⟨.str x,rfl,h,by simp [PyData.depth]⟩
structure Nm (x:Str):Prop where
 ok:PyData.strOk x=true
 len:x.length≤1000
def LET:Str:="abcdefghijklmnopqrstuvwxyz"
theorem let_all:∀c∈LET.cps.toList,PyData.strOk ⟨#[c]⟩=true∧PyData.strOk ("row"++⟨#[c]⟩)=true∧Str.length ⟨#[c]⟩≤1∧Str.length ("row"++⟨#[c]⟩)≤4:=by decide +kernel
theorem let_len:LET.cps.toList.length=26:=by decide +kernel
theorem letter {k:Int} (h0:0≤k) (h1:k<26) {Q:T→Prop} (h:∀c,c∈LET.cps.toList→Q (.str ⟨#[c]⟩)):ixP (.str LET) (.int k) Q:=by
 refine ⟨by decide +kernel, ?_⟩
 obtain ⟨j,rfl⟩:∃j:Nat,k=(j:Int):=⟨k.toNat,by omega⟩
 have hj:j<LET.cps.toList.length:=by rw [let_len];omega
 have e:atI LET.cps.toList (j:Int)=some LET.cps.toList[j]:=atI_nat (List.getElem?_eq_getElem hj)
 rw [e,ob_some]
 exact h _ (List.getElem_mem hj)
theorem log_small {n:Nat} (h:n<2 ^ 40):n.log2<40:=by
 by_cases z:n=0
 · subst z;decide
 · exact (Nat.log2_lt z).mpr h
theorem fmt_int {i:Int} (h0: -(2 ^ 39)≤i) (h1:i<2 ^ 39):i.natAbs.log2<1920:=by
 have:i.natAbs<2 ^ 40:=by omega
 have:=log_small this
 omega
theorem div_ok {i j:Int} (h1:0<j) (h2:j.natAbs.log2<9000):CDivW i j:=⟨h1,h2⟩
def tieL (t o u:T):List (Str×T):=[("other",u),("one",o),("table",t)]
theorem mul_ok {i:Int} (h0:0≤i) (h1:i<2147483647):CMulW i 48271:=by
 have a:i.natAbs<2 ^ 40:=by omega
 have a:=log_small a
 have b:((48271:Int).natAbs).log2<40:=by decide +kernel
 show i.natAbs.log2+((48271:Int).natAbs).log2<1000000
 omega
theorem line_da (n m:Int) {k:Int} (h1:1≤k) (h3:k≤3):Da (.tup (cut [.int n,.non,.int m] none (some k))):=by
 rcases (show k=1∨k=2∨k=3 by omega) with rfl | rfl | rfl
 · exact ⟨.tuple [.int n],rfl,rfl,by simp [PyData.depth,PyData.depthAll]⟩
 · exact ⟨.tuple [.int n,.none],rfl,rfl,by simp [PyData.depth,PyData.depthAll]⟩
 · exact ⟨.tuple [.int n,.none,.int m],rfl,rfl,by simp [PyData.depth,PyData.depthAll]⟩
def Grow (M M':Mem):Prop:=∀a p,cellX M a=some p→cellX M' a=some p
theorem Grow.trans {M M1 M2:Mem} (h:Grow M M1) (g:Grow M1 M2):Grow M M2:=fun a p e=>g a p (h a p e)
theorem cx_new {M:Mem} {a C:Addr} {fs:List (Str×T)}:cellX (mset M a (some (.tup [.ins C fs]))) a=some (C,fs):=by
 unfold cellX
 rw [mset_same]
 rfl
theorem grow_new {M:Mem} {a:Addr} {t:T} (h:M a=none):Grow M (mset M a (some t)):=fun b p e=>by
 have:b≠a:=fun z=>by
  unfold cellX at e
  rw [z,h] at e
  cases e
 unfold cellX at e ⊢
 rw [mset_ne this]
 exact e
section
variable {σ:List Sl} {M:Mem} {Q:T→Mem→Prop} {X:XM} {QL:List T→Mem→Prop} {r:A4} {cl:List Addr} {f:Str} {C:Addr} {fs:List Str} {mis is:List Nat} {m:Nat} {dts ds:List T} {x:A3} {t:T}
theorem mkK_of (hx:∀(Q:List T→Prop) X,Q ds→x σ Q X) (hm:ds.length=m) (hl:(sel is (ds++dts)).length=fs.length) (hf:(mis.all fun i=>fmtB (sel is (ds++dts))[i]?)=true)
 (h:∀a M',Grow M M'→cellX M' a=some (C,(fs.zip (sel is (ds++dts))).reverse)→Q (.ref a) M'):mkXK4 C fs mis m is dts x σ M Q X:=
 hx _ _ ⟨hm,hl,hf,fun a ha=>h a _ (grow_new ha) cx_new⟩
theorem mkX_of (hx:∀(Q:List T→Prop) X,Q ds→x σ Q X) (hl:ds.length=fs.length) (hf:(mis.all fun i=>fmtB ds[i]?)=true)
 (h:∀a M',Grow M M'→cellX M' a=some (C,(fs.zip ds).reverse)→Q (.ref a) M'):mkX4 C fs mis x σ M Q X:=
 hx _ _ ⟨hl,hf,fun a ha=>h a _ (grow_new ha) cx_new⟩
theorem fld_of {o:E4} (h:o σ M (fun d M1=>∃a C gs t,d= .ref a∧cellX M1 a=some (C,gs)∧C∈cl∧gs.lookup f=some t∧Q t M1) X):fldX4 cl f o σ M Q X:=by
 have e:(fun (d:T) (M1:Mem)=>∃a C gs t,d= .ref a∧cellX M1 a=some (C,gs)∧C∈cl∧gs.lookup f=some t∧Q t M1)=fun d M1=>ob (asR d) fun a=>ob (cellX M1 a) fun p=>p.1∈cl∧ob (p.2.lookup f) fun t=>Q t M1:=by
  funext d M1
  apply propext
  constructor
  · rintro ⟨a,C,gs,t,rfl,e1,e2,e3,q⟩
    show ob (some a) _
    rw [ob_some,e1,ob_some]
    refine ⟨e2, ?_⟩
    show ob (gs.lookup f) _
    rw [e3,ob_some]
    exact q
  · intro h
    obtain ⟨a,ea,h⟩:=ob_iff.mp h
    obtain ⟨⟨C,gs⟩,eb,hc,h⟩:=ob_iff.mp h
    obtain ⟨t,et,q⟩:=ob_iff.mp h
    exact ⟨a,C,gs,t,asR_is ea,eb,hc,et,q⟩
 unfold fldX4
 rw [←e]
 exact h
theorem consE {o:E4} (h:o σ M (fun d M1=>r σ M1 (fun ds M2=>QL (d::ds) M2) X) X):cons4 o r σ M QL X:=h
theorem asgL_of {N:N4} {i:Nat} {x:A4} (h:x σ M (fun ds M1=>ds.length≤sizeLine∧N.nx (σ.set i (.val (.lst ds))) M1) (N.xn σ)):asg4 (lst4 x) (name3 i) N σ M:=h
theorem cat_of {Q:T→Mem→Prop} {i:Nat} {F:List T} {e:E4} (hs:slot σ i=some (.lst F)) (h:e σ M (fun d M2=>∃G,d= .lst G∧F.length+G.length≤sizeLine∧Q (.lst (F++G)) M2) X):op4 addP (pu (v3 i)) e σ M Q X:=by
 show ob (slot σ i) _
 rw [hs,ob_some]
 have e1:(fun (d:T) (M2:Mem)=>∃G,d= .lst G∧F.length+G.length≤sizeLine∧Q (.lst (F++G)) M2)=fun d M2=>addP (.lst F) d (fun z=>Q z M2):=by
  funext d M2
  apply propext
  constructor
  · rintro ⟨G,rfl,q⟩;exact q
  · intro q
    cases d with
    | lst G=>exact ⟨G,rfl,q⟩
    | _=>exact q.elim
 rw [e1] at h
 exact h
theorem lst_of {x:A4} (h:x σ M (fun ds M1=>ds.length≤sizeLine∧Q (.lst ds) M1) X):lst4 x σ M Q X:=h
theorem asgC_of {N:N4} {i j:Nat} {F:List T} {x:A4} (hs:slot σ i=some (.lst F)) (h:x σ M (fun ds M1=>ds.length≤sizeLine∧F.length+ds.length≤sizeLine∧N.nx (σ.set j (.val (.lst (F++ds)))) M1) (N.xn σ)):asg4 (op4 addP (pu (v3 i)) (lst4 x)) (name3 j) N σ M:=by
 refine (show op4 addP (pu (v3 i)) (lst4 x) σ M (fun d M1=>N.nx (σ.set j (.val d)) M1) (N.xn σ) from ?_)
 refine cat_of hs ?_
 have e:(fun (ds:List T) (M1:Mem)=>ds.length≤sizeLine∧F.length+ds.length≤sizeLine∧N.nx (σ.set j (.val (.lst (F++ds)))) M1)=fun ds M1=>ds.length≤sizeLine∧∃G,T.lst ds= .lst G∧F.length+G.length≤sizeLine∧N.nx (σ.set j (.val (.lst (F++G)))) M1:=by
  funext ds M1
  apply propext
  constructor
  · rintro ⟨h1,h2⟩;exact ⟨h1,ds,rfl,h2⟩
  · rintro ⟨h1,G,e,h2⟩;cases e;exact ⟨h1,h2⟩
 rw [e] at h
 exact h
theorem fldK {x:A3} (hx:∀(Q:List T→Prop) X,Q ds→x σ Q X) (hm:ds.length=m) (hl:(sel is (ds++dts)).length=fs.length) (hf:(mis.all fun i=>fmtB (sel is (ds++dts))[i]?)=true) (hC:C∈cl) (ht:((fs.zip (sel is (ds++dts))).reverse).lookup f=some t)
 (h:∀M',Grow M M'→Q t M'):fldX4 cl f (mkXK4 C fs mis m is dts x) σ M Q X:=
 fld_of (mkK_of hx hm hl hf fun a M' g c=>⟨a,C,_,t,rfl,c,hC,ht,h M' g⟩)
theorem fldX {x:A3} (hx:∀(Q:List T→Prop) X,Q ds→x σ Q X) (hl:ds.length=fs.length) (hf:(mis.all fun i=>fmtB ds[i]?)=true) (hC:C∈cl) (ht:((fs.zip ds).reverse).lookup f=some t)
 (h:∀M',Grow M M'→Q t M'):fldX4 cl f (mkX4 C fs mis x) σ M Q X:=
 fld_of (mkX_of hx hl hf fun a M' g c=>⟨a,C,_,t,rfl,c,hC,ht,h M' g⟩)
theorem nil_of (h:QL [] M):nil4 σ M QL X:=h
theorem compX {i j:Nat} {σ0:List Sl} {QL:List T→Mem→Prop}:∀(ls:List (Addr×Addr×T)) (acc:List T),(∀z∈ls,cellX M z.1=some (z.2.1,[(("name":Str),z.2.2)])∧z.2.1∈cl)→i<σ0.length→acc.length+ls.length≤100→QL (acc++ls.map (·.2.2)) M→
 comp4 (name3 i) yes3 (fldX4 cl "name" (pu (v3 i))) σ0 X QL (ls.map fun z=>.ref z.1) acc M
 | [],acc,_,_,_,q=>by simpa [comp4] using q
 | z::ls,acc,h,hi,hl,q=>by
   obtain ⟨e1,e2⟩:=h z (List.mem_cons_self ..)
   refine (show fldX4 cl "name" (pu (v3 i)) (σ0.set i (.val (.ref z.1))) M (fun y M1=>acc.length<sizeLine∧comp4 (name3 i) yes3 (fldX4 cl "name" (pu (v3 i))) σ0 X QL (ls.map fun z=>.ref z.1) (acc++[y]) M1) X from ?_)
   refine fld_of ?_
   show ob (slot (σ0.set i (.val (.ref z.1))) i) _
   have es:slot (σ0.set i (.val (.ref z.1))) i=some (.ref z.1):=by
    unfold slot
    rw [List.getElem?_set_self hi]
   rw [es,ob_some]
   refine ⟨z.1,z.2.1,_,z.2.2,rfl,e1,e2,by simp [List.lookup], ?_, ?_⟩
   · have:(100:Nat)<sizeLine:=by decide
     simp only [List.length_cons] at hl
     omega
   · refine compX (i:=i) (j:=j) ls _ (fun w hw=>h w (List.mem_cons_of_mem _ hw)) hi (by simp only [List.length_append,List.length_cons,List.length_nil] at hl ⊢;omega) ?_
     simpa using q
theorem fldV {i:Nat} {a:Addr} {gs:List (Str×T)} (hs:slot σ i=some (.ref a)) (hc:cellX M a=some (C,gs)) (hC:C∈cl) (hf:gs.lookup f=some t) (h:Q t M):fldX4 cl f (pu (v3 i)) σ M Q X:=by
 refine fld_of ?_
 show ob (slot σ i) _
 rw [hs,ob_some]
 exact ⟨a,C,gs,t,rfl,hc,hC,hf,h⟩
end
section
variable {C:Cs} {M:Mem} {N:N4} {A B:Str} {ln:T} {n:Int} {s4 s5 s6 s7 s8 s9:Sl}
abbrev sb (A B:Str) (ln:T) (n:Int) (s4 s5 s6 s7 s8 s9:Sl):List Sl:=[.val (.str A),.val (.str B),.val ln,.val (.int n),s4,s5,s6,s7,s8,s9]
def f1 (A B:Str) (ln:T) (n:Int):List T:=[.str A,.int n,.int (n+1),.str B,ln,.str A,ln]
def f2 (A B:Str):List T:=[.str A,.str B,.str A,.str B,.str A,.str B]
def f3_ (n:Int):List T:=[.int 0,.int n,.int (n+2)]
def f4 (n:Int):List T:=[.int 0,.int n,.int (n+3)]
def f5 (n:Int):List T:=[.int n,.int (n+4)]
def dueL (A B:Str) (ln:T) (n:Int):List T:=f1 A B ln n++f2 A B++f3_ n++f4 n++f5 n
theorem m1:¬(("table":Str)="one"):=by decide +kernel
theorem l1:(("table":Str)=="other")=false:=by decide +kernel
theorem l2:(("table":Str)=="one")=false:=by decide +kernel
theorem l3:(("one":Str)=="other")=false:=by decide +kernel
theorem l4:(("table":Str)=="cells")=false:=by decide +kernel
theorem l5:(("table":Str)=="row")=false:=by decide +kernel
structure Rm (A B:Str) (n:Int):Prop where
 a:Nm A
 b:Nm B
 n0:0≤n
 n1:n<1000000000
theorem Rm.fi (R:Rm A B n) {i:Int} (h0:0≤i) (h1:i≤9):(n+i).natAbs.log2<1920:=fmt_int (by have:=R.n0;omega) (by have:=R.n1;omega)
theorem bear_ok (R:Rm A B n) {Q:T→Mem→Prop} {X:XM} (h:∀M',Grow M M'→Q (.lst (dueL A B ln n)) M'):Lbear C [.str A,.str B,ln,.int n] M Q X:=by
 have ff:∀i:Int,0≤i→i≤9→fmtB (some (.int (n+i)))=true:=fun i h0 h1=>by
  show decide ((n+i).natAbs.log2<1920)=true
  exact decide_eq_true (R.fi h0 h1)
 have f0:fmtB (some (.int n))=true:=by have:=ff 0 (by decide) (by decide);rwa [Int.add_zero] at this
 have fA:fmtB (some (.str A))=true:=decide_eq_true R.a.len
 have fB:fmtB (some (.str B))=true:=decide_eq_true R.b.len
 rw [Lbear_def]
 show LbearB C {nx:=fun _ M=>Q .non M,rt:=Q,xn:=fun _=>X} (sb A B ln n .no .no .no .no .no .no) M
 unfold LbearB
 refine sq4_of ?_
 refine mkK_of (ds:=[.int (n+1),.str A,.int n]) (fun Q X q=>q) rfl rfl (by simp [sel,ff,f0]) fun a M1 g1 c1=> ?_
 dsimp only
 refine sq4_of ?_
 refine mkK_of (ds:=[ln,.str B]) (fun Q X q=>q) rfl rfl (by simp [sel,fB]) fun b M2 g2 c2=> ?_
 dsimp only
 refine sq4_of ?_
 refine mkK_of (ds:=[ln,.str A]) (fun Q X q=>q) rfl rfl (by simp [sel,fA]) fun d M3 g3 c3=> ?_
 dsimp only
 have c1':=g3 _ _ (g2 _ _ c1)
 have c2':=g3 _ _ c2
 clear c1 c2
 refine sq4_of ?_
 refine asgL_of ?_
 refine consE ?_
 refine fldV rfl c1' (List.mem_singleton.mpr rfl) (t:=.str A) (by simp [sel,List.lookup,l1,l2,l3]) ?_
 refine consE ?_
 refine fldV rfl c1' (List.mem_singleton.mpr rfl) (t:=.int n) (by simp [sel,List.lookup,l1,l2,l3]) ?_
 refine consE ?_
 refine fldV rfl c1' (List.mem_singleton.mpr rfl) (t:=.int (n+1)) (by simp [sel,List.lookup,l1,l2,l3]) ?_
 refine consE ?_
 refine fldV rfl c2' (List.mem_singleton.mpr rfl) (t:=.str B) (by simp [sel,List.lookup,l4]) ?_
 refine consE ?_
 refine fldV rfl c2' (List.mem_singleton.mpr rfl) (t:=ln) (by simp [sel,List.lookup,l4]) ?_
 refine consE ?_
 refine fldV rfl c3 (List.mem_singleton.mpr rfl) (t:=.str A) (by simp [sel,List.lookup,l5]) ?_
 refine consE ?_
 refine fldV rfl c3 (List.mem_singleton.mpr rfl) (t:=ln) (by simp [sel,List.lookup,l5]) ?_
 refine nil_of ⟨by show 7≤sizeLine;decide, ?_⟩
 dsimp only
 show seq4 _ _ _ (sb A B ln n (.val (.ref a)) (.val (.ref b)) (.val (.ref d)) (.val (.lst (f1 A B ln n))) .no .no) M3
 clear c1' c2' c3
 have gm:Grow M M3:=(g1.trans g2).trans g3
 clear g1 g2 g3
 refine sq4_of ?_
 refine asgL_of ?_
 refine consE ?_
 refine mkX_of (ds:=[.str A]) (fun Q X q=>q) rfl (by simp [fA]) fun a1 M4 g4 c4=> ?_
 refine consE ?_
 refine mkK_of (ds:=[.str B]) (fun Q X q=>q) rfl rfl (by simp [sel,fB]) fun a2 M5 g5 c5=> ?_
 refine consE ?_
 refine mkX_of (ds:=[.str A]) (fun Q X q=>q) rfl (by simp [fA]) fun a3 M6 g6 c6=> ?_
 refine consE ?_
 refine mkK_of (ds:=[.str B]) (fun Q X q=>q) rfl rfl (by simp [sel,fB]) fun a4 M7 g7 c7=> ?_
 refine consE ?_
 refine mkX_of (ds:=[.str A]) (fun Q X q=>q) rfl (by simp [fA]) fun a5 M8 g8 c8=> ?_
 refine consE ?_
 refine mkK_of (ds:=[.str B]) (fun Q X q=>q) rfl rfl (by simp [sel,fB]) fun a6 M9 g9 c9=> ?_
 refine nil_of ⟨by show 6≤sizeLine;decide, ?_⟩
 have gm9:Grow M M9:=gm.trans (g4.trans (g5.trans (g6.trans (g7.trans (g8.trans g9)))))
 have k4:=(g5.trans (g6.trans (g7.trans (g8.trans g9)))) _ _ c4
 have k5:=(g6.trans (g7.trans (g8.trans g9))) _ _ c5
 have k6:=(g7.trans (g8.trans g9)) _ _ c6
 have k7:=(g8.trans g9) _ _ c7
 have k8:=g9 _ _ c8
 clear g4 g5 g6 g7 g8 g9 c4 c5 c6 c7 c8 gm
 dsimp only
 show seq4 _ _ _ (sb A B ln n (.val (.ref a)) (.val (.ref b)) (.val (.ref d)) (.val (.lst (f1 A B ln n))) (.val (.lst [.ref a1,.ref a2,.ref a3,.ref a4,.ref a5,.ref a6])) .no) M9
 refine sq4_of ?_
 have cp:=fun (QL:List T→Mem→Prop) (X:XM) (q:QL (f2 A B) M9)=>compX (M:=M9) (X:=X) (i:=9) (j:=0) (σ0:=sb A B ln n (.val (.ref a)) (.val (.ref b)) (.val (.ref d)) (.val (.lst (f1 A B ln n))) (.val (.lst [.ref a1,.ref a2,.ref a3,.ref a4,.ref a5,.ref a6])) .no) (cl:=[C.at_ "BadName",C.at_ "Taken",C.at_ "NoTable",C.at_ "NoColumn",C.at_ "Twice",C.at_ "Ring"]) (QL:=QL)
  [(a1,C.at_ "BadName",.str A),(a2,C.at_ "Taken",.str B),(a3,C.at_ "NoTable",.str A),(a4,C.at_ "NoColumn",.str B),(a5,C.at_ "Twice",.str A),(a6,C.at_ "Ring",.str B)] [] (by
    intro z hz
    simp only [List.mem_cons,List.not_mem_nil,or_false] at hz
    rcases hz with rfl | rfl | rfl | rfl | rfl | rfl
    · exact ⟨k4,by simp⟩
    · exact ⟨k5,by simp⟩
    · exact ⟨k6,by simp⟩
    · exact ⟨k7,by simp⟩
    · exact ⟨k8,by simp⟩
    · exact ⟨c9,by simp⟩) (by show 9<10;decide) (by show 0+6≤100;decide) q
 refine (show op4 addP (pu (v3 7)) _ _ M9 (fun d M1=>_) _ from ?_)
 refine cat_of rfl ?_
 refine cp _ _ ?_
 clear cp k4 k5 k6 k7 k8 c9
 refine ⟨_,rfl,by show 7+6≤sizeLine;decide, ?_⟩
 dsimp only
 show seq4 _ _ _ (sb A B ln n (.val (.ref a)) (.val (.ref b)) (.val (.ref d)) (.val (.lst (f1 A B ln n++f2 A B))) (.val (.lst [.ref a1,.ref a2,.ref a3,.ref a4,.ref a5,.ref a6])) .no) M9
 generalize (Sl.val (.lst [.ref a1,.ref a2,.ref a3,.ref a4,.ref a5,.ref a6]))=s8
 generalize hF:f1 A B ln n++f2 A B=F
 have lF:F.length=13:=by rw [←hF];rfl
 refine sq4_of ?_
 refine asgC_of (F:=F) rfl ?_
 refine consE ?_
 refine fldK (ds:=[]) (t:=.int 0) (fun Q X q=>q) rfl rfl (by decide +kernel) (List.mem_singleton.mpr rfl) (by simp [sel,List.lookup]) fun M10 g10=> ?_
 refine consE ?_
 refine fldX (ds:=[.int n]) (t:=.int n) (fun Q X q=>q) rfl (by simp [f0]) (List.mem_singleton.mpr rfl) (by simp [List.lookup]) fun M11 g11=> ?_
 refine consE ?_
 refine fldK (ds:=[.int (n+2)]) (t:=.int (n+2)) (fun Q X q=>q) rfl rfl (by simp [sel,ff]) (List.mem_singleton.mpr rfl) (by simp [sel,List.lookup]) fun M12 g12=> ?_
 refine nil_of ⟨by show 3≤sizeLine;decide,by rw [lF];show 13+3≤sizeLine;decide, ?_⟩
 dsimp only
 show seq4 _ _ _ (sb A B ln n (.val (.ref a)) (.val (.ref b)) (.val (.ref d)) (.val (.lst (F++f3_ n))) s8 .no) M12
 generalize hF2:F++f3_ n=F2
 have lF2:F2.length=16:=by rw [←hF2,List.length_append,lF];rfl
 refine sq4_of ?_
 refine asgC_of (F:=F2) rfl ?_
 refine consE ?_
 refine fldK (ds:=[]) (t:=.int 0) (fun Q X q=>q) rfl rfl (by decide +kernel) (List.mem_singleton.mpr rfl) (by simp [sel,List.lookup]) fun M13 g13=> ?_
 refine consE ?_
 refine fldX (ds:=[.int n]) (t:=.int n) (fun Q X q=>q) rfl (by simp [f0]) (List.mem_singleton.mpr rfl) (by simp [List.lookup]) fun M14 g14=> ?_
 refine consE ?_
 refine fldK (ds:=[.int (n+3)]) (t:=.int (n+3)) (fun Q X q=>q) rfl rfl (by simp [sel,ff]) (List.mem_singleton.mpr rfl) (by simp [sel,List.lookup]) fun M15 g15=> ?_
 refine nil_of ⟨by show 3≤sizeLine;decide,by rw [lF2];show 16+3≤sizeLine;decide, ?_⟩
 dsimp only
 show ret4 _ _ (sb A B ln n (.val (.ref a)) (.val (.ref b)) (.val (.ref d)) (.val (.lst (F2++f4 n))) s8 .no) M15
 generalize hF3:F2++f4 n=F3
 have lF3:F3.length=19:=by rw [←hF3,List.length_append,lF2];rfl
 refine (show op4 addP (pu (v3 7)) (lst4 _) _ M15 Q _ from ?_)
 refine cat_of (F:=F3) rfl ?_
 refine lst_of ?_
 refine consE ?_
 refine fldX (ds:=[.int n]) (t:=.int n) (fun Q X q=>q) rfl (by simp [f0]) (List.mem_singleton.mpr rfl) (by simp [List.lookup]) fun M16 g16=> ?_
 refine consE ?_
 refine fldK (ds:=[.int (n+4)]) (t:=.int (n+4)) (fun Q X q=>q) rfl rfl (by simp [sel,ff]) (List.mem_singleton.mpr rfl) (by simp [sel,List.lookup]) fun M17 g17=> ?_
 refine nil_of ⟨by show 2≤sizeLine;decide,[.int n,.int (n+4)],rfl,by rw [lF3];show 19+2≤sizeLine;decide, ?_⟩
 have gg:Grow M M17:=gm9.trans (g10.trans (g11.trans (g12.trans (g13.trans (g14.trans (g15.trans (g16.trans g17)))))))
 have e:=h M17 gg
 unfold dueL at e
 rw [hF,hF2,hF3] at e
 exact e
end
section
variable {C:Cs} {M:Mem} {N:N4} {p:Addr} {ns:List Int} {s2 s3 s4 s5 s6 s7 s8 s9 s10 s11 s12:Sl} {s:Int}
abbrev sl (p:Addr) (s:Int) (s2 s3 s4 s5 s6 s7 s8 s9 s10 s11 s12:Sl):List Sl:=[.val (.ref p),.val (.int s),s2,s3,s4,s5,s6,s7,s8,s9,s10,s11,s12]
theorem mem_cut {α:Type} {xs:List α} {lo hi:Option Int} {x:α} (h:x∈cut xs lo hi):x∈xs:=List.mem_of_mem_drop (List.mem_of_mem_take h)
theorem seed_ok (h0:0≤s) (h1:s<2147483647) (c:Int) (h:∀s',0≤s'→s'<2147483647→N.nx (sl p s' (.val (.int c)) s3 s4 s5 s6 s7 s8 s9 s10 s11 s12) M):law_2b C p ns N (sl p s (.val (.int c)) s3 s4 s5 s6 s7 s8 s9 s10 s11 s12) M:=by
 have cm:=mul_ok h0 h1
 have z:=h ((s * 48271+c % 1000003+11) % 2147483647) (by omega) (by omega)
 unfold law_2b law_2b_1
 simp [asg4,pu,seq3,next3,ret3,retN3,ifs3,drop3,asg3,name3,tst3,and3,or3,not3,andV3,orV3,notV3,if3,v3,k3,op3,un3,nil3,cons3,call3,tup3,lst3,chain3,fn30,fn3,fnN30,fnN3,fnP30,i2,i2c,i1,isN3,notN3,eqS3,neS3,ixL3,ixT3,len3,all3,any3,abs3,max23,min23,isi3,isB3,truth3,start3,slot,flatT,scal,tyn,M3.isNon,lenT,truT,isiB,Option.bind,take3,kbs,addP,mulP,ixP,slP,eqP,neP,isSeq,iterP,itemsP,no3,part3,sl3,raise3,brk3,cont3,M3.ltP,M3.leP,M3.gtP,M3.geP,i2c]
 exact ⟨cm,z⟩
theorem script_ok (h0:0≤s) (h1:s<2147483647) (h:∀s' s2,0≤s'→s'<2147483647→N.nx (sl p s' s2 s3 s4 s5 s6 s7 s8 s9 s10 s11 s12) M):law_2 C p ns N (sl p s s2 s3 s4 s5 s6 s7 s8 s9 s10 s11 s12) M:=by
 unfold law_2
 have sd:=fun (N:N4) (s:Int) h0 h1 c h=>seed_ok (C:=C) (ns:=ns) (p:=p) (N:=N) (M:=M) (s3:=s3) (s4:=s4) (s5:=s5) (s6:=s6) (s7:=s7) (s8:=s8) (s9:=s9) (s10:=s10) (s11:=s11) (s12:=s12) (s:=s) h0 h1 c h
 generalize law_2b C p ns=B at sd
 have go:∀(ds:List T) (s:Int) (s2:Sl),(∀d∈ds,∃i,d= .int i)→0≤s→s<2147483647→loop4 (name3 2) B N ds (sl p s s2 s3 s4 s5 s6 s7 s8 s9 s10 s11 s12) M:=by
  intro ds
  induction ds with
  | nil=>intro s s2 _ h0 h1;exact h s s2 h0 h1
  | cons d ds ih=>
    intro s s2 hd h0 h1
    obtain ⟨i,rfl⟩:=hd d (List.mem_cons_self ..)
    rw [lp4_cons]
    refine sd _ s h0 h1 i fun s' h0' h1'=> ?_
    exact ih s' _ (fun d hd'=>hd d (List.mem_cons_of_mem _ hd')) h0' h1'
 have hd:∀d∈cut (ns.map T.int) none (some 63),∃i,d= .int i:=fun d hd=>by
  obtain ⟨i,_,rfl⟩:=List.mem_map.mp (mem_cut hd)
  exact ⟨i,rfl⟩
 have z:=go (cut (ns.map T.int) none (some 63)) s s2 hd h0 h1
 simp [for4,iterP,scr3,v3,slot,no3,part3,k3,itemsP]
 exact z
theorem t1_ok (h0:0≤s) (h1:s<2147483647) (h:∀s',0≤s'→s'<2147483647→N.nx (sl p s' s2 s3 s4 s5 s6 s7 s8 s9 s10 s11 s12) M):law_4b_1 C p ns N (sl p s s2 s3 s4 s5 s6 s7 s8 s9 s10 s11 s12) M:=by
 have cm:=mul_ok h0 h1
 have z:=h ((s * 48271+11) % 2147483647) (by omega) (by omega)
 unfold law_4b_1
 simp [asg4,pu,seq3,next3,ret3,retN3,ifs3,drop3,asg3,name3,tst3,and3,or3,not3,andV3,orV3,notV3,if3,v3,k3,op3,un3,nil3,cons3,call3,tup3,lst3,chain3,fn30,fn3,fnN30,fnN3,fnP30,i2,i2c,i1,isN3,notN3,eqS3,neS3,ixL3,ixT3,len3,all3,any3,abs3,max23,min23,isi3,isB3,truth3,start3,slot,flatT,scal,tyn,M3.isNon,lenT,truT,isiB,Option.bind,take3,kbs,addP,mulP,ixP,slP,eqP,neP,isSeq,iterP,itemsP,no3,part3,sl3,raise3,brk3,cont3,M3.ltP,M3.leP,M3.gtP,M3.geP,i2c]
 exact ⟨cm,z⟩
theorem t2_ok (h0:0≤s) (h:∀x,Nm x→N.nx (sl p s s2 (.val (.str LET)) s4 (.val (.str x)) s6 s7 s8 s9 s10 s11 s12) M):law_4b_2 C p ns N (sl p s s2 (.val (.str LET)) s4 s5 s6 s7 s8 s9 s10 s11 s12) M:=by
 have lt:=fun (Q:T→Prop) (h:∀c,c∈LET.cps.toList→Q (.str ⟨#[c]⟩))=>letter (k:=s / 7 % 26) (by omega) (by omega) h
 unfold law_4b_2
 generalize ixP=E at lt ⊢
 simp [asg4,pu,seq3,next3,ret3,retN3,ifs3,drop3,asg3,name3,tst3,and3,or3,not3,andV3,orV3,notV3,if3,v3,k3,op3,un3,nil3,cons3,call3,tup3,lst3,chain3,fn30,fn3,fnN30,fnN3,fnP30,i2,i2c,i1,isN3,notN3,eqS3,neS3,ixL3,ixT3,len3,all3,any3,abs3,max23,min23,isi3,isB3,truth3,start3,slot,flatT,scal,tyn,M3.isNon,lenT,truT,isiB,Option.bind,take3,kbs,addP,mulP,ixP,slP,isSeq,iterP,itemsP,no3,part3,sl3,raise3,brk3,cont3,M3.ltP,M3.leP,M3.gtP,M3.geP,i2c]
 refine ⟨div_ok (by decide) (by decide +kernel),lt _ fun c hc=> ?_⟩
 obtain ⟨e1,_,e3,_⟩:=let_all c hc
 exact h _ ⟨e1,by omega⟩
theorem t3_ok (h0:0≤s) (h:∀x,Nm x→N.nx (sl p s s2 (.val (.str LET)) s4 s5 (.val (.str x)) s7 s8 s9 s10 s11 s12) M):law_4b_3 C p ns N (sl p s s2 (.val (.str LET)) s4 s5 s6 s7 s8 s9 s10 s11 s12) M:=by
 have lt:=fun (Q:T→Prop) (h:∀c,c∈LET.cps.toList→Q (.str ⟨#[c]⟩))=>letter (k:=s / 401 % 26) (by omega) (by omega) h
 unfold law_4b_3
 generalize ixP=E at lt ⊢
 simp [asg4,pu,seq3,next3,ret3,retN3,ifs3,drop3,asg3,name3,tst3,and3,or3,not3,andV3,orV3,notV3,if3,v3,k3,op3,un3,nil3,cons3,call3,tup3,lst3,chain3,fn30,fn3,fnN30,fnN3,fnP30,i2,i2c,i1,isN3,notN3,eqS3,neS3,ixL3,ixT3,len3,all3,any3,abs3,max23,min23,isi3,isB3,truth3,start3,slot,flatT,scal,tyn,M3.isNon,lenT,truT,isiB,Option.bind,take3,kbs,addP,mulP,ixP,slP,isSeq,iterP,itemsP,no3,part3,sl3,raise3,brk3,cont3,M3.ltP,M3.leP,M3.gtP,M3.geP,i2c]
 refine ⟨div_ok (by decide) (by decide +kernel),lt _ fun c hc=> ?_⟩
 obtain ⟨_,e2,e3,e4⟩:=let_all c hc
 refine ⟨?_,h _ ⟨e2,by omega⟩⟩
 have e5:Str.length ("row":Str)≤3:=by decide +kernel
 have e6:(4:Nat)≤sizeLine:=by decide
 show Str.length ("row":Str)+Str.length ⟨#[c]⟩≤sizeLine
 omega
theorem t4_ok (h0:0≤s) {k:Int} (hk:0≤k) (h:∀n,0≤n→n<1000000000→N.nx (sl p s s2 s3 (.val (.int k)) s5 s6 (.val (.int n)) s8 s9 s10 s11 s12) M):law_4b_4 C p ns N (sl p s s2 s3 (.val (.int k)) s5 s6 s7 s8 s9 s10 s11 s12) M:=by
 unfold law_4b_4
 simp [asg4,pu,seq3,next3,ret3,retN3,ifs3,drop3,asg3,name3,tst3,and3,or3,not3,andV3,orV3,notV3,if3,v3,k3,op3,un3,nil3,cons3,call3,tup3,lst3,chain3,fn30,fn3,fnN30,fnN3,fnP30,i2,i2c,i1,isN3,notN3,eqS3,neS3,ixL3,ixT3,len3,all3,any3,abs3,max23,min23,isi3,isB3,truth3,start3,slot,flatT,scal,tyn,M3.isNon,lenT,truT,isiB,Option.bind,take3,kbs,addP,mulP,ixP,slP,eqP,neP,isSeq,iterP,itemsP,no3,part3,sl3,raise3,brk3,cont3,M3.ltP,M3.leP,M3.gtP,M3.geP,i2c,CPow]
 refine ⟨div_ok (by decide) (by decide +kernel),by decide, ?_⟩
 have hk2:k % 2=0∨k % 2=1:=by omega
 rcases hk2 with e | e
 · rw [e]
   exact ⟨by decide,h _ (by omega) (by omega)⟩
 · rw [e]
   exact ⟨by decide,h _ (by omega) (by omega)⟩
theorem t5_ok (h0:0≤s) {n:Int} (h:∀t,Da t→N.nx (sl p s s2 s3 s4 s5 s6 (.val (.int n)) (.val t) s9 s10 s11 s12) M):law_4b_5 C p ns N (sl p s s2 s3 s4 s5 s6 (.val (.int n)) s8 s9 s10 s11 s12) M:=by
 have z:=h _ (line_da n (-n) (k:=1+s / 4096 % 3) (by omega) (by omega))
 unfold law_4b_5
 simp [asg4,pu,seq3,next3,ret3,retN3,ifs3,drop3,asg3,name3,tst3,and3,or3,not3,andV3,orV3,notV3,if3,v3,k3,op3,un3,nil3,cons3,call3,tup3,lst3,chain3,fn30,fn3,fnN30,fnN3,fnP30,i2,i2c,i1,isN3,notN3,eqS3,neS3,ixL3,ixT3,len3,all3,any3,abs3,max23,min23,isi3,isB3,truth3,start3,slot,flatT,scal,tyn,M3.isNon,lenT,truT,isiB,Option.bind,take3,kbs,addP,mulP,ixP,slP,eqP,neP,isSeq,iterP,itemsP,no3,part3,sl3,raise3,brk3,cont3,M3.ltP,M3.leP,M3.gtP,M3.geP,i2c]
 exact ⟨by decide,div_ok (by decide) (by decide +kernel),z⟩
theorem t6_ok {A B:Str} {ln:T} {n:Int} (h:N.nx (sl p s s2 s3 s4 (.val (.str A)) (.val (.str B)) (.val (.int n)) (.val ln) (.val (.lst (dueL A B ln n))) s10 s11 s12) M):law_4b_6 C p ns N (sl p s s2 s3 s4 (.val (.str A)) (.val (.str B)) (.val (.int n)) (.val ln) s9 s10 s11 s12) M:=by
 unfold law_4b_6
 refine (show (21:Nat)≤sizeLine∧_ from ⟨by decide, ?_⟩)
 exact h
theorem t7_ok {A B:Str} {n:Int} (R:Rm A B n) (h:∀a M',Grow M M'→cellX M' a=some (C.at_ "Tie",tieL (.str A) (.int n) (.int n))→N.nx (sl p s s2 s3 s4 (.val (.str A)) s6 (.val (.int n)) s8 s9 (.val (.ref a)) s11 s12) M'):law_4b_7 C p ns N (sl p s s2 s3 s4 (.val (.str A)) s6 (.val (.int n)) s8 s9 s10 s11 s12) M:=by
 have f0:fmtB (some (.int n))=true:=decide_eq_true (fmt_int (by have:=R.n0;omega) (by have:=R.n1;omega))
 unfold law_4b_7
 exact mkK_of (ds:=[.str A,.int n,.int n]) (fun Q X q=>q) rfl rfl (by simp [sel,f0]) fun a M' g c=>h a M' g c
theorem t8_ok {A B:Str} {n:Int} (R:Rm A B n) (h:∀a M',Grow M M'→cellX M' a=some (C.at_ "Tie",tieL (.str B) (.int 0) (.int (n+9)))→N.nx (sl p s s2 s3 s4 s5 (.val (.str B)) (.val (.int n)) s8 s9 s10 (.val (.ref a)) s12) M'):law_4b_8 C p ns N (sl p s s2 s3 s4 s5 (.val (.str B)) (.val (.int n)) s8 s9 s10 s11 s12) M:=by
 have f0:fmtB (some (.int 0))=true:=by decide +kernel
 have f9:fmtB (some (.int (n+9)))=true:=decide_eq_true (R.fi (by decide) (by decide))
 unfold law_4b_8
 exact mkK_of (ds:=[.str B,.int 0,.int (n+9)]) (fun Q X q=>q) rfl rfl (by simp [sel,f0,f9]) fun a M' g c=>h a M' g c
theorem due_da {A B:Str} {ln:T} {n:Int} (R:Rm A B n) (hl:Da ln):∀t∈dueL A B ln n,Da t:=by
 have a:=da_str R.a.ok
 have b:=da_str R.b.ok
 intro t ht
 simp only [dueL,f1,f2,f3_,f4,f5,List.cons_append,List.nil_append,List.mem_cons,List.not_mem_nil,or_false] at ht
 rcases ht with rfl | rfl | rfl | rfl | rfl | rfl | rfl | rfl | rfl | rfl | rfl | rfl | rfl | rfl | rfl | rfl | rfl | rfl | rfl | rfl | rfl<;>first | exact a | exact b | exact hl | exact da_int _
theorem t9_ok {A B:Str} {ln:T} {n:Int} (R:Rm A B n) (hl:Da ln) (h:∀M',Grow M M'→N.nx (sl p s s2 s3 s4 (.val (.str A)) (.val (.str B)) (.val (.int n)) (.val ln) (.val (.lst (dueL A B ln n))) s10 s11 s12) M'):law_4b_9 C p ns N (sl p s s2 s3 s4 (.val (.str A)) (.val (.str B)) (.val (.int n)) (.val ln) (.val (.lst (dueL A B ln n))) s10 s11 s12) M:=by
 unfold law_4b_9
 generalize law_4b_9t_1 C p ns=Bd
 refine (show (4=4)∧Lbear C [.str A,.str B,ln,.int n] M (fun d M1=>neP d (.lst (dueL A B ln n)) (fun z=>ob (asB z) fun b=>if b=true then Bd N _ M1 else next4 N _ M1)) _ from ⟨rfl, ?_⟩)
 refine bear_ok R fun M' g=>ne_self (due_da R hl) ?_
 rw [ob_bl,if_neg nf]
 exact h M' g
theorem t10_ok {A B:Str} {n:Int} {a b:Addr} (R:Rm A B n) (ca:cellX M a=some (C.at_ "Tie",tieL (.str A) (.int n) (.int n))) (cb:cellX M b=some (C.at_ "Tie",tieL (.str B) (.int 0) (.int (n+9))))
 (h:N.nx (sl p s s2 s3 s4 (.val (.str A)) (.val (.str B)) (.val (.int n)) s8 s9 (.val (.ref a)) (.val (.ref b)) s12) M):law_4b_10 C p ns N (sl p s s2 s3 s4 (.val (.str A)) (.val (.str B)) (.val (.int n)) s8 s9 (.val (.ref a)) (.val (.ref b)) s12) M:=by
 unfold law_4b_10
 generalize law_4b_10t_1 C p ns=Bd
 refine (show op4 neP (lst4 _) _ _ M (fun z M1=>ob (asB z) fun b=>if b=true then Bd N _ M1 else next4 N _ M1) _ from ?_)
 refine (show lst4 _ _ M (fun d M1=>(4:Nat)≤sizeLine∧neP d (.lst [.str A,.int n,.str B,.int (n+9)]) (fun z=>ob (asB z) fun b=>if b=true then Bd N _ M1 else next4 N _ M1)) _ from ?_)
 refine lst_of ?_
 refine consE ?_
 refine fldV rfl ca (List.mem_singleton.mpr rfl) (t:=.str A) (by simp [tieL,List.lookup,l1,l2,l3]) ?_
 refine consE ?_
 refine fldV rfl ca (List.mem_singleton.mpr rfl) (t:=.int n) (by simp [tieL,List.lookup,l1,l2,l3]) ?_
 refine consE ?_
 refine fldV rfl cb (List.mem_singleton.mpr rfl) (t:=.str B) (by simp [tieL,List.lookup,l1,l2,l3]) ?_
 refine consE ?_
 refine fldV rfl cb (List.mem_singleton.mpr rfl) (t:=.int (n+9)) (by simp [tieL,List.lookup,l1,l2,l3]) ?_
 refine nil_of ⟨by show 4≤sizeLine;decide,by decide, ?_⟩
 refine ne_self (xs:=[.str A,.int n,.str B,.int (n+9)]) (fun t ht=> ?_) ?_
 · simp only [List.mem_cons,List.not_mem_nil,or_false] at ht
   rcases ht with rfl | rfl | rfl | rfl
   · exact da_str R.a.ok
   · exact da_int _
   · exact da_str R.b.ok
   · exact da_int _
 rw [ob_bl,if_neg nf]
 exact h
theorem isV {Q:T→Mem→Prop} {X:XM} {σ:List Sl} {C D:Addr} {b:Bool} {i:Nat} {a:Addr} {gs:List (Str×T)} (hs:slot σ i=some (.ref a)) (hc:cellX M a=some (C,gs)) (h:Q (.bl b) M):isX4 C D b (pu (v3 i)) σ M Q X:=by
 show ob (slot σ i) _
 rw [hs,ob_some]
 show ob (some a) _
 rw [ob_some,hc,ob_some]
 exact ⟨rfl,h⟩
theorem notX {Q:Bool→Mem→Prop} {X:XM} {σ:List Sl} {C D:Addr} {b:Bool} {i:Nat} {a:Addr} {gs:List (Str×T)} (hs:slot σ i=some (.ref a)) (hc:cellX M a=some (C,gs)) (h:Q (!b) M):not4 (tst4 (isX4 C D b (pu (v3 i)))) σ M Q X:=by
 unfold not4 tst4
 refine isV hs hc ?_
 rw [ob_bl]
 exact h
theorem isK {Q:T→Mem→Prop} {X:XM} {σ:List Sl} {C D:Addr} {b:Bool} {fs:List Str} {mis is:List Nat} {m:Nat} {dts ds:List T} {x:A3} (hx:∀(Q:List T→Prop) X,Q ds→x σ Q X) (hm:ds.length=m) (hl:(sel is (ds++dts)).length=fs.length) (hf:(mis.all fun i=>fmtB (sel is (ds++dts))[i]?)=true)
 (h:∀M',Grow M M'→Q (.bl b) M'):isX4 C D b (mkXK4 C fs mis m is dts x) σ M Q X:=by
 unfold isX4
 refine mkK_of hx hm hl hf fun a M' g c=> ?_
 show ob (some a) _
 rw [ob_some,c,ob_some]
 exact ⟨rfl,h M' g⟩
theorem t11_ok {a:Addr} {gs:List (Str×T)} (ca:cellX M a=some (C.at_ "Tie",gs)) (h:∀M',Grow M M'→N.nx (sl p s s2 s3 s4 s5 s6 s7 s8 s9 (.val (.ref a)) s11 (.val (.lst [.bl true,.bl false,.bl true]))) M'):law_4b_11 C p ns N (sl p s s2 s3 s4 s5 s6 s7 s8 s9 (.val (.ref a)) s11 s12) M:=by
 unfold law_4b_11
 refine asgL_of ?_
 refine consE ?_
 refine isV rfl ca ?_
 refine consE ?_
 refine isV rfl ca ?_
 refine consE ?_
 refine isK (ds:=[]) (fun Q X q=>q) rfl rfl (by decide +kernel) fun M1 g1=> ?_
 exact nil_of ⟨by show 3≤sizeLine;decide,h M1 g1⟩
theorem t12_ok {b:Addr} {gs:List (Str×T)} (cb:cellX M b=some (C.at_ "Tie",gs)) (h:N.nx (sl p s s2 s3 s4 s5 s6 s7 s8 s9 s10 (.val (.ref b)) (.val (.lst [.bl true,.bl false,.bl true]))) M):law_4b_12 C p ns N (sl p s s2 s3 s4 s5 s6 s7 s8 s9 s10 (.val (.ref b)) (.val (.lst [.bl true,.bl false,.bl true]))) M:=by
 unfold law_4b_12
 generalize law_4b_12t_1 C p ns=Bd
 refine (show (3:Nat)≤sizeLine∧neP (.lst [.bl true,.bl false,.bl true]) (.lst [.bl true,.bl false,.bl true]) (fun z=>ob (asB z) fun x=>if x=true then _ else _) from ⟨by decide, ?_⟩)
 refine ne_self (fun t ht=> ?_) ?_
 · simp only [List.mem_cons,List.not_mem_nil,or_false] at ht
   rcases ht with rfl | rfl | rfl<;>exact da_bl _
 rw [ob_bl,if_neg nf]
 exact notX rfl cb h
theorem turn (h0:0≤s) (h1:s<2147483647) {k:Int} (hk:0≤k) (h:∀s' s5 s6 s7 s8 s9 s10 s11 s12 M',0≤s'→s'<2147483647→N.nx (sl p s' s2 (.val (.str LET)) (.val (.int k)) s5 s6 s7 s8 s9 s10 s11 s12) M'):law_4b C p ns N (sl p s s2 (.val (.str LET)) (.val (.int k)) s5 s6 s7 s8 s9 s10 s11 s12) M:=by
 unfold law_4b
 refine sq4_of (t1_ok h0 h1 fun s h0 h1=> ?_)
 dsimp only
 refine sq4_of (t2_ok h0 fun A hA=> ?_)
 dsimp only
 refine sq4_of (t3_ok h0 fun B hB=> ?_)
 dsimp only
 refine sq4_of (t4_ok h0 hk fun n n0 n1=> ?_)
 have R:Rm A B n:=⟨hA,hB,n0,n1⟩
 dsimp only
 refine sq4_of (t5_ok h0 fun ln hl=> ?_)
 dsimp only
 refine sq4_of (t6_ok ?_)
 dsimp only
 refine sq4_of (t7_ok R fun a M1 g1 ca=> ?_)
 dsimp only
 refine sq4_of (t8_ok R fun b M2 g2 cb=> ?_)
 dsimp only
 refine sq4_of (t9_ok R hl fun M3 g3=> ?_)
 have ca3:=g3 _ _ (g2 _ _ ca)
 have cb3:=g3 _ _ cb
 dsimp only
 refine sq4_of (t10_ok R ca3 cb3 ?_)
 dsimp only
 refine sq4_of (t11_ok ca3 fun M4 g4=> ?_)
 dsimp only
 exact t12_ok (g4 _ _ cb3) (h _ _ _ _ _ _ _ _ _ _ h0 h1)
end
theorem st1 {C:Cs} {p:Addr} {ns:List Int} {N:N4} {M:Mem} (h:N.nx (sl p 7 .no .no .no .no .no .no .no .no .no .no .no) M):law_1 C p ns N (Sl.val (.ref p)::List.replicate 12 Sl.no) M:=h
theorem st3 {C:Cs} {p:Addr} {ns:List Int} {N:N4} {M:Mem} {s:Int} {s2:Sl} (h:N.nx (sl p s s2 (.val (.str LET)) .no .no .no .no .no .no .no .no .no) M):law_3 C p ns N (sl p s s2 .no .no .no .no .no .no .no .no .no .no) M:=h
theorem law_plain (C:Cs):Plain C:=by
 intro p ns
 unfold lawB
 refine sq4_of (st1 ?_)
 dsimp only
 refine sq4_of (script_ok (by decide) (by decide) fun s s2 h0 h1=> ?_)
 dsimp only
 refine sq4_of (st3 ?_)
 dsimp only
 refine sq4_of ?_
 unfold law_4
 have tn:=fun (N:N4) (M:Mem) (s k:Int) s5 s6 s7 s8 s9 s10 s11 s12 h0 h1 hk h=>turn (C:=C) (p:=p) (ns:=ns) (N:=N) (M:=M) (s2:=s2) (s:=s) (k:=k) (s5:=s5) (s6:=s6) (s7:=s7) (s8:=s8) (s9:=s9) (s10:=s10) (s11:=s11) (s12:=s12) h0 h1 hk h
 generalize law_4b C p ns=B at tn
 have go:∀(ks:List Int) (N:N4) (M:Mem) (s:Int) s4 s5 s6 s7 s8 s9 s10 s11 s12,(∀k∈ks,0≤k)→0≤s→s<2147483647→(∀s s4 s5 s6 s7 s8 s9 s10 s11 s12 M',N.nx (sl p s s2 (.val (.str LET)) s4 s5 s6 s7 s8 s9 s10 s11 s12) M')→loop4 (name3 4) B N (ks.map T.int) (sl p s s2 (.val (.str LET)) s4 s5 s6 s7 s8 s9 s10 s11 s12) M:=by
  intro ks
  induction ks with
  | nil=>intro N M s s4 s5 s6 s7 s8 s9 s10 s11 s12 _ _ _ h;exact h ..
  | cons k ks ih=>
    intro N M s s4 s5 s6 s7 s8 s9 s10 s11 s12 hk h0 h1 h
    rw [List.map_cons,lp4_cons]
    refine tn _ _ s k _ _ _ _ _ _ _ _ h0 h1 (hk k (List.mem_cons_self ..)) fun s' s5 s6 s7 s8 s9 s10 s11 s12 M' h0' h1'=> ?_
    exact ih N M' s' _ _ _ _ _ _ _ _ _ (fun j hj=>hk j (List.mem_cons_of_mem _ hj)) h0' h1' h
 have e:rangeT 0 4=[0,1,2,3].map T.int:=rfl
 simp [for4,iterR3,cons3,nil3,k3,one,asI,e]
 refine go [0,1,2,3] _ _ s _ _ _ _ _ _ _ _ _ (by decide) h0 h1 fun s s4 s5 s6 s7 s8 s9 s10 s11 s12 M'=> ?_
 rfl
end Law
namespace Law
open PySem L2 M3
theorem all_mk {l:PySem.W.OpenLaw} {w:World} {K:PySem.W.Frag} {h:Heap} {mg:Str→Option Value} {fa:Addr} (X:K.In h) (G:h.Ns mainGlobals mg) (hfa:mg "law"=some (.ref fa))
 {f0:Addr} {od0 an0:Option Addr} {sl0:Array (Option Value)} {oc0 dc0 pm0 ct0:Value} {kV0:Value} {cd0:Value} {f1:Addr} {od1 an1:Option Addr} {sl1:Array (Option Value)} {oc1 dc1 pm1 ct1:Value} {kV1:Value} {cd1:Value} {C_BadName:Addr} {nm_BadName q_BadName:Str} {N_BadName:Addr} {bs_BadName bm_BadName:List Value} {sn_BadName:List Str} {sub_BadName:List Value} {ab_BadName:Bool} {col_BadName:Option Bool} {dd_BadName:Option Addr} {k0_BadName k1_BadName k2_BadName k3_BadName k5_BadName:Option Value} {fi_BadName:Addr} {oi_BadName ci_BadName di_BadName pi_BadName ti_BadName ki_BadName:Value} {odi_BadName ai_BadName:Option Addr} {si_BadName:Array (Option Value)} {C_BadText:Addr} {nm_BadText q_BadText:Str} {N_BadText:Addr} {bs_BadText bm_BadText:List Value} {sn_BadText:List Str} {sub_BadText:List Value} {ab_BadText:Bool} {col_BadText:Option Bool} {dd_BadText:Option Addr} {k0_BadText k1_BadText k2_BadText k3_BadText k5_BadText:Option Value} {fi_BadText:Addr} {oi_BadText ci_BadText di_BadText pi_BadText ti_BadText ki_BadText:Value} {odi_BadText ai_BadText:Option Addr} {si_BadText:Array (Option Value)} {Tx_BadText:Addr} {tox_BadText:Obj} {tix_BadText:List Value} {tnx_BadText:Nat} {wvx_BadText_0:Value} {C_Clash:Addr} {nm_Clash q_Clash:Str} {N_Clash:Addr} {bs_Clash bm_Clash:List Value} {sn_Clash:List Str} {sub_Clash:List Value} {ab_Clash:Bool} {col_Clash:Option Bool} {dd_Clash:Option Addr} {k0_Clash k1_Clash k2_Clash k3_Clash k5_Clash:Option Value} {fi_Clash:Addr} {oi_Clash ci_Clash di_Clash pi_Clash ti_Clash ki_Clash:Value} {odi_Clash ai_Clash:Option Addr} {si_Clash:Array (Option Value)} {C_DeedError:Addr} {C_FormError:Addr} {C_Lost:Addr} {nm_Lost q_Lost:Str} {N_Lost:Addr} {bs_Lost bm_Lost:List Value} {sn_Lost:List Str} {sub_Lost:List Value} {ab_Lost:Bool} {col_Lost:Option Bool} {dd_Lost:Option Addr} {k0_Lost k1_Lost k2_Lost k3_Lost k5_Lost:Option Value} {fi_Lost:Addr} {oi_Lost ci_Lost di_Lost pi_Lost ti_Lost ki_Lost:Value} {odi_Lost ai_Lost:Option Addr} {si_Lost:Array (Option Value)} {C_NoColumn:Addr} {nm_NoColumn q_NoColumn:Str} {N_NoColumn:Addr} {bs_NoColumn bm_NoColumn:List Value} {sn_NoColumn:List Str} {sub_NoColumn:List Value} {ab_NoColumn:Bool} {col_NoColumn:Option Bool} {dd_NoColumn:Option Addr} {k0_NoColumn k1_NoColumn k2_NoColumn k3_NoColumn k5_NoColumn:Option Value} {fi_NoColumn:Addr} {oi_NoColumn ci_NoColumn di_NoColumn pi_NoColumn ti_NoColumn ki_NoColumn:Value} {odi_NoColumn ai_NoColumn:Option Addr} {si_NoColumn:Array (Option Value)} {C_NoDealing:Addr} {nm_NoDealing q_NoDealing:Str} {N_NoDealing:Addr} {bs_NoDealing bm_NoDealing:List Value} {sn_NoDealing:List Str} {sub_NoDealing:List Value} {ab_NoDealing:Bool} {col_NoDealing:Option Bool} {dd_NoDealing:Option Addr} {k0_NoDealing k1_NoDealing k2_NoDealing k3_NoDealing k5_NoDealing:Option Value} {fi_NoDealing:Addr} {oi_NoDealing ci_NoDealing di_NoDealing pi_NoDealing ti_NoDealing ki_NoDealing:Value} {odi_NoDealing ai_NoDealing:Option Addr} {si_NoDealing:Array (Option Value)} {C_NoTable:Addr} {nm_NoTable q_NoTable:Str} {N_NoTable:Addr} {bs_NoTable bm_NoTable:List Value} {sn_NoTable:List Str} {sub_NoTable:List Value} {ab_NoTable:Bool} {col_NoTable:Option Bool} {dd_NoTable:Option Addr} {k0_NoTable k1_NoTable k2_NoTable k3_NoTable k5_NoTable:Option Value} {fi_NoTable:Addr} {oi_NoTable ci_NoTable di_NoTable pi_NoTable ti_NoTable ki_NoTable:Value} {odi_NoTable ai_NoTable:Option Addr} {si_NoTable:Array (Option Value)} {C_Overtaken:Addr} {nm_Overtaken q_Overtaken:Str} {N_Overtaken:Addr} {bs_Overtaken bm_Overtaken:List Value} {sn_Overtaken:List Str} {sub_Overtaken:List Value} {ab_Overtaken:Bool} {col_Overtaken:Option Bool} {dd_Overtaken:Option Addr} {k0_Overtaken k1_Overtaken k2_Overtaken k3_Overtaken k5_Overtaken:Option Value} {fi_Overtaken:Addr} {oi_Overtaken ci_Overtaken di_Overtaken pi_Overtaken ti_Overtaken ki_Overtaken:Value} {odi_Overtaken ai_Overtaken:Option Addr} {si_Overtaken:Array (Option Value)} {Tx_Overtaken:Addr} {tox_Overtaken:Obj} {tix_Overtaken:List Value} {tnx_Overtaken:Nat} {wvx_Overtaken_0:Value} {C_PourError:Addr} {C_Ring:Addr} {nm_Ring q_Ring:Str} {N_Ring:Addr} {bs_Ring bm_Ring:List Value} {sn_Ring:List Str} {sub_Ring:List Value} {ab_Ring:Bool} {col_Ring:Option Bool} {dd_Ring:Option Addr} {k0_Ring k1_Ring k2_Ring k3_Ring k5_Ring:Option Value} {fi_Ring:Addr} {oi_Ring ci_Ring di_Ring pi_Ring ti_Ring ki_Ring:Value} {odi_Ring ai_Ring:Option Addr} {si_Ring:Array (Option Value)} {C_Taken:Addr} {nm_Taken q_Taken:Str} {N_Taken:Addr} {bs_Taken bm_Taken:List Value} {sn_Taken:List Str} {sub_Taken:List Value} {ab_Taken:Bool} {col_Taken:Option Bool} {dd_Taken:Option Addr} {k0_Taken k1_Taken k2_Taken k3_Taken k5_Taken:Option Value} {fi_Taken:Addr} {oi_Taken ci_Taken di_Taken pi_Taken ti_Taken ki_Taken:Value} {odi_Taken ai_Taken:Option Addr} {si_Taken:Array (Option Value)} {C_Tie:Addr} {nm_Tie q_Tie:Str} {N_Tie:Addr} {bs_Tie bm_Tie:List Value} {sn_Tie:List Str} {sub_Tie:List Value} {ab_Tie:Bool} {col_Tie:Option Bool} {dd_Tie:Option Addr} {k0_Tie k1_Tie k2_Tie k3_Tie k5_Tie:Option Value} {fi_Tie:Addr} {oi_Tie ci_Tie di_Tie pi_Tie ti_Tie ki_Tie:Value} {odi_Tie ai_Tie:Option Addr} {si_Tie:Array (Option Value)} {C_Twice:Addr} {nm_Twice q_Twice:Str} {N_Twice:Addr} {bs_Twice bm_Twice:List Value} {sn_Twice:List Str} {sub_Twice:List Value} {ab_Twice:Bool} {col_Twice:Option Bool} {dd_Twice:Option Addr} {k0_Twice k1_Twice k2_Twice k3_Twice k5_Twice:Option Value} {fi_Twice:Addr} {oi_Twice ci_Twice di_Twice pi_Twice ti_Twice ki_Twice:Value} {odi_Twice ai_Twice:Option Addr} {si_Twice:Array (Option Value)}
 (a0:PySem.W.nsIn K mainGlobals "_law_bear"=some (some (.ref f0)))
 (l0:K.lookup f0=some ⟨oc0,od0,.func (PySem.W.fnOf "_law_bear" "_law_bear" (defArgs s_Lbear) (defBody s_Lbear) (defScope s_Lbear) .none kV0 dc0 pm0 an0 cd0 ct0),sl0⟩)
 (c0:PySem.W.codeIn K cd0 "_law_bear"=true)
 (k0:PySem.W.keepIn K (.ref f0)=true)
 (a1:PySem.W.nsIn K mainGlobals "law"=some (some (.ref f1)))
 (l1:K.lookup f1=some ⟨oc1,od1,.func (PySem.W.fnOf "law" "law" (defArgs s_law) (defBody s_law) (defScope s_law) .none kV1 dc1 pm1 an1 cd1 ct1),sl1⟩)
 (c1:PySem.W.codeIn K cd1 "law"=true)
 (k1:PySem.W.keepIn K (.ref f1)=true)
 (z_isinstance:PySem.W.nsIn K mainGlobals "isinstance"=some none)
 (z_range:PySem.W.nsIn K mainGlobals "range"=some none)
 (ac_BadName:PySem.W.nsIn K mainGlobals "BadName"=some (some (.ref C_BadName)))
 (xb_BadName:PySem.W.subIn K (.ref C_BadName) (.type "BaseException")=some true)
 (xt_BadName:PySem.W.typeIn K (.ref C_BadName)=some (.type "type"))
 (xl_BadName:K.lookup C_BadName=some (excClassObj nm_BadName q_BadName C_BadName N_BadName bs_BadName bm_BadName true sn_BadName sub_BadName ab_BadName col_BadName dd_BadName k0_BadName k1_BadName k2_BadName k3_BadName k5_BadName "ValueError.__new__"))
 (rv_BadName:PySem.HandSPX.refsVE bm_BadName=true)
 (xk_BadName:PySem.W.keepIn K (.ref C_BadName)=true)
 (xs_BadName:PySem.W.findIn K (.ref C_BadName) "__setattr__"=some (some (.builtin "object.__setattr__")))
 (xn_BadName_name:PySem.W.findIn K (.ref C_BadName) "name"=some none)
 (xa_BadName:PySem.W.findIn K (.ref C_BadName) "__init__"=some (some (.ref fi_BadName)))
 (xm_BadName:K.lookup fi_BadName=some ⟨oi_BadName,odi_BadName,.func (PySem.W.fnOf "__init__" "BadName.__init__" (defArgs s_BadName_init) (defBody s_BadName_init) (defScope s_BadName_init) .none ki_BadName di_BadName pi_BadName ai_BadName ci_BadName ti_BadName),si_BadName⟩)
 (xc_BadName:PySem.W.codeIn K ci_BadName "BadName.__init__"=true)
 (xp_BadName:PySem.W.keepIn K (.ref fi_BadName)=true)
 (xf_BadName:PySem.W.isFn K (.ref fi_BadName)=true)
 (hga_BadName:PySem.W.findIn K (.ref C_BadName) "__getattribute__"=some (some (.builtin "BaseException.__getattribute__")))
 (hgt_BadName:PySem.W.findIn K (.ref C_BadName) "__getattr__"=some none)
 (hhd_BadName:PySem.W.hasDictIn K C_BadName=true)
 (hca_BadName:PySem.W.findIn K (.ref C_BadName) "__class__"=some (some (.builtin "object.__class__")))
 (hsp_BadName:PySem.W.specialIn K (.builtin "object.__class__") "__get__"=some (some (.builtin "getset_descriptor.__get__")))
 (htk_BadName:PySem.W.takesIn K (.builtin "object.__class__")=some true)
 (hmr_BadName:PySem.W.mroIn K C_BadName (.type "object")=some true)
 (ac_BadText:PySem.W.nsIn K mainGlobals "BadText"=some (some (.ref C_BadText)))
 (xb_BadText:PySem.W.subIn K (.ref C_BadText) (.type "BaseException")=some true)
 (xt_BadText:PySem.W.typeIn K (.ref C_BadText)=some (.type "type"))
 (xl_BadText:K.lookup C_BadText=some (excClassObj nm_BadText q_BadText C_BadText N_BadText bs_BadText bm_BadText true sn_BadText sub_BadText ab_BadText col_BadText dd_BadText k0_BadText k1_BadText k2_BadText k3_BadText k5_BadText "ValueError.__new__"))
 (rv_BadText:PySem.HandSPX.refsVE bm_BadText=true)
 (xk_BadText:PySem.W.keepIn K (.ref C_BadText)=true)
 (xs_BadText:PySem.W.findIn K (.ref C_BadText) "__setattr__"=some (some (.builtin "object.__setattr__")))
 (xn_BadText_at:PySem.W.findIn K (.ref C_BadText) "at"=some none)
 (xa_BadText:PySem.W.findIn K (.ref C_BadText) "__init__"=some (some (.ref fi_BadText)))
 (xm_BadText:K.lookup fi_BadText=some ⟨oi_BadText,odi_BadText,.func (PySem.W.fnOf "__init__" "BadText.__init__" (defArgs s_BadText_init) (defBody s_BadText_init) (defScope s_BadText_init) (.ref Tx_BadText) ki_BadText di_BadText pi_BadText ai_BadText ci_BadText ti_BadText),si_BadText⟩)
 (xc_BadText:PySem.W.codeIn K ci_BadText "BadText.__init__"=true)
 (xp_BadText:PySem.W.keepIn K (.ref fi_BadText)=true)
 (tvx_BadText:K.lookup Tx_BadText=some tox_BadText)
 (tvd_BadText:tox_BadText.data= .seq tix_BadText.toArray tnx_BadText)
 (tvs_BadText:tix_BadText=[wvx_BadText_0])
 (yvx_BadText_0:TreeAt K (.int 0) wvx_BadText_0)
 (xf_BadText:PySem.W.isFn K (.ref fi_BadText)=true)
 (hga_BadText:PySem.W.findIn K (.ref C_BadText) "__getattribute__"=some (some (.builtin "BaseException.__getattribute__")))
 (hgt_BadText:PySem.W.findIn K (.ref C_BadText) "__getattr__"=some none)
 (hhd_BadText:PySem.W.hasDictIn K C_BadText=true)
 (hca_BadText:PySem.W.findIn K (.ref C_BadText) "__class__"=some (some (.builtin "object.__class__")))
 (hsp_BadText:PySem.W.specialIn K (.builtin "object.__class__") "__get__"=some (some (.builtin "getset_descriptor.__get__")))
 (htk_BadText:PySem.W.takesIn K (.builtin "object.__class__")=some true)
 (hmr_BadText:PySem.W.mroIn K C_BadText (.type "object")=some true)
 (ac_Clash:PySem.W.nsIn K mainGlobals "Clash"=some (some (.ref C_Clash)))
 (xb_Clash:PySem.W.subIn K (.ref C_Clash) (.type "BaseException")=some true)
 (xt_Clash:PySem.W.typeIn K (.ref C_Clash)=some (.type "type"))
 (xl_Clash:K.lookup C_Clash=some (excClassObj nm_Clash q_Clash C_Clash N_Clash bs_Clash bm_Clash true sn_Clash sub_Clash ab_Clash col_Clash dd_Clash k0_Clash k1_Clash k2_Clash k3_Clash k5_Clash "ValueError.__new__"))
 (rv_Clash:PySem.HandSPX.refsVE bm_Clash=true)
 (xk_Clash:PySem.W.keepIn K (.ref C_Clash)=true)
 (xs_Clash:PySem.W.findIn K (.ref C_Clash) "__setattr__"=some (some (.builtin "object.__setattr__")))
 (xn_Clash_table:PySem.W.findIn K (.ref C_Clash) "table"=some none)
 (xn_Clash_cells:PySem.W.findIn K (.ref C_Clash) "cells"=some none)
 (xa_Clash:PySem.W.findIn K (.ref C_Clash) "__init__"=some (some (.ref fi_Clash)))
 (xm_Clash:K.lookup fi_Clash=some ⟨oi_Clash,odi_Clash,.func (PySem.W.fnOf "__init__" "Clash.__init__" (defArgs s_Clash_init) (defBody s_Clash_init) (defScope s_Clash_init) .none ki_Clash di_Clash pi_Clash ai_Clash ci_Clash ti_Clash),si_Clash⟩)
 (xc_Clash:PySem.W.codeIn K ci_Clash "Clash.__init__"=true)
 (xp_Clash:PySem.W.keepIn K (.ref fi_Clash)=true)
 (xf_Clash:PySem.W.isFn K (.ref fi_Clash)=true)
 (hga_Clash:PySem.W.findIn K (.ref C_Clash) "__getattribute__"=some (some (.builtin "BaseException.__getattribute__")))
 (hgt_Clash:PySem.W.findIn K (.ref C_Clash) "__getattr__"=some none)
 (hhd_Clash:PySem.W.hasDictIn K C_Clash=true)
 (hca_Clash:PySem.W.findIn K (.ref C_Clash) "__class__"=some (some (.builtin "object.__class__")))
 (hsp_Clash:PySem.W.specialIn K (.builtin "object.__class__") "__get__"=some (some (.builtin "getset_descriptor.__get__")))
 (htk_Clash:PySem.W.takesIn K (.builtin "object.__class__")=some true)
 (hmr_Clash:PySem.W.mroIn K C_Clash (.type "object")=some true)
 (ac_DeedError:PySem.W.nsIn K mainGlobals "DeedError"=some (some (.ref C_DeedError)))
 (xb_DeedError:PySem.W.subIn K (.ref C_DeedError) (.type "BaseException")=some true)
 (xt_DeedError:PySem.W.typeIn K (.ref C_DeedError)=some (.type "type"))
 (vs_DeedError:PySem.W.specialIn K (.ref C_DeedError) "__getattribute__"=some (some (.builtin "type.__getattribute__")))
 (vr_DeedError:PySem.W.readsIn K C_DeedError (.type "type")=true)
 (vf_DeedError:PySem.W.findCls K (.ref C_DeedError) (.type "type") "__init__"=some (.val (.builtin "ValueError.__init__")))
 (hic_DeedError:PySem.W.isClsIn K C_DeedError=true)
 (ac_FormError:PySem.W.nsIn K mainGlobals "FormError"=some (some (.ref C_FormError)))
 (xb_FormError:PySem.W.subIn K (.ref C_FormError) (.type "BaseException")=some true)
 (xt_FormError:PySem.W.typeIn K (.ref C_FormError)=some (.type "type"))
 (vs_FormError:PySem.W.specialIn K (.ref C_FormError) "__getattribute__"=some (some (.builtin "type.__getattribute__")))
 (vr_FormError:PySem.W.readsIn K C_FormError (.type "type")=true)
 (vf_FormError:PySem.W.findCls K (.ref C_FormError) (.type "type") "__init__"=some (.val (.builtin "ValueError.__init__")))
 (hic_FormError:PySem.W.isClsIn K C_FormError=true)
 (ac_Lost:PySem.W.nsIn K mainGlobals "Lost"=some (some (.ref C_Lost)))
 (xb_Lost:PySem.W.subIn K (.ref C_Lost) (.type "BaseException")=some true)
 (xt_Lost:PySem.W.typeIn K (.ref C_Lost)=some (.type "type"))
 (xl_Lost:K.lookup C_Lost=some (excClassObj nm_Lost q_Lost C_Lost N_Lost bs_Lost bm_Lost true sn_Lost sub_Lost ab_Lost col_Lost dd_Lost k0_Lost k1_Lost k2_Lost k3_Lost k5_Lost "ValueError.__new__"))
 (rv_Lost:PySem.HandSPX.refsVE bm_Lost=true)
 (xk_Lost:PySem.W.keepIn K (.ref C_Lost)=true)
 (xs_Lost:PySem.W.findIn K (.ref C_Lost) "__setattr__"=some (some (.builtin "object.__setattr__")))
 (xn_Lost_table:PySem.W.findIn K (.ref C_Lost) "table"=some none)
 (xn_Lost_row:PySem.W.findIn K (.ref C_Lost) "row"=some none)
 (xa_Lost:PySem.W.findIn K (.ref C_Lost) "__init__"=some (some (.ref fi_Lost)))
 (xm_Lost:K.lookup fi_Lost=some ⟨oi_Lost,odi_Lost,.func (PySem.W.fnOf "__init__" "Lost.__init__" (defArgs s_Lost_init) (defBody s_Lost_init) (defScope s_Lost_init) .none ki_Lost di_Lost pi_Lost ai_Lost ci_Lost ti_Lost),si_Lost⟩)
 (xc_Lost:PySem.W.codeIn K ci_Lost "Lost.__init__"=true)
 (xp_Lost:PySem.W.keepIn K (.ref fi_Lost)=true)
 (xf_Lost:PySem.W.isFn K (.ref fi_Lost)=true)
 (hga_Lost:PySem.W.findIn K (.ref C_Lost) "__getattribute__"=some (some (.builtin "BaseException.__getattribute__")))
 (hgt_Lost:PySem.W.findIn K (.ref C_Lost) "__getattr__"=some none)
 (hhd_Lost:PySem.W.hasDictIn K C_Lost=true)
 (hca_Lost:PySem.W.findIn K (.ref C_Lost) "__class__"=some (some (.builtin "object.__class__")))
 (hsp_Lost:PySem.W.specialIn K (.builtin "object.__class__") "__get__"=some (some (.builtin "getset_descriptor.__get__")))
 (htk_Lost:PySem.W.takesIn K (.builtin "object.__class__")=some true)
 (hmr_Lost:PySem.W.mroIn K C_Lost (.type "object")=some true)
 (ac_NoColumn:PySem.W.nsIn K mainGlobals "NoColumn"=some (some (.ref C_NoColumn)))
 (xb_NoColumn:PySem.W.subIn K (.ref C_NoColumn) (.type "BaseException")=some true)
 (xt_NoColumn:PySem.W.typeIn K (.ref C_NoColumn)=some (.type "type"))
 (xl_NoColumn:K.lookup C_NoColumn=some (excClassObj nm_NoColumn q_NoColumn C_NoColumn N_NoColumn bs_NoColumn bm_NoColumn true sn_NoColumn sub_NoColumn ab_NoColumn col_NoColumn dd_NoColumn k0_NoColumn k1_NoColumn k2_NoColumn k3_NoColumn k5_NoColumn "ValueError.__new__"))
 (rv_NoColumn:PySem.HandSPX.refsVE bm_NoColumn=true)
 (xk_NoColumn:PySem.W.keepIn K (.ref C_NoColumn)=true)
 (xs_NoColumn:PySem.W.findIn K (.ref C_NoColumn) "__setattr__"=some (some (.builtin "object.__setattr__")))
 (xn_NoColumn_name:PySem.W.findIn K (.ref C_NoColumn) "name"=some none)
 (xa_NoColumn:PySem.W.findIn K (.ref C_NoColumn) "__init__"=some (some (.ref fi_NoColumn)))
 (xm_NoColumn:K.lookup fi_NoColumn=some ⟨oi_NoColumn,odi_NoColumn,.func (PySem.W.fnOf "__init__" "NoColumn.__init__" (defArgs s_NoColumn_init) (defBody s_NoColumn_init) (defScope s_NoColumn_init) .none ki_NoColumn di_NoColumn pi_NoColumn ai_NoColumn ci_NoColumn ti_NoColumn),si_NoColumn⟩)
 (xc_NoColumn:PySem.W.codeIn K ci_NoColumn "NoColumn.__init__"=true)
 (xp_NoColumn:PySem.W.keepIn K (.ref fi_NoColumn)=true)
 (xf_NoColumn:PySem.W.isFn K (.ref fi_NoColumn)=true)
 (hga_NoColumn:PySem.W.findIn K (.ref C_NoColumn) "__getattribute__"=some (some (.builtin "BaseException.__getattribute__")))
 (hgt_NoColumn:PySem.W.findIn K (.ref C_NoColumn) "__getattr__"=some none)
 (hhd_NoColumn:PySem.W.hasDictIn K C_NoColumn=true)
 (hca_NoColumn:PySem.W.findIn K (.ref C_NoColumn) "__class__"=some (some (.builtin "object.__class__")))
 (hsp_NoColumn:PySem.W.specialIn K (.builtin "object.__class__") "__get__"=some (some (.builtin "getset_descriptor.__get__")))
 (htk_NoColumn:PySem.W.takesIn K (.builtin "object.__class__")=some true)
 (hmr_NoColumn:PySem.W.mroIn K C_NoColumn (.type "object")=some true)
 (ac_NoDealing:PySem.W.nsIn K mainGlobals "NoDealing"=some (some (.ref C_NoDealing)))
 (xb_NoDealing:PySem.W.subIn K (.ref C_NoDealing) (.type "BaseException")=some true)
 (xt_NoDealing:PySem.W.typeIn K (.ref C_NoDealing)=some (.type "type"))
 (xl_NoDealing:K.lookup C_NoDealing=some (excClassObj nm_NoDealing q_NoDealing C_NoDealing N_NoDealing bs_NoDealing bm_NoDealing true sn_NoDealing sub_NoDealing ab_NoDealing col_NoDealing dd_NoDealing k0_NoDealing k1_NoDealing k2_NoDealing k3_NoDealing k5_NoDealing "ValueError.__new__"))
 (rv_NoDealing:PySem.HandSPX.refsVE bm_NoDealing=true)
 (xk_NoDealing:PySem.W.keepIn K (.ref C_NoDealing)=true)
 (xs_NoDealing:PySem.W.findIn K (.ref C_NoDealing) "__setattr__"=some (some (.builtin "object.__setattr__")))
 (xn_NoDealing_number:PySem.W.findIn K (.ref C_NoDealing) "number"=some none)
 (xa_NoDealing:PySem.W.findIn K (.ref C_NoDealing) "__init__"=some (some (.ref fi_NoDealing)))
 (xm_NoDealing:K.lookup fi_NoDealing=some ⟨oi_NoDealing,odi_NoDealing,.func (PySem.W.fnOf "__init__" "NoDealing.__init__" (defArgs s_NoDealing_init) (defBody s_NoDealing_init) (defScope s_NoDealing_init) .none ki_NoDealing di_NoDealing pi_NoDealing ai_NoDealing ci_NoDealing ti_NoDealing),si_NoDealing⟩)
 (xc_NoDealing:PySem.W.codeIn K ci_NoDealing "NoDealing.__init__"=true)
 (xp_NoDealing:PySem.W.keepIn K (.ref fi_NoDealing)=true)
 (xf_NoDealing:PySem.W.isFn K (.ref fi_NoDealing)=true)
 (hga_NoDealing:PySem.W.findIn K (.ref C_NoDealing) "__getattribute__"=some (some (.builtin "BaseException.__getattribute__")))
 (hgt_NoDealing:PySem.W.findIn K (.ref C_NoDealing) "__getattr__"=some none)
 (hhd_NoDealing:PySem.W.hasDictIn K C_NoDealing=true)
 (hca_NoDealing:PySem.W.findIn K (.ref C_NoDealing) "__class__"=some (some (.builtin "object.__class__")))
 (hsp_NoDealing:PySem.W.specialIn K (.builtin "object.__class__") "__get__"=some (some (.builtin "getset_descriptor.__get__")))
 (htk_NoDealing:PySem.W.takesIn K (.builtin "object.__class__")=some true)
 (hmr_NoDealing:PySem.W.mroIn K C_NoDealing (.type "object")=some true)
 (ac_NoTable:PySem.W.nsIn K mainGlobals "NoTable"=some (some (.ref C_NoTable)))
 (xb_NoTable:PySem.W.subIn K (.ref C_NoTable) (.type "BaseException")=some true)
 (xt_NoTable:PySem.W.typeIn K (.ref C_NoTable)=some (.type "type"))
 (xl_NoTable:K.lookup C_NoTable=some (excClassObj nm_NoTable q_NoTable C_NoTable N_NoTable bs_NoTable bm_NoTable true sn_NoTable sub_NoTable ab_NoTable col_NoTable dd_NoTable k0_NoTable k1_NoTable k2_NoTable k3_NoTable k5_NoTable "ValueError.__new__"))
 (rv_NoTable:PySem.HandSPX.refsVE bm_NoTable=true)
 (xk_NoTable:PySem.W.keepIn K (.ref C_NoTable)=true)
 (xs_NoTable:PySem.W.findIn K (.ref C_NoTable) "__setattr__"=some (some (.builtin "object.__setattr__")))
 (xn_NoTable_name:PySem.W.findIn K (.ref C_NoTable) "name"=some none)
 (xa_NoTable:PySem.W.findIn K (.ref C_NoTable) "__init__"=some (some (.ref fi_NoTable)))
 (xm_NoTable:K.lookup fi_NoTable=some ⟨oi_NoTable,odi_NoTable,.func (PySem.W.fnOf "__init__" "NoTable.__init__" (defArgs s_NoTable_init) (defBody s_NoTable_init) (defScope s_NoTable_init) .none ki_NoTable di_NoTable pi_NoTable ai_NoTable ci_NoTable ti_NoTable),si_NoTable⟩)
 (xc_NoTable:PySem.W.codeIn K ci_NoTable "NoTable.__init__"=true)
 (xp_NoTable:PySem.W.keepIn K (.ref fi_NoTable)=true)
 (xf_NoTable:PySem.W.isFn K (.ref fi_NoTable)=true)
 (hga_NoTable:PySem.W.findIn K (.ref C_NoTable) "__getattribute__"=some (some (.builtin "BaseException.__getattribute__")))
 (hgt_NoTable:PySem.W.findIn K (.ref C_NoTable) "__getattr__"=some none)
 (hhd_NoTable:PySem.W.hasDictIn K C_NoTable=true)
 (hca_NoTable:PySem.W.findIn K (.ref C_NoTable) "__class__"=some (some (.builtin "object.__class__")))
 (hsp_NoTable:PySem.W.specialIn K (.builtin "object.__class__") "__get__"=some (some (.builtin "getset_descriptor.__get__")))
 (htk_NoTable:PySem.W.takesIn K (.builtin "object.__class__")=some true)
 (hmr_NoTable:PySem.W.mroIn K C_NoTable (.type "object")=some true)
 (ac_Overtaken:PySem.W.nsIn K mainGlobals "Overtaken"=some (some (.ref C_Overtaken)))
 (xb_Overtaken:PySem.W.subIn K (.ref C_Overtaken) (.type "BaseException")=some true)
 (xt_Overtaken:PySem.W.typeIn K (.ref C_Overtaken)=some (.type "type"))
 (xl_Overtaken:K.lookup C_Overtaken=some (excClassObj nm_Overtaken q_Overtaken C_Overtaken N_Overtaken bs_Overtaken bm_Overtaken true sn_Overtaken sub_Overtaken ab_Overtaken col_Overtaken dd_Overtaken k0_Overtaken k1_Overtaken k2_Overtaken k3_Overtaken k5_Overtaken "ValueError.__new__"))
 (rv_Overtaken:PySem.HandSPX.refsVE bm_Overtaken=true)
 (xk_Overtaken:PySem.W.keepIn K (.ref C_Overtaken)=true)
 (xs_Overtaken:PySem.W.findIn K (.ref C_Overtaken) "__setattr__"=some (some (.builtin "object.__setattr__")))
 (xn_Overtaken_number:PySem.W.findIn K (.ref C_Overtaken) "number"=some none)
 (xa_Overtaken:PySem.W.findIn K (.ref C_Overtaken) "__init__"=some (some (.ref fi_Overtaken)))
 (xm_Overtaken:K.lookup fi_Overtaken=some ⟨oi_Overtaken,odi_Overtaken,.func (PySem.W.fnOf "__init__" "Overtaken.__init__" (defArgs s_Overtaken_init) (defBody s_Overtaken_init) (defScope s_Overtaken_init) (.ref Tx_Overtaken) ki_Overtaken di_Overtaken pi_Overtaken ai_Overtaken ci_Overtaken ti_Overtaken),si_Overtaken⟩)
 (xc_Overtaken:PySem.W.codeIn K ci_Overtaken "Overtaken.__init__"=true)
 (xp_Overtaken:PySem.W.keepIn K (.ref fi_Overtaken)=true)
 (tvx_Overtaken:K.lookup Tx_Overtaken=some tox_Overtaken)
 (tvd_Overtaken:tox_Overtaken.data= .seq tix_Overtaken.toArray tnx_Overtaken)
 (tvs_Overtaken:tix_Overtaken=[wvx_Overtaken_0])
 (yvx_Overtaken_0:TreeAt K (.int 0) wvx_Overtaken_0)
 (xf_Overtaken:PySem.W.isFn K (.ref fi_Overtaken)=true)
 (hga_Overtaken:PySem.W.findIn K (.ref C_Overtaken) "__getattribute__"=some (some (.builtin "BaseException.__getattribute__")))
 (hgt_Overtaken:PySem.W.findIn K (.ref C_Overtaken) "__getattr__"=some none)
 (hhd_Overtaken:PySem.W.hasDictIn K C_Overtaken=true)
 (hca_Overtaken:PySem.W.findIn K (.ref C_Overtaken) "__class__"=some (some (.builtin "object.__class__")))
 (hsp_Overtaken:PySem.W.specialIn K (.builtin "object.__class__") "__get__"=some (some (.builtin "getset_descriptor.__get__")))
 (htk_Overtaken:PySem.W.takesIn K (.builtin "object.__class__")=some true)
 (hmr_Overtaken:PySem.W.mroIn K C_Overtaken (.type "object")=some true)
 (ac_PourError:PySem.W.nsIn K mainGlobals "PourError"=some (some (.ref C_PourError)))
 (xb_PourError:PySem.W.subIn K (.ref C_PourError) (.type "BaseException")=some true)
 (xt_PourError:PySem.W.typeIn K (.ref C_PourError)=some (.type "type"))
 (hic_PourError:PySem.W.isClsIn K C_PourError=true)
 (ac_Ring:PySem.W.nsIn K mainGlobals "Ring"=some (some (.ref C_Ring)))
 (xb_Ring:PySem.W.subIn K (.ref C_Ring) (.type "BaseException")=some true)
 (xt_Ring:PySem.W.typeIn K (.ref C_Ring)=some (.type "type"))
 (xl_Ring:K.lookup C_Ring=some (excClassObj nm_Ring q_Ring C_Ring N_Ring bs_Ring bm_Ring true sn_Ring sub_Ring ab_Ring col_Ring dd_Ring k0_Ring k1_Ring k2_Ring k3_Ring k5_Ring "ValueError.__new__"))
 (rv_Ring:PySem.HandSPX.refsVE bm_Ring=true)
 (xk_Ring:PySem.W.keepIn K (.ref C_Ring)=true)
 (xs_Ring:PySem.W.findIn K (.ref C_Ring) "__setattr__"=some (some (.builtin "object.__setattr__")))
 (xn_Ring_name:PySem.W.findIn K (.ref C_Ring) "name"=some none)
 (xa_Ring:PySem.W.findIn K (.ref C_Ring) "__init__"=some (some (.ref fi_Ring)))
 (xm_Ring:K.lookup fi_Ring=some ⟨oi_Ring,odi_Ring,.func (PySem.W.fnOf "__init__" "Ring.__init__" (defArgs s_Ring_init) (defBody s_Ring_init) (defScope s_Ring_init) .none ki_Ring di_Ring pi_Ring ai_Ring ci_Ring ti_Ring),si_Ring⟩)
 (xc_Ring:PySem.W.codeIn K ci_Ring "Ring.__init__"=true)
 (xp_Ring:PySem.W.keepIn K (.ref fi_Ring)=true)
 (xf_Ring:PySem.W.isFn K (.ref fi_Ring)=true)
 (hga_Ring:PySem.W.findIn K (.ref C_Ring) "__getattribute__"=some (some (.builtin "BaseException.__getattribute__")))
 (hgt_Ring:PySem.W.findIn K (.ref C_Ring) "__getattr__"=some none)
 (hhd_Ring:PySem.W.hasDictIn K C_Ring=true)
 (hca_Ring:PySem.W.findIn K (.ref C_Ring) "__class__"=some (some (.builtin "object.__class__")))
 (hsp_Ring:PySem.W.specialIn K (.builtin "object.__class__") "__get__"=some (some (.builtin "getset_descriptor.__get__")))
 (htk_Ring:PySem.W.takesIn K (.builtin "object.__class__")=some true)
 (hmr_Ring:PySem.W.mroIn K C_Ring (.type "object")=some true)
 (ac_Taken:PySem.W.nsIn K mainGlobals "Taken"=some (some (.ref C_Taken)))
 (xb_Taken:PySem.W.subIn K (.ref C_Taken) (.type "BaseException")=some true)
 (xt_Taken:PySem.W.typeIn K (.ref C_Taken)=some (.type "type"))
 (xl_Taken:K.lookup C_Taken=some (excClassObj nm_Taken q_Taken C_Taken N_Taken bs_Taken bm_Taken true sn_Taken sub_Taken ab_Taken col_Taken dd_Taken k0_Taken k1_Taken k2_Taken k3_Taken k5_Taken "ValueError.__new__"))
 (rv_Taken:PySem.HandSPX.refsVE bm_Taken=true)
 (xk_Taken:PySem.W.keepIn K (.ref C_Taken)=true)
 (xs_Taken:PySem.W.findIn K (.ref C_Taken) "__setattr__"=some (some (.builtin "object.__setattr__")))
 (xn_Taken_name:PySem.W.findIn K (.ref C_Taken) "name"=some none)
 (xa_Taken:PySem.W.findIn K (.ref C_Taken) "__init__"=some (some (.ref fi_Taken)))
 (xm_Taken:K.lookup fi_Taken=some ⟨oi_Taken,odi_Taken,.func (PySem.W.fnOf "__init__" "Taken.__init__" (defArgs s_Taken_init) (defBody s_Taken_init) (defScope s_Taken_init) .none ki_Taken di_Taken pi_Taken ai_Taken ci_Taken ti_Taken),si_Taken⟩)
 (xc_Taken:PySem.W.codeIn K ci_Taken "Taken.__init__"=true)
 (xp_Taken:PySem.W.keepIn K (.ref fi_Taken)=true)
 (xf_Taken:PySem.W.isFn K (.ref fi_Taken)=true)
 (hga_Taken:PySem.W.findIn K (.ref C_Taken) "__getattribute__"=some (some (.builtin "BaseException.__getattribute__")))
 (hgt_Taken:PySem.W.findIn K (.ref C_Taken) "__getattr__"=some none)
 (hhd_Taken:PySem.W.hasDictIn K C_Taken=true)
 (hca_Taken:PySem.W.findIn K (.ref C_Taken) "__class__"=some (some (.builtin "object.__class__")))
 (hsp_Taken:PySem.W.specialIn K (.builtin "object.__class__") "__get__"=some (some (.builtin "getset_descriptor.__get__")))
 (htk_Taken:PySem.W.takesIn K (.builtin "object.__class__")=some true)
 (hmr_Taken:PySem.W.mroIn K C_Taken (.type "object")=some true)
 (ac_Tie:PySem.W.nsIn K mainGlobals "Tie"=some (some (.ref C_Tie)))
 (xb_Tie:PySem.W.subIn K (.ref C_Tie) (.type "BaseException")=some true)
 (xt_Tie:PySem.W.typeIn K (.ref C_Tie)=some (.type "type"))
 (xl_Tie:K.lookup C_Tie=some (excClassObj nm_Tie q_Tie C_Tie N_Tie bs_Tie bm_Tie true sn_Tie sub_Tie ab_Tie col_Tie dd_Tie k0_Tie k1_Tie k2_Tie k3_Tie k5_Tie "ValueError.__new__"))
 (rv_Tie:PySem.HandSPX.refsVE bm_Tie=true)
 (xk_Tie:PySem.W.keepIn K (.ref C_Tie)=true)
 (xs_Tie:PySem.W.findIn K (.ref C_Tie) "__setattr__"=some (some (.builtin "object.__setattr__")))
 (xn_Tie_table:PySem.W.findIn K (.ref C_Tie) "table"=some none)
 (xn_Tie_one:PySem.W.findIn K (.ref C_Tie) "one"=some none)
 (xn_Tie_other:PySem.W.findIn K (.ref C_Tie) "other"=some none)
 (xa_Tie:PySem.W.findIn K (.ref C_Tie) "__init__"=some (some (.ref fi_Tie)))
 (xm_Tie:K.lookup fi_Tie=some ⟨oi_Tie,odi_Tie,.func (PySem.W.fnOf "__init__" "Tie.__init__" (defArgs s_Tie_init) (defBody s_Tie_init) (defScope s_Tie_init) .none ki_Tie di_Tie pi_Tie ai_Tie ci_Tie ti_Tie),si_Tie⟩)
 (xc_Tie:PySem.W.codeIn K ci_Tie "Tie.__init__"=true)
 (xp_Tie:PySem.W.keepIn K (.ref fi_Tie)=true)
 (xf_Tie:PySem.W.isFn K (.ref fi_Tie)=true)
 (hga_Tie:PySem.W.findIn K (.ref C_Tie) "__getattribute__"=some (some (.builtin "BaseException.__getattribute__")))
 (hgt_Tie:PySem.W.findIn K (.ref C_Tie) "__getattr__"=some none)
 (hhd_Tie:PySem.W.hasDictIn K C_Tie=true)
 (hca_Tie:PySem.W.findIn K (.ref C_Tie) "__class__"=some (some (.builtin "object.__class__")))
 (hsp_Tie:PySem.W.specialIn K (.builtin "object.__class__") "__get__"=some (some (.builtin "getset_descriptor.__get__")))
 (htk_Tie:PySem.W.takesIn K (.builtin "object.__class__")=some true)
 (hmr_Tie:PySem.W.mroIn K C_Tie (.type "object")=some true)
 (ac_Twice:PySem.W.nsIn K mainGlobals "Twice"=some (some (.ref C_Twice)))
 (xb_Twice:PySem.W.subIn K (.ref C_Twice) (.type "BaseException")=some true)
 (xt_Twice:PySem.W.typeIn K (.ref C_Twice)=some (.type "type"))
 (xl_Twice:K.lookup C_Twice=some (excClassObj nm_Twice q_Twice C_Twice N_Twice bs_Twice bm_Twice true sn_Twice sub_Twice ab_Twice col_Twice dd_Twice k0_Twice k1_Twice k2_Twice k3_Twice k5_Twice "ValueError.__new__"))
 (rv_Twice:PySem.HandSPX.refsVE bm_Twice=true)
 (xk_Twice:PySem.W.keepIn K (.ref C_Twice)=true)
 (xs_Twice:PySem.W.findIn K (.ref C_Twice) "__setattr__"=some (some (.builtin "object.__setattr__")))
 (xn_Twice_name:PySem.W.findIn K (.ref C_Twice) "name"=some none)
 (xa_Twice:PySem.W.findIn K (.ref C_Twice) "__init__"=some (some (.ref fi_Twice)))
 (xm_Twice:K.lookup fi_Twice=some ⟨oi_Twice,odi_Twice,.func (PySem.W.fnOf "__init__" "Twice.__init__" (defArgs s_Twice_init) (defBody s_Twice_init) (defScope s_Twice_init) .none ki_Twice di_Twice pi_Twice ai_Twice ci_Twice ti_Twice),si_Twice⟩)
 (xc_Twice:PySem.W.codeIn K ci_Twice "Twice.__init__"=true)
 (xp_Twice:PySem.W.keepIn K (.ref fi_Twice)=true)
 (xf_Twice:PySem.W.isFn K (.ref fi_Twice)=true)
 (hga_Twice:PySem.W.findIn K (.ref C_Twice) "__getattribute__"=some (some (.builtin "BaseException.__getattribute__")))
 (hgt_Twice:PySem.W.findIn K (.ref C_Twice) "__getattr__"=some none)
 (hhd_Twice:PySem.W.hasDictIn K C_Twice=true)
 (hca_Twice:PySem.W.findIn K (.ref C_Twice) "__class__"=some (some (.builtin "object.__class__")))
 (hsp_Twice:PySem.W.specialIn K (.builtin "object.__class__") "__get__"=some (some (.builtin "getset_descriptor.__get__")))
 (htk_Twice:PySem.W.takesIn K (.builtin "object.__class__")=some true)
 (hmr_Twice:PySem.W.mroIn K C_Twice (.type "object")=some true)
 (hne_BadText_FormError:(Value.ref C_BadText==Value.ref C_FormError)=false)
 (hne_Tie_DeedError:(Value.ref C_Tie==Value.ref C_DeedError)=false)
 (hne_Tie_FormError:(Value.ref C_Tie==Value.ref C_FormError)=false)
 (hne_Tie_PourError:(Value.ref C_Tie==Value.ref C_PourError)=false)
 (hs_BadText_FormError:PySem.W.subIn K (.ref C_BadText) (.ref C_FormError)=some true)
 (hs_Tie_DeedError:PySem.W.subIn K (.ref C_Tie) (.ref C_DeedError)=some true)
 (hs_Tie_FormError:PySem.W.subIn K (.ref C_Tie) (.ref C_FormError)=some false)
 (hs_Tie_PourError:PySem.W.subIn K (.ref C_Tie) (.ref C_PourError)=some true):
 ∃fd:FuncData,(∀(s:Shared) (v:Value),BindsTo s fd ⟨[v],[]⟩ [("_law_script",v)])∧∀base:Heap,K.In base→base.Ns mainGlobals mg→FnOk l.prog w K mg base CX0 4 fa fd ["_law_script"] (spLaw K):=by
 have m0:=PySem.W.mg_of X G a0
 have D_Lbear:DefAt K mg "_law_bear" "_law_bear" s_Lbear [] [] []:=defAt_mk m0 l0 c0 k0 (.inl ⟨rfl,rfl⟩) (.inl ⟨rfl,rfl⟩)
 have m1:=PySem.W.mg_of X G a1
 have zb_isinstance:=PySem.W.mg_none_of X G z_isinstance
 have zb_range:=PySem.W.mg_none_of X G z_range
 have mc_BadName:=PySem.W.mg_of X G ac_BadName
 have at_BadName:(csOf w K mg).at_ "BadName"=C_BadName:=csOf_at mc_BadName
 have mc_BadText:=PySem.W.mg_of X G ac_BadText
 have at_BadText:(csOf w K mg).at_ "BadText"=C_BadText:=csOf_at mc_BadText
 have mc_Clash:=PySem.W.mg_of X G ac_Clash
 have at_Clash:(csOf w K mg).at_ "Clash"=C_Clash:=csOf_at mc_Clash
 have mc_DeedError:=PySem.W.mg_of X G ac_DeedError
 have at_DeedError:(csOf w K mg).at_ "DeedError"=C_DeedError:=csOf_at mc_DeedError
 have mc_FormError:=PySem.W.mg_of X G ac_FormError
 have at_FormError:(csOf w K mg).at_ "FormError"=C_FormError:=csOf_at mc_FormError
 have mc_Lost:=PySem.W.mg_of X G ac_Lost
 have at_Lost:(csOf w K mg).at_ "Lost"=C_Lost:=csOf_at mc_Lost
 have mc_NoColumn:=PySem.W.mg_of X G ac_NoColumn
 have at_NoColumn:(csOf w K mg).at_ "NoColumn"=C_NoColumn:=csOf_at mc_NoColumn
 have mc_NoDealing:=PySem.W.mg_of X G ac_NoDealing
 have at_NoDealing:(csOf w K mg).at_ "NoDealing"=C_NoDealing:=csOf_at mc_NoDealing
 have mc_NoTable:=PySem.W.mg_of X G ac_NoTable
 have at_NoTable:(csOf w K mg).at_ "NoTable"=C_NoTable:=csOf_at mc_NoTable
 have mc_Overtaken:=PySem.W.mg_of X G ac_Overtaken
 have at_Overtaken:(csOf w K mg).at_ "Overtaken"=C_Overtaken:=csOf_at mc_Overtaken
 have mc_PourError:=PySem.W.mg_of X G ac_PourError
 have at_PourError:(csOf w K mg).at_ "PourError"=C_PourError:=csOf_at mc_PourError
 have mc_Ring:=PySem.W.mg_of X G ac_Ring
 have at_Ring:(csOf w K mg).at_ "Ring"=C_Ring:=csOf_at mc_Ring
 have mc_Taken:=PySem.W.mg_of X G ac_Taken
 have at_Taken:(csOf w K mg).at_ "Taken"=C_Taken:=csOf_at mc_Taken
 have mc_Tie:=PySem.W.mg_of X G ac_Tie
 have at_Tie:(csOf w K mg).at_ "Tie"=C_Tie:=csOf_at mc_Tie
 have mc_Twice:=PySem.W.mg_of X G ac_Twice
 have at_Twice:(csOf w K mg).at_ "Twice"=C_Twice:=csOf_at mc_Twice
 have T:Top w K mg:=⟨D_Lbear,
  zb_isinstance,
  zb_range,
  ⟨by rw [at_DeedError];exact mc_DeedError,by rw [at_DeedError];exact vs_DeedError,by rw [at_DeedError];exact vr_DeedError,by rw [at_DeedError];exact vf_DeedError⟩,
  ⟨by rw [at_FormError];exact mc_FormError,by rw [at_FormError];exact vs_FormError,by rw [at_FormError];exact vr_FormError,by rw [at_FormError];exact vf_FormError⟩,
  (by rw [at_BadName];exact methAt_mk xa_BadName xm_BadName xc_BadName xp_BadName (.inl ⟨rfl,rfl⟩) (.inl ⟨rfl,rfl⟩)),
  ⟨by rw [at_BadName];exact mc_BadName,by rw [at_BadName];exact oex_mk xl_BadName rv_BadName xs_BadName xb_BadName xt_BadName xk_BadName,by rw [at_BadName];intro f hf;simp only [List.mem_cons,List.not_mem_nil,or_false] at hf;rcases hf with rfl<;>first | exact xn_BadName_name,fun fI h=>by rw [at_BadName,xa_BadName] at h;cases h;exact xf_BadName⟩,
  (by rw [at_BadText];exact methAt_mk xa_BadText xm_BadText xc_BadText xp_BadText (.inr ⟨by simp,Tx_BadText,tox_BadText,tix_BadText,tnx_BadText,rfl,tvx_BadText,tvd_BadText,by rw [tvs_BadText];exact (.cons yvx_BadText_0 .nil)⟩) (.inl ⟨rfl,rfl⟩)),
  ⟨by rw [at_BadText];exact mc_BadText,by rw [at_BadText];exact oex_mk xl_BadText rv_BadText xs_BadText xb_BadText xt_BadText xk_BadText,by rw [at_BadText];intro f hf;simp only [List.mem_cons,List.not_mem_nil,or_false] at hf;rcases hf with rfl<;>first | exact xn_BadText_at,fun fI h=>by rw [at_BadText,xa_BadText] at h;cases h;exact xf_BadText⟩,
  (by rw [at_NoColumn];exact methAt_mk xa_NoColumn xm_NoColumn xc_NoColumn xp_NoColumn (.inl ⟨rfl,rfl⟩) (.inl ⟨rfl,rfl⟩)),
  ⟨by rw [at_NoColumn];exact mc_NoColumn,by rw [at_NoColumn];exact oex_mk xl_NoColumn rv_NoColumn xs_NoColumn xb_NoColumn xt_NoColumn xk_NoColumn,by rw [at_NoColumn];intro f hf;simp only [List.mem_cons,List.not_mem_nil,or_false] at hf;rcases hf with rfl<;>first | exact xn_NoColumn_name,fun fI h=>by rw [at_NoColumn,xa_NoColumn] at h;cases h;exact xf_NoColumn⟩,
  (by rw [at_NoDealing];exact methAt_mk xa_NoDealing xm_NoDealing xc_NoDealing xp_NoDealing (.inl ⟨rfl,rfl⟩) (.inl ⟨rfl,rfl⟩)),
  ⟨by rw [at_NoDealing];exact mc_NoDealing,by rw [at_NoDealing];exact oex_mk xl_NoDealing rv_NoDealing xs_NoDealing xb_NoDealing xt_NoDealing xk_NoDealing,by rw [at_NoDealing];intro f hf;simp only [List.mem_cons,List.not_mem_nil,or_false] at hf;rcases hf with rfl<;>first | exact xn_NoDealing_number,fun fI h=>by rw [at_NoDealing,xa_NoDealing] at h;cases h;exact xf_NoDealing⟩,
  (by rw [at_NoTable];exact methAt_mk xa_NoTable xm_NoTable xc_NoTable xp_NoTable (.inl ⟨rfl,rfl⟩) (.inl ⟨rfl,rfl⟩)),
  ⟨by rw [at_NoTable];exact mc_NoTable,by rw [at_NoTable];exact oex_mk xl_NoTable rv_NoTable xs_NoTable xb_NoTable xt_NoTable xk_NoTable,by rw [at_NoTable];intro f hf;simp only [List.mem_cons,List.not_mem_nil,or_false] at hf;rcases hf with rfl<;>first | exact xn_NoTable_name,fun fI h=>by rw [at_NoTable,xa_NoTable] at h;cases h;exact xf_NoTable⟩,
  (by rw [at_Overtaken];exact methAt_mk xa_Overtaken xm_Overtaken xc_Overtaken xp_Overtaken (.inr ⟨by simp,Tx_Overtaken,tox_Overtaken,tix_Overtaken,tnx_Overtaken,rfl,tvx_Overtaken,tvd_Overtaken,by rw [tvs_Overtaken];exact (.cons yvx_Overtaken_0 .nil)⟩) (.inl ⟨rfl,rfl⟩)),
  ⟨by rw [at_Overtaken];exact mc_Overtaken,by rw [at_Overtaken];exact oex_mk xl_Overtaken rv_Overtaken xs_Overtaken xb_Overtaken xt_Overtaken xk_Overtaken,by rw [at_Overtaken];intro f hf;simp only [List.mem_cons,List.not_mem_nil,or_false] at hf;rcases hf with rfl<;>first | exact xn_Overtaken_number,fun fI h=>by rw [at_Overtaken,xa_Overtaken] at h;cases h;exact xf_Overtaken⟩,
  (by rw [at_Ring];exact methAt_mk xa_Ring xm_Ring xc_Ring xp_Ring (.inl ⟨rfl,rfl⟩) (.inl ⟨rfl,rfl⟩)),
  ⟨by rw [at_Ring];exact mc_Ring,by rw [at_Ring];exact oex_mk xl_Ring rv_Ring xs_Ring xb_Ring xt_Ring xk_Ring,by rw [at_Ring];intro f hf;simp only [List.mem_cons,List.not_mem_nil,or_false] at hf;rcases hf with rfl<;>first | exact xn_Ring_name,fun fI h=>by rw [at_Ring,xa_Ring] at h;cases h;exact xf_Ring⟩,
  (by rw [at_Taken];exact methAt_mk xa_Taken xm_Taken xc_Taken xp_Taken (.inl ⟨rfl,rfl⟩) (.inl ⟨rfl,rfl⟩)),
  ⟨by rw [at_Taken];exact mc_Taken,by rw [at_Taken];exact oex_mk xl_Taken rv_Taken xs_Taken xb_Taken xt_Taken xk_Taken,by rw [at_Taken];intro f hf;simp only [List.mem_cons,List.not_mem_nil,or_false] at hf;rcases hf with rfl<;>first | exact xn_Taken_name,fun fI h=>by rw [at_Taken,xa_Taken] at h;cases h;exact xf_Taken⟩,
  (by rw [at_Twice];exact methAt_mk xa_Twice xm_Twice xc_Twice xp_Twice (.inl ⟨rfl,rfl⟩) (.inl ⟨rfl,rfl⟩)),
  ⟨by rw [at_Twice];exact mc_Twice,by rw [at_Twice];exact oex_mk xl_Twice rv_Twice xs_Twice xb_Twice xt_Twice xk_Twice,by rw [at_Twice];intro f hf;simp only [List.mem_cons,List.not_mem_nil,or_false] at hf;rcases hf with rfl<;>first | exact xn_Twice_name,fun fI h=>by rw [at_Twice,xa_Twice] at h;cases h;exact xf_Twice⟩,
  (by rw [at_Clash];exact methAt_mk xa_Clash xm_Clash xc_Clash xp_Clash (.inl ⟨rfl,rfl⟩) (.inl ⟨rfl,rfl⟩)),
  ⟨by rw [at_Clash];exact mc_Clash,by rw [at_Clash];exact oex_mk xl_Clash rv_Clash xs_Clash xb_Clash xt_Clash xk_Clash,by rw [at_Clash];intro f hf;simp only [List.mem_cons,List.not_mem_nil,or_false] at hf;rcases hf with rfl | rfl<;>first | exact xn_Clash_table | exact xn_Clash_cells,fun fI h=>by rw [at_Clash,xa_Clash] at h;cases h;exact xf_Clash⟩,
  (by rw [at_Lost];exact methAt_mk xa_Lost xm_Lost xc_Lost xp_Lost (.inl ⟨rfl,rfl⟩) (.inl ⟨rfl,rfl⟩)),
  ⟨by rw [at_Lost];exact mc_Lost,by rw [at_Lost];exact oex_mk xl_Lost rv_Lost xs_Lost xb_Lost xt_Lost xk_Lost,by rw [at_Lost];intro f hf;simp only [List.mem_cons,List.not_mem_nil,or_false] at hf;rcases hf with rfl | rfl<;>first | exact xn_Lost_table | exact xn_Lost_row,fun fI h=>by rw [at_Lost,xa_Lost] at h;cases h;exact xf_Lost⟩,
  (by rw [at_Tie];exact methAt_mk xa_Tie xm_Tie xc_Tie xp_Tie (.inl ⟨rfl,rfl⟩) (.inl ⟨rfl,rfl⟩)),
  ⟨by rw [at_Tie];exact mc_Tie,by rw [at_Tie];exact oex_mk xl_Tie rv_Tie xs_Tie xb_Tie xt_Tie xk_Tie,by rw [at_Tie];intro f hf;simp only [List.mem_cons,List.not_mem_nil,or_false] at hf;rcases hf with rfl | rfl | rfl<;>first | exact xn_Tie_table | exact xn_Tie_one | exact xn_Tie_other,fun fI h=>by rw [at_Tie,xa_Tie] at h;cases h;exact xf_Tie⟩,
  (by rw [at_BadName];exact ⟨hga_BadName,hgt_BadName,xb_BadName,hhd_BadName,hca_BadName,hsp_BadName,htk_BadName,hmr_BadName⟩),
  (by rw [at_BadText];exact ⟨hga_BadText,hgt_BadText,xb_BadText,hhd_BadText,hca_BadText,hsp_BadText,htk_BadText,hmr_BadText⟩),
  (by rw [at_Clash];exact ⟨hga_Clash,hgt_Clash,xb_Clash,hhd_Clash,hca_Clash,hsp_Clash,htk_Clash,hmr_Clash⟩),
  (by rw [at_Lost];exact ⟨hga_Lost,hgt_Lost,xb_Lost,hhd_Lost,hca_Lost,hsp_Lost,htk_Lost,hmr_Lost⟩),
  (by rw [at_NoColumn];exact ⟨hga_NoColumn,hgt_NoColumn,xb_NoColumn,hhd_NoColumn,hca_NoColumn,hsp_NoColumn,htk_NoColumn,hmr_NoColumn⟩),
  (by rw [at_NoDealing];exact ⟨hga_NoDealing,hgt_NoDealing,xb_NoDealing,hhd_NoDealing,hca_NoDealing,hsp_NoDealing,htk_NoDealing,hmr_NoDealing⟩),
  (by rw [at_NoTable];exact ⟨hga_NoTable,hgt_NoTable,xb_NoTable,hhd_NoTable,hca_NoTable,hsp_NoTable,htk_NoTable,hmr_NoTable⟩),
  (by rw [at_Overtaken];exact ⟨hga_Overtaken,hgt_Overtaken,xb_Overtaken,hhd_Overtaken,hca_Overtaken,hsp_Overtaken,htk_Overtaken,hmr_Overtaken⟩),
  (by rw [at_Ring];exact ⟨hga_Ring,hgt_Ring,xb_Ring,hhd_Ring,hca_Ring,hsp_Ring,htk_Ring,hmr_Ring⟩),
  (by rw [at_Taken];exact ⟨hga_Taken,hgt_Taken,xb_Taken,hhd_Taken,hca_Taken,hsp_Taken,htk_Taken,hmr_Taken⟩),
  (by rw [at_Tie];exact ⟨hga_Tie,hgt_Tie,xb_Tie,hhd_Tie,hca_Tie,hsp_Tie,htk_Tie,hmr_Tie⟩),
  (by rw [at_Twice];exact ⟨hga_Twice,hgt_Twice,xb_Twice,hhd_Twice,hca_Twice,hsp_Twice,htk_Twice,hmr_Twice⟩),
  (by rw [at_DeedError];exact mc_DeedError),
  (by rw [at_FormError];exact mc_FormError),
  (by rw [at_PourError];exact mc_PourError),
  (by rw [at_BadText,at_FormError];exact M3.kit_ref hic_FormError xt_FormError hs_BadText_FormError hne_BadText_FormError),
  (by rw [at_Tie,at_DeedError];exact M3.kit_ref hic_DeedError xt_DeedError hs_Tie_DeedError hne_Tie_DeedError),
  (by rw [at_Tie,at_FormError];exact M3.kit_ref hic_FormError xt_FormError hs_Tie_FormError hne_Tie_FormError),
  (by rw [at_Tie,at_PourError];exact M3.kit_ref hic_PourError xt_PourError hs_Tie_PourError hne_Tie_PourError)⟩
 have e:=hfa.symm.trans m1
 cases e
 refine ⟨PySem.W.fnOf "law" "law" (defArgs s_law) (defBody s_law) (defScope s_law) .none kV1 dc1 pm1 an1 cd1 ct1,fun s v=>.of_eq rfl,fun base _ _=>ok_law T base (law_plain _) (fun_mk (st:=s_law) l1 c1 k1)⟩
theorem walk {l:PySem.W.OpenLaw} {q:Program} {loose:List Str} {XP:(Str→Option Value)→Heap→Prop} {YP:World→Heap→Prop} {d:DefRec} {K:Params→PySem.W.Frag} (hn:l.most=some 63) (hdf:d.params.defaults=[])
 (hY:∀(w:World) (h:Heap),YP w h→(K w.params).In h)
 (F:∀(w:World) (mg:Str→Option Value) (fa:Addr) (h:Heap),(K w.params).In h→h.Ns mainGlobals mg→mg d.name=some (.ref fa)→
   ∃fd:FuncData,(∀(s:Shared) (u:Value),BindsTo s fd ⟨[u],[]⟩ [("_law_script",u)])∧∀base:Heap,(K w.params).In base→base.Ns mainGlobals mg→FnOk l.prog w (K w.params) mg base CX0 4 fa fd ["_law_script"] (spLaw (K w.params))):
 PySem.W.WalkO q loose XP YP l.row.toRowW d [] (fun f vs=>PySem.call f vs):=
 L2.walk_of (n:=63) (k:=4) (x:="_law_script") (CX:=fun _=>CX0) (sp:=fun w=>spLaw (K w.params)) hn (by decide) hdf ⟨rfl,by decide,by decide⟩ hY F (fun _ _ a ns hl _ hS=>⟨a,ns,rfl,hS,fun _=>rfl⟩) fun _ _ _ _ _ z=>z
end Law
open PySem PySem.W PyProof.Rows
set_option maxRecDepth 100000 in
set_option maxHeartbeats 0 in
theorem PySem.Challenge.cw_onepour_k66_refusals_made_by_hand_holds : PySem.Challenge.rw_onepour_k66_refusals_made_by_hand.Holds := by
 w_on;o_law;k_head;(case hw=>w_witness2)
 k_fill
 refine Law.walk (l:=PySem.Challenge.rw_onepour_k66_refusals_made_by_hand) rfl rfl (fun w h Y=>PySem.W.kIn_of Y) ?F
 case F=>
  intro w mg fa h KX G hmg
  refine' Law.all_mk KX G hmg ?a0 ?l0 ?c0 ?k0 ?a1 ?l1 ?c1 ?k1 ?z_isinstance ?z_range ?ac_BadName ?xb_BadName ?xt_BadName ?xl_BadName ?rv_BadName ?xk_BadName ?xs_BadName ?xn_BadName_name ?xa_BadName ?xm_BadName ?xc_BadName ?xp_BadName ?xf_BadName ?hga_BadName ?hgt_BadName ?hhd_BadName ?hca_BadName ?hsp_BadName ?htk_BadName ?hmr_BadName ?ac_BadText ?xb_BadText ?xt_BadText ?xl_BadText ?rv_BadText ?xk_BadText ?xs_BadText ?xn_BadText_at ?xa_BadText ?xm_BadText ?xc_BadText ?xp_BadText ?tvx_BadText ?tvd_BadText ?tvs_BadText ?yvx_BadText_0 ?xf_BadText ?hga_BadText ?hgt_BadText ?hhd_BadText ?hca_BadText ?hsp_BadText ?htk_BadText ?hmr_BadText ?ac_Clash ?xb_Clash ?xt_Clash ?xl_Clash ?rv_Clash ?xk_Clash ?xs_Clash ?xn_Clash_table ?xn_Clash_cells ?xa_Clash ?xm_Clash ?xc_Clash ?xp_Clash ?xf_Clash ?hga_Clash ?hgt_Clash ?hhd_Clash ?hca_Clash ?hsp_Clash ?htk_Clash ?hmr_Clash ?ac_DeedError ?xb_DeedError ?xt_DeedError ?vs_DeedError ?vr_DeedError ?vf_DeedError ?hic_DeedError ?ac_FormError ?xb_FormError ?xt_FormError ?vs_FormError ?vr_FormError ?vf_FormError ?hic_FormError ?ac_Lost ?xb_Lost ?xt_Lost ?xl_Lost ?rv_Lost ?xk_Lost ?xs_Lost ?xn_Lost_table ?xn_Lost_row ?xa_Lost ?xm_Lost ?xc_Lost ?xp_Lost ?xf_Lost ?hga_Lost ?hgt_Lost ?hhd_Lost ?hca_Lost ?hsp_Lost ?htk_Lost ?hmr_Lost ?ac_NoColumn ?xb_NoColumn ?xt_NoColumn ?xl_NoColumn ?rv_NoColumn ?xk_NoColumn ?xs_NoColumn ?xn_NoColumn_name ?xa_NoColumn ?xm_NoColumn ?xc_NoColumn ?xp_NoColumn ?xf_NoColumn ?hga_NoColumn ?hgt_NoColumn ?hhd_NoColumn ?hca_NoColumn ?hsp_NoColumn ?htk_NoColumn ?hmr_NoColumn ?ac_NoDealing ?xb_NoDealing ?xt_NoDealing ?xl_NoDealing ?rv_NoDealing ?xk_NoDealing ?xs_NoDealing ?xn_NoDealing_number ?xa_NoDealing ?xm_NoDealing ?xc_NoDealing ?xp_NoDealing ?xf_NoDealing ?hga_NoDealing ?hgt_NoDealing ?hhd_NoDealing ?hca_NoDealing ?hsp_NoDealing ?htk_NoDealing ?hmr_NoDealing ?ac_NoTable ?xb_NoTable ?xt_NoTable ?xl_NoTable ?rv_NoTable ?xk_NoTable ?xs_NoTable ?xn_NoTable_name ?xa_NoTable ?xm_NoTable ?xc_NoTable ?xp_NoTable ?xf_NoTable ?hga_NoTable ?hgt_NoTable ?hhd_NoTable ?hca_NoTable ?hsp_NoTable ?htk_NoTable ?hmr_NoTable ?ac_Overtaken ?xb_Overtaken ?xt_Overtaken ?xl_Overtaken ?rv_Overtaken ?xk_Overtaken ?xs_Overtaken ?xn_Overtaken_number ?xa_Overtaken ?xm_Overtaken ?xc_Overtaken ?xp_Overtaken ?tvx_Overtaken ?tvd_Overtaken ?tvs_Overtaken ?yvx_Overtaken_0 ?xf_Overtaken ?hga_Overtaken ?hgt_Overtaken ?hhd_Overtaken ?hca_Overtaken ?hsp_Overtaken ?htk_Overtaken ?hmr_Overtaken ?ac_PourError ?xb_PourError ?xt_PourError ?hic_PourError ?ac_Ring ?xb_Ring ?xt_Ring ?xl_Ring ?rv_Ring ?xk_Ring ?xs_Ring ?xn_Ring_name ?xa_Ring ?xm_Ring ?xc_Ring ?xp_Ring ?xf_Ring ?hga_Ring ?hgt_Ring ?hhd_Ring ?hca_Ring ?hsp_Ring ?htk_Ring ?hmr_Ring ?ac_Taken ?xb_Taken ?xt_Taken ?xl_Taken ?rv_Taken ?xk_Taken ?xs_Taken ?xn_Taken_name ?xa_Taken ?xm_Taken ?xc_Taken ?xp_Taken ?xf_Taken ?hga_Taken ?hgt_Taken ?hhd_Taken ?hca_Taken ?hsp_Taken ?htk_Taken ?hmr_Taken ?ac_Tie ?xb_Tie ?xt_Tie ?xl_Tie ?rv_Tie ?xk_Tie ?xs_Tie ?xn_Tie_table ?xn_Tie_one ?xn_Tie_other ?xa_Tie ?xm_Tie ?xc_Tie ?xp_Tie ?xf_Tie ?hga_Tie ?hgt_Tie ?hhd_Tie ?hca_Tie ?hsp_Tie ?htk_Tie ?hmr_Tie ?ac_Twice ?xb_Twice ?xt_Twice ?xl_Twice ?rv_Twice ?xk_Twice ?xs_Twice ?xn_Twice_name ?xa_Twice ?xm_Twice ?xc_Twice ?xp_Twice ?xf_Twice ?hga_Twice ?hgt_Twice ?hhd_Twice ?hca_Twice ?hsp_Twice ?htk_Twice ?hmr_Twice ?hne_BadText_FormError ?hne_Tie_DeedError ?hne_Tie_FormError ?hne_Tie_PourError ?hs_BadText_FormError ?hs_Tie_DeedError ?hs_Tie_FormError ?hs_Tie_PourError
  (case a0=>k_is)
  (case l0=>k_is)
  (case c0=>k_is)
  (case k0=>k_is)
  (case a1=>k_is)
  (case l1=>k_is)
  (case c1=>k_is)
  (case k1=>k_is)
  (case z_isinstance=>k_is)
  (case z_range=>k_is)
  (case ac_BadName=>k_is)
  (case xb_BadName=>k_is)
  (case xt_BadName=>k_is)
  (case xl_BadName=>k_is)
  (case rv_BadName=>decide +kernel)
  (case xk_BadName=>k_is)
  (case xs_BadName=>k_is)
  (case xn_BadName_name=>k_is)
  (case xa_BadName=>k_is)
  (case xm_BadName=>k_is)
  (case xc_BadName=>k_is)
  (case xp_BadName=>k_is)
  (case xf_BadName=>k_is)
  (case hga_BadName=>k_is)
  (case hgt_BadName=>k_is)
  (case hhd_BadName=>k_is)
  (case hca_BadName=>k_is)
  (case hsp_BadName=>k_is)
  (case htk_BadName=>k_is)
  (case hmr_BadName=>k_is)
  (case ac_BadText=>k_is)
  (case xb_BadText=>k_is)
  (case xt_BadText=>k_is)
  (case xl_BadText=>k_is)
  (case rv_BadText=>decide +kernel)
  (case xk_BadText=>k_is)
  (case xs_BadText=>k_is)
  (case xn_BadText_at=>k_is)
  (case xa_BadText=>k_is)
  (case xm_BadText=>k_is)
  (case xc_BadText=>k_is)
  (case xp_BadText=>k_is)
  (case tvx_BadText=>k_is)
  (case tvd_BadText=>rfl)
  (case tvs_BadText=>rfl)
  (case yvx_BadText_0=>exact M3.treeAt_int)
  (case xf_BadText=>k_is)
  (case hga_BadText=>k_is)
  (case hgt_BadText=>k_is)
  (case hhd_BadText=>k_is)
  (case hca_BadText=>k_is)
  (case hsp_BadText=>k_is)
  (case htk_BadText=>k_is)
  (case hmr_BadText=>k_is)
  (case ac_Clash=>k_is)
  (case xb_Clash=>k_is)
  (case xt_Clash=>k_is)
  (case xl_Clash=>k_is)
  (case rv_Clash=>decide +kernel)
  (case xk_Clash=>k_is)
  (case xs_Clash=>k_is)
  (case xn_Clash_table=>k_is)
  (case xn_Clash_cells=>k_is)
  (case xa_Clash=>k_is)
  (case xm_Clash=>k_is)
  (case xc_Clash=>k_is)
  (case xp_Clash=>k_is)
  (case xf_Clash=>k_is)
  (case hga_Clash=>k_is)
  (case hgt_Clash=>k_is)
  (case hhd_Clash=>k_is)
  (case hca_Clash=>k_is)
  (case hsp_Clash=>k_is)
  (case htk_Clash=>k_is)
  (case hmr_Clash=>k_is)
  (case ac_DeedError=>k_is)
  (case xb_DeedError=>k_is)
  (case xt_DeedError=>k_is)
  (case vs_DeedError=>k_is)
  (case vr_DeedError=>k_is)
  (case vf_DeedError=>k_is)
  (case hic_DeedError=>k_is)
  (case ac_FormError=>k_is)
  (case xb_FormError=>k_is)
  (case xt_FormError=>k_is)
  (case vs_FormError=>k_is)
  (case vr_FormError=>k_is)
  (case vf_FormError=>k_is)
  (case hic_FormError=>k_is)
  (case ac_Lost=>k_is)
  (case xb_Lost=>k_is)
  (case xt_Lost=>k_is)
  (case xl_Lost=>k_is)
  (case rv_Lost=>decide +kernel)
  (case xk_Lost=>k_is)
  (case xs_Lost=>k_is)
  (case xn_Lost_table=>k_is)
  (case xn_Lost_row=>k_is)
  (case xa_Lost=>k_is)
  (case xm_Lost=>k_is)
  (case xc_Lost=>k_is)
  (case xp_Lost=>k_is)
  (case xf_Lost=>k_is)
  (case hga_Lost=>k_is)
  (case hgt_Lost=>k_is)
  (case hhd_Lost=>k_is)
  (case hca_Lost=>k_is)
  (case hsp_Lost=>k_is)
  (case htk_Lost=>k_is)
  (case hmr_Lost=>k_is)
  (case ac_NoColumn=>k_is)
  (case xb_NoColumn=>k_is)
  (case xt_NoColumn=>k_is)
  (case xl_NoColumn=>k_is)
  (case rv_NoColumn=>decide +kernel)
  (case xk_NoColumn=>k_is)
  (case xs_NoColumn=>k_is)
  (case xn_NoColumn_name=>k_is)
  (case xa_NoColumn=>k_is)
  (case xm_NoColumn=>k_is)
  (case xc_NoColumn=>k_is)
  (case xp_NoColumn=>k_is)
  (case xf_NoColumn=>k_is)
  (case hga_NoColumn=>k_is)
  (case hgt_NoColumn=>k_is)
  (case hhd_NoColumn=>k_is)
  (case hca_NoColumn=>k_is)
  (case hsp_NoColumn=>k_is)
  (case htk_NoColumn=>k_is)
  (case hmr_NoColumn=>k_is)
  (case ac_NoDealing=>k_is)
  (case xb_NoDealing=>k_is)
  (case xt_NoDealing=>k_is)
  (case xl_NoDealing=>k_is)
  (case rv_NoDealing=>decide +kernel)
  (case xk_NoDealing=>k_is)
  (case xs_NoDealing=>k_is)
  (case xn_NoDealing_number=>k_is)
  (case xa_NoDealing=>k_is)
  (case xm_NoDealing=>k_is)
  (case xc_NoDealing=>k_is)
  (case xp_NoDealing=>k_is)
  (case xf_NoDealing=>k_is)
  (case hga_NoDealing=>k_is)
  (case hgt_NoDealing=>k_is)
  (case hhd_NoDealing=>k_is)
  (case hca_NoDealing=>k_is)
  (case hsp_NoDealing=>k_is)
  (case htk_NoDealing=>k_is)
  (case hmr_NoDealing=>k_is)
  (case ac_NoTable=>k_is)
  (case xb_NoTable=>k_is)
  (case xt_NoTable=>k_is)
  (case xl_NoTable=>k_is)
  (case rv_NoTable=>decide +kernel)
  (case xk_NoTable=>k_is)
  (case xs_NoTable=>k_is)
  (case xn_NoTable_name=>k_is)
  (case xa_NoTable=>k_is)
  (case xm_NoTable=>k_is)
  (case xc_NoTable=>k_is)
  (case xp_NoTable=>k_is)
  (case xf_NoTable=>k_is)
  (case hga_NoTable=>k_is)
  (case hgt_NoTable=>k_is)
  (case hhd_NoTable=>k_is)
  (case hca_NoTable=>k_is)
  (case hsp_NoTable=>k_is)
  (case htk_NoTable=>k_is)
  (case hmr_NoTable=>k_is)
  (case ac_Overtaken=>k_is)
  (case xb_Overtaken=>k_is)
  (case xt_Overtaken=>k_is)
  (case xl_Overtaken=>k_is)
  (case rv_Overtaken=>decide +kernel)
  (case xk_Overtaken=>k_is)
  (case xs_Overtaken=>k_is)
  (case xn_Overtaken_number=>k_is)
  (case xa_Overtaken=>k_is)
  (case xm_Overtaken=>k_is)
  (case xc_Overtaken=>k_is)
  (case xp_Overtaken=>k_is)
  (case tvx_Overtaken=>k_is)
  (case tvd_Overtaken=>rfl)
  (case tvs_Overtaken=>rfl)
  (case yvx_Overtaken_0=>exact M3.treeAt_int)
  (case xf_Overtaken=>k_is)
  (case hga_Overtaken=>k_is)
  (case hgt_Overtaken=>k_is)
  (case hhd_Overtaken=>k_is)
  (case hca_Overtaken=>k_is)
  (case hsp_Overtaken=>k_is)
  (case htk_Overtaken=>k_is)
  (case hmr_Overtaken=>k_is)
  (case ac_PourError=>k_is)
  (case xb_PourError=>k_is)
  (case xt_PourError=>k_is)
  (case hic_PourError=>k_is)
  (case ac_Ring=>k_is)
  (case xb_Ring=>k_is)
  (case xt_Ring=>k_is)
  (case xl_Ring=>k_is)
  (case rv_Ring=>decide +kernel)
  (case xk_Ring=>k_is)
  (case xs_Ring=>k_is)
  (case xn_Ring_name=>k_is)
  (case xa_Ring=>k_is)
  (case xm_Ring=>k_is)
  (case xc_Ring=>k_is)
  (case xp_Ring=>k_is)
  (case xf_Ring=>k_is)
  (case hga_Ring=>k_is)
  (case hgt_Ring=>k_is)
  (case hhd_Ring=>k_is)
  (case hca_Ring=>k_is)
  (case hsp_Ring=>k_is)
  (case htk_Ring=>k_is)
  (case hmr_Ring=>k_is)
  (case ac_Taken=>k_is)
  (case xb_Taken=>k_is)
  (case xt_Taken=>k_is)
  (case xl_Taken=>k_is)
  (case rv_Taken=>decide +kernel)
  (case xk_Taken=>k_is)
  (case xs_Taken=>k_is)
  (case xn_Taken_name=>k_is)
  (case xa_Taken=>k_is)
  (case xm_Taken=>k_is)
  (case xc_Taken=>k_is)
  (case xp_Taken=>k_is)
  (case xf_Taken=>k_is)
  (case hga_Taken=>k_is)
  (case hgt_Taken=>k_is)
  (case hhd_Taken=>k_is)
  (case hca_Taken=>k_is)
  (case hsp_Taken=>k_is)
  (case htk_Taken=>k_is)
  (case hmr_Taken=>k_is)
  (case ac_Tie=>k_is)
  (case xb_Tie=>k_is)
  (case xt_Tie=>k_is)
  (case xl_Tie=>k_is)
  (case rv_Tie=>decide +kernel)
  (case xk_Tie=>k_is)
  (case xs_Tie=>k_is)
  (case xn_Tie_table=>k_is)
  (case xn_Tie_one=>k_is)
  (case xn_Tie_other=>k_is)
  (case xa_Tie=>k_is)
  (case xm_Tie=>k_is)
  (case xc_Tie=>k_is)
  (case xp_Tie=>k_is)
  (case xf_Tie=>k_is)
  (case hga_Tie=>k_is)
  (case hgt_Tie=>k_is)
  (case hhd_Tie=>k_is)
  (case hca_Tie=>k_is)
  (case hsp_Tie=>k_is)
  (case htk_Tie=>k_is)
  (case hmr_Tie=>k_is)
  (case ac_Twice=>k_is)
  (case xb_Twice=>k_is)
  (case xt_Twice=>k_is)
  (case xl_Twice=>k_is)
  (case rv_Twice=>decide +kernel)
  (case xk_Twice=>k_is)
  (case xs_Twice=>k_is)
  (case xn_Twice_name=>k_is)
  (case xa_Twice=>k_is)
  (case xm_Twice=>k_is)
  (case xc_Twice=>k_is)
  (case xp_Twice=>k_is)
  (case xf_Twice=>k_is)
  (case hga_Twice=>k_is)
  (case hgt_Twice=>k_is)
  (case hhd_Twice=>k_is)
  (case hca_Twice=>k_is)
  (case hsp_Twice=>k_is)
  (case htk_Twice=>k_is)
  (case hmr_Twice=>k_is)
  (case hne_BadText_FormError=>first | rfl | decide +kernel)
  (case hne_Tie_DeedError=>first | rfl | decide +kernel)
  (case hne_Tie_FormError=>first | rfl | decide +kernel)
  (case hne_Tie_PourError=>first | rfl | decide +kernel)
  (case hs_BadText_FormError=>first | rfl | k_is)
  (case hs_Tie_DeedError=>first | rfl | k_is)
  (case hs_Tie_FormError=>first | rfl | k_is)
  (case hs_Tie_PourError=>first | rfl | k_is)
#print axioms PySem.Challenge.cw_onepour_k66_refusals_made_by_hand_holds
