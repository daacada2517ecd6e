import PyProof.Rows.All
import Wide.All
import OpenK.AllK
import Wide.FinOn
import HandS.ForMost
import HandS.Wide
import HandS.IsInst
import HandS.Defaults
import HandS.EndBits
import HandS.Exc
import HandS.Flow
import HandS.TupAny
import HandS.TupMul
import HandS.Zip
import HandS.Lambda
import KE.KDictKeyed
import HandS.Style
import HandS.TryMany
import HandS.ExcOwn
import HandS.WordsExc
import HandS.EndOwn
import HandS.Deep
import HandS.MakeKwOnly
import HandS.MakeKw
import KE.KUnpackStar
import KE.DataCmp
import HandS.ExcValue
import PyProof.Rows.TupIter
import HandS.Strs
import KE.KDictZip
import KE.GoesZip
import KE.GoesMore
import HandS.More
import HandS.ExcInit
import HandS.ExcField
import HandS.FStr
import KE.KDflt
import KE.KDictPairs
import HandS.CallLocal
import HandS.ReCall
import PyProof.FactsAll.tuple_2
import PyProof.FactsAll.tuple_3
import KE.KEqNest
import PyProof.NeKinds
import HandS.DictComp
import KE.DataMinMax
import HandS.SortKw
import HandS.Set
import HandS.SetTxt0
import HandS.SetBool
import KE.GoesEnum
import PyProof.EnumMake
import PyProof.Draws
import HandS.Text
import KE.KUnpack
import KE.SortKeyHeap
import PyProof.Rows.SetFrom
import HandS.OwnEq
import PyProof.InstEq
import HandS.Finally
import HandS.Small
import KE.DataFind
import HandS.Sort
import PyProof.ListRange
import KE.KIndexOf
import KE.KDictList
import HandS.SuiteRaise
import HandS.RaiseFrom
import HandS.ExcInitHot
import KE.KTryMore
import PySem.Challenge.RW_onepour_k35_answers_alike
set_option Elab.async false
set_option linter.all false
set_option maxRecDepth 100000
set_option maxHeartbeats 4000000
namespace M3
open PySem L2
section
variable {X:Cx}
def newT (H:Hp) (xs:List V) (Q:VK):Prop:=∀(p:Addr) (o:Obj),H p=none→o.dict=none→Q (.ref p) (upd H p (.frz o (.tup xs)))
theorem frz_tup {P:Program} {w:World} {H:Hp} {h:Heap} {xs:List V} {its:List Value} {o:Obj} (ho:o={cls:=.type "tuple",data:=.seq its.toArray}) (hz:xs.length≤sizeLine) (r:Vals xs its):ObjOk P w H (h.push o) h.objs.size (.frz o (.tup xs)):=by
 subst ho
 exact ⟨Heap.get?_push_size _ rfl,hz,its,r,PyProof.Rows.IsTup.new _ _⟩
theorem lay_tup {pins:List (Addr×Obj)} {σ:St} {H:Hp} {s:Shared} {xs:List V} {its:List Value} {Q:VK} (I:Inv X pins σ H s) (hz:xs.length≤sizeLine) (r:Vals xs its) (q:newT H xs Q):
 EP X pins σ Q (.ref s.heap.objs.size) {s with heap:=s.heap.push {cls:=.type "tuple",data:=.seq its.toArray} }:=
 ⟨.ref s.heap.objs.size,_,I.laid (t':=s.toks) (fun _ _ e=>Heap.get?_push_of_some _ e) (Nat.le_refl _) (frz_tup rfl hz r),rfl,q _ _ (I.hok.fresh (Nat.le_refl _)) rfl⟩
def tTup (t:TA):TE:=fun σ H Q=>t σ H fun xs H1=>xs.length≤sizeLine∧newT H1 xs Q
theorem pe_tup {x1} {es:List Expr} {t:TA} {pos:Pos} (h:PA X es t):PE X (.Tuple es x1 pos) (tTup t):=by
 constructor
 intro pins s σ H Q I hq
 refine wpAny_Tuple_spliced (thn (h.run pos pins s σ H _ I hq) ?_)
 rintro us s1 ⟨xs,H1,I1,r,z,q⟩
 exact ⟨by rw [←r.length];exact z,lay_tup I1 z r q⟩
def rSlF (K:PySem.W.Frag):V→Option Int→Option Int→Hp→VK→Prop:=fun x lo hi H Q=>∃a xs,x= .ref a∧SqT K H a xs∧
 ((HT.sIx xs.length 0 lo=0∧HT.sIx xs.length xs.length hi=xs.length)→Q (.ref a) H)∧(¬(HT.sIx xs.length 0 lo=0∧HT.sIx xs.length xs.length hi=xs.length)→newT H (cutV xs lo hi) Q)
theorem sl_tupF:SlR X (rSlF X.K):=by
 intro pins s σ H x v vl vu lo hi sl Q I rx hs pl pu h
 obtain ⟨a,xs,rfl,hx,q1,q2⟩:=h
 cases rx
 obtain ⟨its,r,ht,hz⟩:=I.tuple hx
 have el:its.toArray.size=xs.length:=by rw [List.size_toArray];exact r.length.symm
 refine ⟨"tuple",_,PyProof.Rows.slot_tuple_getitem.lookup,ht.typeIs, ?_⟩
 by_cases hw:HT.sIx xs.length 0 lo=0∧HT.sIx xs.length xs.length hi=xs.length
 · exact getItem_tuple_whole ht hs pl pu (by rw [el];exact hw) ⟨.ref a,H,I,rfl,q1 hw⟩
 · refine HT.getItem_tuple_cut ht hs pl pu (by rw [el];exact hw) ?_ (by rw [el];exact hz)
   rw [el]
   exact lay_tup I (Nat.le_trans (cutV_length xs lo hi) hz) ((r.drop (HT.sIx xs.length 0 lo)).take (HT.sIx xs.length xs.length hi-HT.sIx xs.length 0 lo)) (q2 hw)
def rCatF (K:PySem.W.Frag):R2:=fun x y H Q=>∃a b xs ys,x= .ref a∧y= .ref b∧SqT K H a xs∧SqT K H b ys∧xs.length+ys.length≤sizeLine∧
 (xs=[]→Q (.ref b) H)∧(xs≠[]→ys=[]→Q (.ref a) H)∧(xs≠[]→ys≠[]→newT H (xs++ys) Q)
theorem op_catF:OpR X (binaryOp .Add) (rCatF X.K):=by
 intro pins s σ H x y v u Q I rx ry h
 obtain ⟨a,b,xs,ys,rfl,rfl,ha,hb,hz,q0,q1,q2⟩:=h
 cases rx
 cases ry
 obtain ⟨its,r1,p1,_⟩:=I.tuple ha
 obtain ⟨jts,r2,p2,_⟩:=I.tuple hb
 by_cases hx:xs=[]
 · subst hx
   cases r1
   exact cat_tup0 p1 p2 ⟨.ref b,H,I,rfl,q0 rfl⟩
 · refine HT.cat_tup p1 p2 (fun z=>hx (r1.nil_iff.mp z)) (fun z=>⟨.ref a,H,I,rfl,q1 hx (r2.nil_iff.mp z)⟩) (fun z=> ?_) (by rw [←r1.length, ←r2.length];exact hz)
   exact lay_tup I (by rw [List.length_append];exact hz) (r1.append r2) (q2 hx fun w=>z (r2.nil_iff.mpr w))
end
end M3
namespace M3
open PySem L2
inductive T where
 | non | bl (b:Bool) | int (i:Int) | str (x:Str) | ty (n:String) | ref (a:Addr)
 | tup (xs:List T) | lst (xs:List T) | dic (kvs:List (Key×T)) | ins (C:Addr) (fs:List (Str×T))
 | kd (w:World) (es:List (T×T))
def vis:HO→Bool
 | .tbl _=>false
 | _=>true
def out (S:List Addr) (H:Hp):Hp:=fun a=>if a∈S then none else H a
theorem out_in {S:List Addr} {H:Hp} {a:Addr} (h:a∈S):out S H a=none:=by unfold out;rw [if_pos h]
theorem out_out {S:List Addr} {H:Hp} {a:Addr} (h:a ∉ S):out S H a=H a:=by unfold out;rw [if_neg h]
theorem out_some {S:List Addr} {H:Hp} {a:Addr} {o:HO} (h:out S H a=some o):H a=some o∧a ∉ S:=by
 by_cases e:a∈S
 · rw [out_in e] at h;cases h
 · rw [out_out e] at h;exact ⟨h,e⟩
def hid (S:List Addr) (H:Hp):Hp:=fun a=>(out S H a).bind fun o=>if vis o=true then some o else none
theorem hid_in {S:List Addr} {H:Hp} {a:Addr} (h:a∈S):hid S H a=none:=by unfold hid;rw [out_in h];rfl
theorem hid_all {S:List Addr} {H:Hp} {a:Addr} {o:HO} (h:hid S H a=some o):H a=some o∧a ∉ S∧vis o=true:=by
 unfold hid at h
 cases e:out S H a with
 | none=>rw [e] at h;cases h
 | some u=>
   rw [e] at h
   have h:(if vis u=true then some u else none)=some o:=h
   by_cases v:vis u=true
   · rw [if_pos v] at h
     cases h
     exact ⟨(out_some e).1,(out_some e).2,v⟩
   · rw [if_neg v] at h;cases h
theorem hid_some {S:List Addr} {H:Hp} {a:Addr} {o:HO} (h:hid S H a=some o):H a=some o∧a ∉ S:=⟨(hid_all h).1,(hid_all h).2.1⟩
theorem hid_vis {S:List Addr} {H:Hp} {a:Addr} {o:HO} (h:hid S H a=some o):vis o=true:=(hid_all h).2.2
theorem hid_mk {S:List Addr} {H:Hp} {a:Addr} {o:HO} (h:H a=some o) (n:a ∉ S) (v:vis o=true:=by first | rfl | exact hid_vis (by assumption)):hid S H a=some o:=by
 unfold hid
 rw [out_out n,h]
 show (if vis o=true then some o else none)=some o
 rw [if_pos v]
theorem hid_same {S:List Addr} {H:Hp}:Same (hid S H) H:=fun _ _ h=>(hid_some h).1
theorem hid_mono {S S':List Addr} {H:Hp} (h:∀a∈S',a∈S):Same (hid S H) (hid S' H):=fun a _ e=>by
 obtain ⟨e1,e2⟩:=hid_some e
 exact hid_mk e1 fun z=>e2 (h a z)
theorem Same.rd {H H':Hp} (e:Same H H') {a:Addr} {u:HO} (h:Rd H a u):Rd H' a u:=by
 rcases h with h | ⟨o,h⟩
 · exact .inl (e _ _ h)
 · exact .inr ⟨o,e _ _ h⟩
theorem Same.sqT {K:PySem.W.Frag} {H H':Hp} {a:Addr} {xs:List V} (e:Same H H') (h:SqT K H a xs):SqT K H' a xs:=by
 rcases h with h | h
 · exact .inl (Same.rd e h)
 · exact .inr h
def FqT (K:PySem.W.Frag) (H:Hp) (a:Addr) (xs:List V):Prop:=
 (∃o:Obj,o.dict=none∧H a=some (.frz o (.tup xs)))∨
   ∃(o:Obj) (its:Array Value) (n:Nat),K.lookup a=some o∧o.dict=none∧o.cls= .type "tuple"∧o.data= .seq its n∧its.size≤sizeLine∧Vals xs its.toList
theorem FqT.sq {K:PySem.W.Frag} {H:Hp} {a:Addr} {xs:List V} (h:FqT K H a xs):SqT K H a xs:=by
 rcases h with ⟨o,_,h⟩ | ⟨o,its,n,h1,_,h2,h3,h4,h5⟩
 · exact .inl (.inr ⟨o,h⟩)
 · exact .inr ⟨o,its,n,h1,h2,h3,h4,h5⟩
theorem FqT.of {K:PySem.W.Frag} {H:Hp} {a:Addr} {xs:List V} {o:Obj} (d:o.dict=none) (h:H a=some (.frz o (.tup xs))):FqT K H a xs:=.inl ⟨o,d,h⟩
theorem Same.fqT {K:PySem.W.Frag} {H H':Hp} {a:Addr} {xs:List V} (e:Same H H') (h:FqT K H a xs):FqT K H' a xs:=by
 rcases h with ⟨o,d,h⟩ | h
 · exact .inl ⟨o,d,e _ _ h⟩
 · exact .inr h
inductive Rep (K:PySem.W.Frag) (H:Hp):V→T→Prop where
 | non:Rep K H .non .non
 | bl (b:Bool):Rep K H (.bl b) (.bl b)
 | int (i:Int):Rep K H (.int i) (.int i)
 | str (x:Str):Rep K H (.str x) (.str x)
 | ty (n:String):Rep K H (.ty n) (.ty n)
 | ref (a:Addr):Rep K H (.ref a) (.ref a)
 | tup {a:Addr} {vs:List V} {ts:List T} (h:FqT K H a vs) (hl:vs.length=ts.length) (hr:∀(i:Nat) v t,vs[i]? =some v→ts[i]? =some t→Rep K H v t):Rep K H (.ref a) (.tup ts)
 | lst {a:Addr} {vs:List V} {ts:List T} (h:H a=some (.lst vs)) (hl:vs.length=ts.length) (hr:∀(i:Nat) v t,vs[i]? =some v→ts[i]? =some t→Rep K H v t):Rep K H (.ref a) (.lst ts)
 | dic {a:Addr} {kvs:List (Key×V)} {ts:List (Key×T)} (h:∃o,H a=some (.frz o (.dK kvs))) (hk:kvs.map (·.1)=ts.map (·.1))
    (hr:∀(i:Nat) v t,(kvs.map (·.2))[i]? =some v→(ts.map (·.2))[i]? =some t→Rep K H v t):Rep K H (.ref a) (.dic ts)
 | ins {a C dx:Addr} {fs:List (Str×V)} {ts:List (Str×T)} (h:H a=some (.ins C dx fs)) (hk:fs.map (·.1)=ts.map (·.1))
    (hr:∀(i:Nat) v t,(fs.map (·.2))[i]? =some v→(ts.map (·.2))[i]? =some t→Rep K H v t):Rep K H (.ref a) (.ins C ts)
abbrev RepL (K:PySem.W.Frag) (H:Hp):List V→List T→Prop:=Paired (Rep K H)
section
variable {K:PySem.W.Frag} {H H':Hp} {v:V} {t:T} {vs:List V} {ts:List T} {a:Addr}
theorem Rep.mono (r:Rep K H v t) (e:Same H H'):Rep K H' v t:=by
 induction r with
 | non=>exact .non
 | bl b=>exact .bl b
 | int i=>exact .int i
 | str x=>exact .str x
 | ty n=>exact .ty n
 | ref a=>exact .ref a
 | tup h hl _ ih=>exact .tup (Same.fqT e h) hl ih
 | lst h hl _ ih=>exact .lst (e _ _ h) hl ih
 | dic h hk _ ih=>exact .dic (let ⟨o,q⟩:=h; ⟨o,e _ _ q⟩) hk ih
 | ins h hk _ ih=>exact .ins (e _ _ h) hk ih
theorem repL_mk:∀ {vs:List V} {ts:List T},vs.length=ts.length→(∀(i:Nat) v t,vs[i]? =some v→ts[i]? =some t→Rep K H v t)→RepL K H vs ts
 | [],[],_,_=>.nil
 | v::vs,t::ts,hl,hr=>.cons (hr 0 v t rfl rfl) (repL_mk (by simpa using hl) fun i v t h1 h2=>hr (i+1) v t (by simpa using h1) (by simpa using h2))
 | [],_::_,hl,_=>by simp at hl
 | _::_,[],hl,_=>by simp at hl
theorem RepL.length (r:RepL K H vs ts):vs.length=ts.length:=Paired.length r
theorem RepL.at:∀ {vs:List V} {ts:List T} {i:Nat} {v:V} {t:T},RepL K H vs ts→vs[i]? =some v→ts[i]? =some t→Rep K H v t
 | _,_,_,_,_,.nil,e,_=>by simp at e
 | _,_,0,_,_,.cons r _,e,f=>by simp at e f;subst e;subst f;exact r
 | _,_,i+1,v,t,.cons _ q,e,f=>RepL.at (i:=i) (v:=v) (t:=t) q (by simpa using e) (by simpa using f)
theorem RepL.get:∀ {vs:List V} {ts:List T} {i:Nat} {t:T},RepL K H vs ts→ts[i]? =some t→∃v,vs[i]? =some v∧Rep K H v t
 | _,_,_,_,.nil,e=>by simp at e
 | _,_,0,_,.cons r _,e=>by simp at e;subst e;exact ⟨_,rfl,r⟩
 | _,_,i+1,t,.cons _ q,e=>by
   obtain ⟨v,h1,h2⟩:=RepL.get (i:=i) (t:=t) q (by simpa using e)
   exact ⟨v,by simpa using h1,h2⟩
theorem RepL.mono (r:RepL K H vs ts) (e:Same H H'):RepL K H' vs ts:=Paired.mapP r fun _ _ z=>z.mono e
theorem RepL.append:∀ {vs ws:List V} {ts us:List T},RepL K H vs ts→RepL K H ws us→RepL K H (vs++ws) (ts++us)
 | _,_,_,_,.nil,s=>s
 | _,_,_,_,.cons r t,s=>.cons r (RepL.append t s)
theorem RepL.take:∀ {vs:List V} {ts:List T} (n:Nat),RepL K H vs ts→RepL K H (vs.take n) (ts.take n)
 | _,_,0,_=>.nil
 | _,_,_+1,.nil=>.nil
 | _,_,n+1,.cons r t=>.cons r (RepL.take n t)
theorem RepL.drop:∀ {vs:List V} {ts:List T} (n:Nat),RepL K H vs ts→RepL K H (vs.drop n) (ts.drop n)
 | _,_,0,r=>r
 | _,_,_+1,.nil=>.nil
 | _,_,n+1,.cons _ t=>RepL.drop n t
theorem RepL.set {v:V} {t:T} (r:Rep K H v t):∀ {vs:List V} {ts:List T} (i:Nat),RepL K H vs ts→RepL K H (vs.set i v) (ts.set i t)
 | _,_,_,.nil=>.nil
 | _,_,0,.cons _ q=>.cons r q
 | _,_,i+1,.cons p q=>.cons p (RepL.set r i q)
theorem Rep.mkT (h:FqT K H a vs) (r:RepL K H vs ts):Rep K H (.ref a) (.tup ts):=.tup h r.length fun _ _ _=>r.at
theorem Rep.mkL (h:H a=some (.lst vs)) (r:RepL K H vs ts):Rep K H (.ref a) (.lst ts):=.lst h r.length fun _ _ _=>r.at
theorem Rep.tupI (r:Rep K H v (.tup ts)):∃a vs,v= .ref a∧SqT K H a vs∧RepL K H vs ts:=by
 cases r with
 | tup h hl hr=>exact ⟨_,_,rfl,h.sq,repL_mk hl hr⟩
theorem Rep.tupF (r:Rep K H v (.tup ts)):∃a vs,v= .ref a∧FqT K H a vs∧RepL K H vs ts:=by
 cases r with
 | tup h hl hr=>exact ⟨_,_,rfl,h,repL_mk hl hr⟩
def RepB (K:PySem.W.Frag) (w:Bool) (H:Hp) (v:V) (t:T):Prop:=Rep K H v t∨(w=true∧∃a vs ts,v= .ref a∧t= .tup ts∧SqT K H a vs∧RepL K H vs ts)
theorem RepB.f (r:RepB K false H v t):Rep K H v t:=by
 rcases r with r | ⟨z,_⟩
 · exact r
 · cases z
theorem RepB.tupI {w:Bool} (r:RepB K w H v (.tup ts)):∃a vs,v= .ref a∧SqT K H a vs∧RepL K H vs ts:=by
 rcases r with r | ⟨_,a,vs,us,rfl,e,h,q⟩
 · exact r.tupI
 · cases e;exact ⟨a,vs,rfl,h,q⟩
theorem Rep.lstI (r:Rep K H v (.lst ts)):∃a vs,v= .ref a∧H a=some (.lst vs)∧RepL K H vs ts:=by
 cases r with
 | lst h hl hr=>exact ⟨_,_,rfl,h,repL_mk hl hr⟩
theorem Rep.intI {i:Int} (r:Rep K H v (.int i)):v= .int i:=by cases r;rfl
theorem Rep.blI {b:Bool} (r:Rep K H v (.bl b)):v= .bl b:=by cases r;rfl
theorem Rep.strI {x:Str} (r:Rep K H v (.str x)):v= .str x:=by cases r;rfl
theorem Rep.refI (r:Rep K H v (.ref a)):v= .ref a:=by cases r;rfl
end
inductive Sl where
 | no | val (t:T) | own (t:T)
def SameX (H H':Hp):Prop:=∀a q,H a=some (LamX.CodeO a q)→H' a=some (LamX.CodeO a q)
structure Cf where
 S0:List Addr
 I:Hp→Prop
 st:∀H H',(∀a∈S0,H' a=H a)→SameX H H'→I H→I H'
 on:∀H,I H→∀a∈S0,H a≠none
 gOk:HO→Prop
 gL:∀vs,gOk (.lst vs)
 gV:∀o,vis o=true→gOk o
 fr:Bool
def addrs (A:List (Option Addr)):List Addr:=A.filterMap id
def Cf.S (c:Cf) (G:List Addr) (A:List (Option Addr)):List Addr:=c.S0++G++addrs A
mutual
def nkT:T→Option NestedKey
 | .non=>some .none
 | .int i=>some (.num i)
 | .str x=>some (.text x)
 | .tup ts=>(nkTs ts).map .tup
 | _=>none
def nkTs:List T→Option (List NestedKey)
 | []=>some []
 | t::ts=>(nkT t).bind fun k=>(nkTs ts).map fun ks=>k::ks
end
def KdO (w:World) (a:Addr) (xs:List (NestedKey×Addr×V)):HO:=.ext fun h=>xs.length≤sizeLine∧(a==sysModules)=false∧∃(o:Obj) (es:Array DictEntry) (ep:Nat) (ys:List (NestedKey×Addr×Value)),
 Paired (fun (p:NestedKey×Addr×V) (q:NestedKey×Addr×Value)=>p.1=q.1∧p.2.1=q.2.1∧RelV p.2.2 q.2.2) xs ys∧h.get? a=some o∧o.ExactDict∧o.data= .dict es ep∧es.toList=ys.map (fun x=>⟨x.1.hash w,.ref x.2.1,x.2.2⟩)∧(ys.map (·.1)).Nodup
def KdRep (K:PySem.W.Frag) (Hv H:Hp) (w:World) (a:Addr) (es:List (T×T)):Prop:=∃xs,H a=some (KdO w a xs)∧
 Paired (fun (p:T×T) (q:NestedKey×Addr×V)=>nkT p.1=some q.1∧q.1.depth≤8∧Rep K Hv (.ref q.2.1) p.1∧Rep K Hv q.2.2 p.2) es xs
def OwnRep (K:PySem.W.Frag) (Hv H:Hp) (a:Addr):T→Prop
 | .lst xs=>∃vs,H a=some (.lst vs)∧RepL K Hv vs xs
 | .dic kvs=>∃ks,H a=some (.dK ks)∧ks.map (·.1)=kvs.map (·.1)∧RepL K Hv (ks.map (·.2)) (kvs.map (·.2))
 | .tup xs=>∃x C fs,xs=[.ref x,.ins C fs]∧a=x∧∃dx ks,H a=some (.ins C dx ks)∧ks.map (·.1)=fs.map (·.1)∧RepL K Hv (ks.map (·.2)) (fs.map (·.2))
 | .kd w es=>KdRep K Hv H w a es
 | _=>False
def SlRep (K:PySem.W.Frag) (Hv H:Hp) (s:Sl) (o:Option Addr) (x:Option V):Prop:=
 match s with
 | .no=>o=none
 | .val t=>o=none∧∃v,x=some v∧Rep K Hv v t
 | .own t=>∃a,o=some a∧x=some (.ref a)∧OwnRep K Hv H a t
structure R3 (K:PySem.W.Frag) (c:Cf) (Hb:Hp) (G:List Addr) (A:List (Option Addr)) (σ3:List Sl) (σ:St) (H:Hp):Prop where
 inv:c.I H
 base:Same (hid (c.S0++G) Hb) (hid (c.S G A) H)
 gk:∀a∈G,H a=Hb a∧H a≠none∧a ∉ c.S0
 gv:∀a∈G,∀o,H a=some o→c.gOk o
 nd:(addrs A).Nodup
 ns:∀a∈addrs A,a ∉ c.S0++G
 l1:A.length=σ3.length
 l2:σ.length=σ3.length
 at_:∀(i:Nat) s o x,σ3[i]? =some s→A[i]? =some o→σ[i]? =some x→SlRep K (hid (c.S G A) H) H s o x
structure Le (c:Cf) (G:List Addr) (A:List (Option Addr)) (H H':Hp):Prop where
 vis:Same (hid (c.S G A) H) (hid (c.S G A) H')
 own:∀a∈G++addrs A,H' a=H a
 inv:c.I H'
theorem Le.trans {c:Cf} {G:List Addr} {A:List (Option Addr)} {H H1 H2:Hp} (a:Le c G A H H1) (b:Le c G A H1 H2):Le c G A H H2:=
 ⟨Same.trans a.vis b.vis,fun x h=>(b.own x h).trans (a.own x h),b.inv⟩
theorem Le.refl {c:Cf} {G:List Addr} {A:List (Option Addr)} {H:Hp} (h:c.I H):Le c G A H H:=⟨Same.refl _,fun _ _=>rfl,h⟩
theorem mem_S {c:Cf} {G:List Addr} {A:List (Option Addr)} {a:Addr}:a∈c.S G A↔a∈c.S0∨a∈G∨a∈addrs A:=by
 unfold Cf.S
 rw [List.mem_append,List.mem_append,or_assoc]
theorem mem_addrs {A:List (Option Addr)} {a:Addr}:a∈addrs A↔some a∈A:=by
 unfold addrs
 rw [List.mem_filterMap]
 exact ⟨fun ⟨x,h,e⟩=>by cases e;exact h,fun h=>⟨_,h,rfl⟩⟩
section
variable {K:PySem.W.Frag} {c:Cf} {Hb H H':Hp} {G:List Addr} {A:List (Option Addr)} {σ3:List Sl} {σ:St} {v:V} {t:T}
theorem OwnRep.mono {Hv Hv':Hp} {a:Addr} {t:T} (r:OwnRep K Hv H a t) (e:Same Hv Hv') (h:H' a=H a):OwnRep K Hv' H' a t:=by
 cases t with
 | lst xs=>obtain ⟨vs,h1,h2⟩:=r;exact ⟨vs,h.trans h1,h2.mono e⟩
 | dic kvs=>obtain ⟨ks,h1,h2,h3⟩:=r;exact ⟨ks,h.trans h1,h2,h3.mono e⟩
 | tup xs=>obtain ⟨x,C,fs,h0,h4,dx,ks,h1,h2,h3⟩:=r;exact ⟨x,C,fs,h0,h4,dx,ks,h.trans h1,h2,h3.mono e⟩
 | kd w es=>obtain ⟨xs,h1,h2⟩:=r;exact ⟨xs,h.trans h1,Paired.mapP h2 fun p q z=>⟨z.1,z.2.1,z.2.2.1.mono e,z.2.2.2.mono e⟩⟩
 | _=>exact r
theorem OwnRep.there {Hv:Hp} {a:Addr} {t:T} (r:OwnRep K Hv H a t):H a≠none:=by
 cases t with
 | lst xs=>obtain ⟨vs,h1,h2⟩:=r;rw [h1];intro z;cases z
 | dic kvs=>obtain ⟨ks,h1,h2,h3⟩:=r;rw [h1];intro z;cases z
 | tup xs=>obtain ⟨x,C,fs,h0,h4,dx,ks,h1,h2,h3⟩:=r;rw [h1];intro z;cases z
 | kd w es=>obtain ⟨xs,h1,_⟩:=r;rw [h1];intro z;cases z
 | _=>exact r.elim
theorem R3.le (r:R3 K c Hb G A σ3 σ H) (l:Le c G A H H'):R3 K c Hb G A σ3 σ H' where
 inv:=l.inv
 base:=Same.trans r.base l.vis
 gk:=fun a h=>⟨(l.own a (List.mem_append.mpr (.inl h))).trans (r.gk a h).1,by rw [l.own a (List.mem_append.mpr (.inl h))];exact (r.gk a h).2.1,(r.gk a h).2.2⟩
 gv:=fun a h o e=>r.gv a h o (by rw [←l.own a (List.mem_append.mpr (.inl h))];exact e)
 nd:=r.nd
 ns:=r.ns
 l1:=r.l1
 l2:=r.l2
 at_:=fun i s o x h1 h2 h3=>by
  have z:=r.at_ i s o x h1 h2 h3
  cases s with
  | no=>exact z
  | val t=>obtain ⟨e,v,e2,q⟩:=z;exact ⟨e,v,e2,q.mono l.vis⟩
  | own t=>
    obtain ⟨a,e,e2,q⟩:=z
    refine ⟨a,e,e2,q.mono l.vis (l.own a (List.mem_append.mpr (.inr (mem_addrs.mpr ?_))))⟩
    subst e
    exact List.mem_of_getElem? h2
theorem R3.get (r:R3 K c Hb G A σ3 σ H) {i:Nat} (h:σ3[i]? =some (.val t)):∃v,σ[i]? =some (some v)∧Rep K (hid (c.S G A) H) v t:=by
 have hl:i<σ3.length:=(List.getElem?_eq_some_iff.mp h).1
 have h1:i<A.length:=by rw [r.l1];exact hl
 have h2:i<σ.length:=by rw [r.l2];exact hl
 obtain ⟨_,v,e,q⟩:=r.at_ i _ _ _ h (List.getElem?_eq_getElem h1) (List.getElem?_eq_getElem h2)
 exact ⟨v,by rw [List.getElem?_eq_getElem h2,e],q⟩
theorem R3.there (r:R3 K c Hb G A σ3 σ H) {a:Addr} (h:a∈c.S G A):H a≠none:=by
 rcases mem_S.mp h with h | h | h
 · exact c.on H r.inv a h
 · exact (r.gk a h).2.1
 · have h':=mem_addrs.mp h
   obtain ⟨i,hi⟩:=List.getElem?_of_mem h'
   have hl:i<A.length:=(List.getElem?_eq_some_iff.mp hi).1
   have h1:i<σ3.length:=by rw [←r.l1];exact hl
   have h2:i<σ.length:=by rw [r.l2];exact h1
   have z:=r.at_ i _ _ _ (List.getElem?_eq_getElem h1) hi (List.getElem?_eq_getElem h2)
   cases e:σ3[i] with
   | no=>rw [e] at z;cases z
   | val t=>rw [e] at z;obtain ⟨z,_⟩:=z;cases z
   | own t=>
     rw [e] at z
     obtain ⟨b,e1,e2,q⟩:=z
     cases e1
     exact q.there
theorem R3.free (r:R3 K c Hb G A σ3 σ H) {p:Addr} (h:H p=none):p ∉ c.S G A:=fun z=>r.there z h
theorem R3.new (r:R3 K c Hb G A σ3 σ H) {p:Addr} {o:HO} (h:H p=none):Le c G A H (upd H p o) where
 vis:=fun a u e=>by
  obtain ⟨e1,e2⟩:=hid_some e
  exact hid_mk (by rw [upd_ne (ne_of_none e1 h)];exact e1) e2
 own:=fun a ha=>by
  have hm:a∈c.S G A:=mem_S.mpr (by rcases List.mem_append.mp ha with z | z;exact .inr (.inl z);exact .inr (.inr z))
  have:a≠p:=fun z=>by subst z;exact r.there hm h
  rw [upd_ne this]
 inv:=c.st H _ (fun a ha=>by
  have hm:a∈c.S G A:=mem_S.mpr (.inl ha)
  have:a≠p:=fun z=>by subst z;exact r.there hm h
  rw [upd_ne this]) (fun a φ e=>by rw [upd_ne (ne_of_none e h)];exact e) r.inv
theorem R3.newAt (r:R3 K c Hb G A σ3 σ H) {p:Addr} {o:HO} (h:H p=none) (v:vis o=true:=by rfl):hid (c.S G A) (upd H p o) p=some o:=hid_mk upd_same (r.free h) v
theorem getElem?_set_cases {α:Type} {l:List α} {i j:Nat} {x y:α} (h:(l.set i x)[j]? =some y):(i=j∧y=x∧i<l.length)∨(i≠j∧l[j]? =some y):=by
 by_cases e:i=j
 · subst e
   have hl:i<l.length:=by
    have:=(List.getElem?_eq_some_iff.mp h).1
    simpa using this
   rw [List.getElem?_set_self hl] at h
   cases h
   exact .inl ⟨rfl,rfl,hl⟩
 · rw [List.getElem?_set_ne e] at h
   exact .inr ⟨e,h⟩
theorem addrs_set_sub {A:List (Option Addr)} {i:Nat}:∀a∈addrs (A.set i none),a∈addrs A:=fun a h=>by
 have h':=mem_addrs.mp h
 obtain ⟨j,hj⟩:=List.getElem?_of_mem h'
 rcases getElem?_set_cases hj with ⟨_,e,_⟩ | ⟨_,e⟩
 · cases e
 · exact mem_addrs.mpr (List.mem_of_getElem? e)
theorem S_sub {A A':List (Option Addr)} (h:∀a∈addrs A',a∈addrs A):∀a∈c.S G A',a∈c.S G A:=fun a z=>by
 rcases mem_S.mp z with z | z | z
 · exact mem_S.mpr (.inl z)
 · exact mem_S.mpr (.inr (.inl z))
 · exact mem_S.mpr (.inr (.inr (h a z)))
theorem nodup_filterMap_set:∀ {A:List (Option Addr)} {i:Nat},(addrs A).Nodup→(addrs (A.set i none)).Nodup
 | [],i,h=>by simpa using h
 | none::A,0,h=>h
 | some a::A,0,h=>(List.nodup_cons.mp (show (a::addrs A).Nodup from h)).2
 | none::A,i+1,h=>nodup_filterMap_set (A:=A) (i:=i) h
 | some a::A,i+1,h=>by
   have h':=List.nodup_cons.mp (show (a::addrs A).Nodup from h)
   exact List.nodup_cons.mpr ⟨fun z=>h'.1 (addrs_set_sub a z),nodup_filterMap_set (A:=A) (i:=i) h'.2⟩
theorem R3.set (r:R3 K c Hb G A σ3 σ H) (i:Nat) (q:Rep K (hid (c.S G A) H) v t):R3 K c Hb G (A.set i none) (σ3.set i (.val t)) (σ.set i (some v)) H:=by
 have sub:Same (hid (c.S G A) H) (hid (c.S G (A.set i none)) H):=hid_mono (S_sub addrs_set_sub)
 refine ⟨r.inv,Same.trans r.base sub,r.gk,r.gv,nodup_filterMap_set (A:=A) r.nd,fun a h=>r.ns a (addrs_set_sub a h),by rw [List.length_set,List.length_set,r.l1],by rw [List.length_set,List.length_set,r.l2], ?_⟩
 intro j s o x h1 h2 h3
 rcases getElem?_set_cases h1 with ⟨e,e1,_⟩ | ⟨e,e1⟩
 · subst e
   subst e1
   rcases getElem?_set_cases h2 with ⟨_,e2,_⟩ | ⟨e2,_⟩
   · subst e2
     rcases getElem?_set_cases h3 with ⟨_,e3,_⟩ | ⟨e3,_⟩
     · subst e3
       exact ⟨rfl,v,rfl,q.mono sub⟩
     · exact absurd rfl e3
   · exact absurd rfl e2
 · rw [List.getElem?_set_ne e] at h2 h3
   have z:=r.at_ j s o x e1 h2 h3
   cases s with
   | no=>exact z
   | val t=>obtain ⟨e,v,e2,q⟩:=z;exact ⟨e,v,e2,q.mono sub⟩
   | own t=>obtain ⟨a,e,e2,q⟩:=z;exact ⟨a,e,e2,q.mono sub rfl⟩
theorem R3.wipe1 (r:R3 K c Hb G A σ3 σ H) (i:Nat) (x:Option V):R3 K c Hb G (A.set i none) (σ3.set i .no) (σ.set i x) H:=by
 have sub:Same (hid (c.S G A) H) (hid (c.S G (A.set i none)) H):=hid_mono (S_sub addrs_set_sub)
 refine ⟨r.inv,Same.trans r.base sub,r.gk,r.gv,nodup_filterMap_set (A:=A) r.nd,fun a h=>r.ns a (addrs_set_sub a h),by rw [List.length_set,List.length_set,r.l1],by rw [List.length_set,List.length_set,r.l2], ?_⟩
 intro j s o x' h1 h2 h3
 rcases getElem?_set_cases h1 with ⟨e,e1,_⟩ | ⟨e,e1⟩
 · subst e
   subst e1
   rcases getElem?_set_cases h2 with ⟨_,e2,_⟩ | ⟨e2,_⟩
   · exact e2
   · exact absurd rfl e2
 · rw [List.getElem?_set_ne e] at h2 h3
   have z:=r.at_ j s o x' e1 h2 h3
   cases s with
   | no=>exact z
   | val t=>obtain ⟨e,v,e2,q⟩:=z;exact ⟨e,v,e2,q.mono sub⟩
   | own t=>obtain ⟨a,e,e2,q⟩:=z;exact ⟨a,e,e2,q.mono sub rfl⟩
end
end M3
namespace M3
open PySem L2
structure Xn where
 cls:Value
 fs:List (Str×T)
def XRep (K:PySem.W.Frag) (Hv:Hp) (cls:Value) (dd:Option Addr) (x:Xn):Prop:=
 x.cls=cls∧match dd with
  | none=>x.fs=[]
  | some d=>∃fs,Hv d=some (.xd fs)∧fs.map (·.1)=x.fs.map (·.1)∧RepL K Hv (fs.map (·.2)) (x.fs.map (·.2))
abbrev X3:=Xn→Prop
abbrev G3 (β:Type):=List Sl→(β→Prop)→X3→Prop
abbrev E3:=G3 T
abbrev B3:=G3 Bool
abbrev A3:=G3 (List T)
def LiftG (K:PySem.W.Frag) (c:Cf) (W:WX) {α β:Type} (rel:Hp→α→β→Prop) (te:St→Hp→(α→Hp→Prop)→Prop) (t:G3 β):Prop:=
 ∀σ3 Q3 X,t σ3 Q3 X→∀Hb G A σ H Q,R3 K c Hb G A σ3 σ H→
  (∀v d H',Le c G A H H'→rel (hid (c.S G A) H') v d→Q3 d→Q v H')→
  (∀cls dd x H',Le c G A H H'→XRep K (hid (c.S G A) H') cls dd x→X x→W cls dd σ H')→te σ H Q
abbrev Lift (K:PySem.W.Frag) (c:Cf) (W:WX) (te:TE) (t:E3):Prop:=LiftG K c W (Rep K) te t
abbrev LiftT (K:PySem.W.Frag) (c:Cf) (W:WX) (te:TT) (t:B3):Prop:=LiftG K c W (fun _ (b b':Bool)=>b=b') te t
abbrev LiftA (K:PySem.W.Frag) (c:Cf) (W:WX) (te:TA) (t:A3):Prop:=LiftG K c W (RepL K) te t
abbrev LiftO (K:PySem.W.Frag) (c:Cf) (W:WX) (te:TO) (t:G3 (Option Int)):Prop:=LiftG K c W (fun _ (b b':Option Int)=>b=b') te t
def ob {α:Type} (o:Option α) (Q:α→Prop):Prop:=match o with | some a=>Q a | none=>False
@[simp] theorem ob_some {α:Type} (a:α) (Q:α→Prop):ob (some a) Q=Q a:=rfl
@[simp] theorem ob_none {α:Type} (Q:α→Prop):ob none Q=False:=rfl
theorem ob_iff {α:Type} {o:Option α} {Q:α→Prop}:ob o Q↔∃a,o=some a∧Q a:=by
 cases o with
 | none=>exact ⟨fun h=>h.elim,fun ⟨_,h,_⟩=>by cases h⟩
 | some a=>exact ⟨fun h=>⟨a,rfl,h⟩,fun ⟨_,h,q⟩=>by cases h;exact q⟩
def asI:T→Option Int
 | .int i=>some i
 | _=>none
def asL:T→Option (List T)
 | .lst i=>some i
 | _=>none
def asT:T→Option (List T)
 | .tup i=>some i
 | _=>none
def asS:T→Option Str
 | .str i=>some i
 | _=>none
def asN:T→Option Unit
 | .non=>some ()
 | _=>none
def asB:T→Option Bool
 | .bl b=>some b
 | _=>none
def one {α:Type}:List α→Option α
 | [x]=>some x
 | _=>none
def two {α:Type}:List α→Option (α×α)
 | [x,y]=>some (x,y)
 | _=>none
@[simp] theorem asI_non:asI .non=none:=rfl
@[simp] theorem asI_bl (b:Bool):asI (.bl b)=none:=rfl
@[simp] theorem asI_int (b:Int):asI (.int b)=some b:=rfl
@[simp] theorem asI_str (b:Str):asI (.str b)=none:=rfl
@[simp] theorem asI_tup (b:List T):asI (.tup b)=none:=rfl
@[simp] theorem asI_lst (b:List T):asI (.lst b)=none:=rfl
@[simp] theorem asL_non:asL .non=none:=rfl
@[simp] theorem asL_bl (b:Bool):asL (.bl b)=none:=rfl
@[simp] theorem asL_int (b:Int):asL (.int b)=none:=rfl
@[simp] theorem asL_str (b:Str):asL (.str b)=none:=rfl
@[simp] theorem asL_tup (b:List T):asL (.tup b)=none:=rfl
@[simp] theorem asL_lst (b:List T):asL (.lst b)=some b:=rfl
@[simp] theorem asT_non:asT .non=none:=rfl
@[simp] theorem asT_bl (b:Bool):asT (.bl b)=none:=rfl
@[simp] theorem asT_int (b:Int):asT (.int b)=none:=rfl
@[simp] theorem asT_str (b:Str):asT (.str b)=none:=rfl
@[simp] theorem asT_tup (b:List T):asT (.tup b)=some b:=rfl
@[simp] theorem asT_lst (b:List T):asT (.lst b)=none:=rfl
@[simp] theorem asS_non:asS .non=none:=rfl
@[simp] theorem asS_bl (b:Bool):asS (.bl b)=none:=rfl
@[simp] theorem asS_int (b:Int):asS (.int b)=none:=rfl
@[simp] theorem asS_str (b:Str):asS (.str b)=some b:=rfl
@[simp] theorem asS_tup (b:List T):asS (.tup b)=none:=rfl
@[simp] theorem asS_lst (b:List T):asS (.lst b)=none:=rfl
@[simp] theorem asN_non:asN .non=some ():=rfl
@[simp] theorem asN_bl (b:Bool):asN (.bl b)=none:=rfl
@[simp] theorem asN_int (b:Int):asN (.int b)=none:=rfl
@[simp] theorem asN_str (b:Str):asN (.str b)=none:=rfl
@[simp] theorem asN_tup (b:List T):asN (.tup b)=none:=rfl
@[simp] theorem asN_lst (b:List T):asN (.lst b)=none:=rfl
@[simp] theorem asB_non:asB .non=none:=rfl
@[simp] theorem asB_bl (b:Bool):asB (.bl b)=some b:=rfl
@[simp] theorem asB_int (b:Int):asB (.int b)=none:=rfl
@[simp] theorem asB_str (b:Str):asB (.str b)=none:=rfl
@[simp] theorem asB_tup (b:List T):asB (.tup b)=none:=rfl
@[simp] theorem asB_lst (b:List T):asB (.lst b)=none:=rfl
@[simp] theorem one_1 {α:Type} (x:α):one [x]=some x:=rfl
@[simp] theorem two_2 {α:Type} (x y:α):two [x,y]=some (x,y):=rfl
theorem asI_is {x:T} {i:Int} (h:asI x=some i):x= .int i:=by cases x<;>cases h;rfl
theorem asL_is {x:T} {i:List T} (h:asL x=some i):x= .lst i:=by cases x<;>cases h;rfl
theorem asT_is {x:T} {i:List T} (h:asT x=some i):x= .tup i:=by cases x<;>cases h;rfl
theorem asS_is {x:T} {i:Str} (h:asS x=some i):x= .str i:=by cases x<;>cases h;rfl
theorem asB_is {x:T} {i:Bool} (h:asB x=some i):x= .bl i:=by cases x<;>cases h;rfl
theorem one_is {α:Type} {l:List α} {x:α} (h:one l=some x):l=[x]:=by
 match l,h with
 | [y],h=>cases h;rfl
theorem two_is {α:Type} {l:List α} {x:α×α} (h:two l=some x):l=[x.1,x.2]:=by
 match l,h with
 | [y,z],h=>cases h;rfl
def slot (σ:List Sl) (i:Nat):Option T:=match σ[i]? with | some (.val t)=>some t | _=>none
def v3 (i:Nat):E3:=fun σ Q _=>ob (slot σ i) Q
def k3 (t:T):E3:=fun _ Q _=>Q t
def op3 (r:T→T→(T→Prop)→Prop) (a b:E3):E3:=fun σ Q X=>a σ (fun x=>b σ (fun y=>r x y Q) X) X
def un3 (r:T→(T→Prop)→Prop) (a:E3):E3:=fun σ Q X=>a σ (fun x=>r x Q) X
def nil3:A3:=fun _ Q _=>Q []
def cons3 (a:E3) (r:A3):A3:=fun σ Q X=>a σ (fun x=>r σ (fun xs=>Q (x::xs)) X) X
def call3 (r:List T→(T→Prop)→Prop) (a:A3):E3:=fun σ Q X=>a σ (fun xs=>r xs Q) X
def RL2 (K:PySem.W.Frag) (r:R2) (r3:T→T→(T→Prop)→Prop):Prop:=
 ∀(c:Cf) x y Q3,r3 x y Q3→∀Hb G A σ3 σ H vx vy Q,R3 K c Hb G A σ3 σ H→Rep K (hid (c.S G A) H) vx x→Rep K (hid (c.S G A) H) vy y→
  (∀v d H',Le c G A H H'→Rep K (hid (c.S G A) H') v d→Q3 d→Q v H')→r vx vy H Q
def RL1 (K:PySem.W.Frag) (r:V→Hp→VK→Prop) (r3:T→(T→Prop)→Prop):Prop:=
 ∀(c:Cf) x Q3,r3 x Q3→∀Hb G A σ3 σ H vx Q,R3 K c Hb G A σ3 σ H→Rep K (hid (c.S G A) H) vx x→
  (∀v d H',Le c G A H H'→Rep K (hid (c.S G A) H') v d→Q3 d→Q v H')→r vx H Q
def RLn (K:PySem.W.Frag) (r:List V→Hp→VK→Prop) (r3:List T→(T→Prop)→Prop):Prop:=
 ∀(c:Cf) xs Q3,r3 xs Q3→∀Hb G A σ3 σ H vs Q,R3 K c Hb G A σ3 σ H→RepL K (hid (c.S G A) H) vs xs→
  (∀v d H',Le c G A H H'→Rep K (hid (c.S G A) H') v d→Q3 d→Q v H')→r vs H Q
section
variable {K:PySem.W.Frag} {c:Cf} {W:WX} {ta tb te:TE} {a b e:E3}
theorem slot_get {σ:List Sl} {i:Nat} {t:T} (h:slot σ i=some t):σ[i]? =some (.val t):=by
 unfold slot at h
 split at h
 · cases h;assumption
 · cases h
theorem lift_v (i:Nat):Lift K c W (tVar i) (v3 i):=by
 intro σ3 Q3 X h Hb G A σ H Q R k e
 obtain ⟨t,h1,h2⟩:=ob_iff.mp h
 obtain ⟨v,h3,h4⟩:=R.get (slot_get h1)
 exact ⟨v,h3,k v t H (Le.refl R.inv) h4 h2⟩
theorem lift_k {v:V} {t:T} (r:∀H,Rep K H v t):Lift K c W (tC v) (k3 t):=by
 intro σ3 Q3 X h Hb G A σ H Q R k e
 exact k v t H (Le.refl R.inv) (r _) h
theorem lift_int (i:Int):Lift K c W (tC (.int i)) (k3 (.int i)):=lift_k fun _=>.int i
theorem lift_str (x:Str):Lift K c W (tC (.str x)) (k3 (.str x)):=lift_k fun _=>.str x
theorem lift_bl (b:Bool):Lift K c W (tC (.bl b)) (k3 (.bl b)):=lift_k fun _=>.bl b
theorem lift_non:Lift K c W (tC .non) (k3 .non):=lift_k fun _=>.non
theorem lift_op {r:R2} {r3:T→T→(T→Prop)→Prop} (hr:RL2 K r r3) (ha:Lift K c W ta a) (hb:Lift K c W tb b):Lift K c W (tOp r ta tb) (op3 r3 a b):=by
 intro σ3 Q3 X h Hb G A σ H Q R k e
 refine ha _ _ _ h Hb G A σ H _ R (fun vx x H1 L1 rx hx=> ?_) e
 refine hb _ _ _ hx Hb G A σ H1 _ (R.le L1) (fun vy y H2 L2 ry hy=> ?_) (fun cls dd x H' L=>e cls dd x H' (L1.trans L))
 exact hr c _ _ _ hy Hb G A σ3 σ H2 vx vy Q ((R.le L1).le L2) (rx.mono L2.vis) ry (fun v d H3 L3=>k v d H3 ((L1.trans L2).trans L3))
theorem lift_un {r:V→Hp→VK→Prop} {r3:T→(T→Prop)→Prop} (hr:RL1 K r r3) (ha:Lift K c W ta a):Lift K c W (tUn r ta) (un3 r3 a):=by
 intro σ3 Q3 X h Hb G A σ H Q R k e
 refine ha _ _ _ h Hb G A σ H _ R (fun vx x H1 L1 rx hx=> ?_) e
 exact hr c _ _ hx Hb G A σ3 σ H1 vx Q (R.le L1) rx (fun v d H3 L3=>k v d H3 (L1.trans L3))
theorem lift_nil:LiftA K c W tNil nil3:=by
 intro σ3 Q3 X h Hb G A σ H Q R k e
 exact k [] [] H (Le.refl R.inv) .nil h
theorem lift_cons {tr:TA} {r:A3} (ha:Lift K c W ta a) (hr:LiftA K c W tr r):LiftA K c W (tCons ta tr) (cons3 a r):=by
 intro σ3 Q3 X h Hb G A σ H Q R k e
 refine ha _ _ _ h Hb G A σ H _ R (fun vx x H1 L1 rx hx=> ?_) e
 refine hr _ _ _ hx Hb G A σ H1 _ (R.le L1) (fun vy y H2 L2 ry hy=> ?_) (fun cls dd x H' L=>e cls dd x H' (L1.trans L))
 exact k _ _ H2 (L1.trans L2) (.cons (rx.mono L2.vis) ry) hy
theorem lift_cb {r:List V→Hp→VK→Prop} {r3:List T→(T→Prop)→Prop} {t:TA} {x:A3} (hr:RLn K r r3) (ha:LiftA K c W t x):Lift K c W (tCB r t) (call3 r3 x):=by
 intro σ3 Q3 X h Hb G A σ H Q R k e
 refine ha _ _ _ h Hb G A σ H _ R (fun vx x H1 L1 rx hx=> ?_) e
 exact hr c _ _ hx Hb G A σ3 σ H1 vx Q (R.le L1) rx (fun v d H3 L3=>k v d H3 (L1.trans L3))
def tup3 (x:A3):E3:=fun σ Q X=>x σ (fun xs=>xs.length≤sizeLine∧Q (.tup xs)) X
def lst3 (x:A3):E3:=fun σ Q X=>x σ (fun xs=>xs.length≤sizeLine∧Q (.lst xs)) X
theorem lift_tup {t:TA} {x:A3} (ha:LiftA K c W t x):Lift K c W (tTup t) (tup3 x):=by
 intro σ3 Q3 X h Hb G A σ H Q R k e
 refine ha _ _ _ h Hb G A σ H _ R (fun vs xs H1 L1 rx hx=> ?_) e
 refine ⟨by rw [rx.length];exact hx.1,fun p o hp hd=> ?_⟩
 have L2:=(R.le L1).new (o:=.frz o (.tup vs)) hp
 exact k _ _ _ (L1.trans L2) (.mkT (FqT.of hd ((R.le L1).newAt hp)) (rx.mono L2.vis)) hx.2
theorem lift_lst {t:TA} {x:A3} (ha:LiftA K c W t x):Lift K c W (tLst t) (lst3 x):=by
 intro σ3 Q3 X h Hb G A σ H Q R k e
 refine ha _ _ _ h Hb G A σ H _ R (fun vs xs H1 L1 rx hx=> ?_) e
 refine ⟨by rw [rx.length];exact hx.1,fun p hp=> ?_⟩
 have L2:=(R.le L1).new (o:=.lst vs) hp
 exact k _ _ _ (L1.trans L2) (.mkL ((R.le L1).newAt hp) (rx.mono L2.vis)) hx.2
def tst3 (a:E3):B3:=fun σ Q X=>a σ (fun x=>ob (asB x) Q) X
def and3 (a b:B3):B3:=fun σ Q X=>a σ (fun x=>if x=true then b σ Q X else Q false) X
def or3 (a b:B3):B3:=fun σ Q X=>a σ (fun x=>if x=true then Q true else b σ Q X) X
def not3 (a:B3):B3:=fun σ Q X=>a σ (fun x=>Q (!x)) X
def andV3 (a b:E3):E3:=fun σ Q X=>a σ (fun x=>ob (asB x) fun k=>if k=true then b σ Q X else Q (.bl false)) X
def orV3 (a b:E3):E3:=fun σ Q X=>a σ (fun x=>ob (asB x) fun k=>if k=true then Q (.bl true) else b σ Q X) X
def notV3 (a:E3):E3:=fun σ Q X=>a σ (fun x=>ob (asB x) fun k=>Q (.bl (!k))) X
def if3 (t:B3) (a b:E3):E3:=fun σ Q X=>t σ (fun x=>if x=true then a σ Q X else b σ Q X) X
theorem lift_tst (ha:Lift K c W ta a):LiftT K c W (tTest ta) (tst3 a):=by
 intro σ3 Q3 X h Hb G A σ H Q R k e
 refine ha _ _ _ h Hb G A σ H _ R (fun vx x H1 L1 rx hx=> ?_) e
 obtain ⟨b,eb,q⟩:=ob_iff.mp hx
 cases asB_is eb
 exact ⟨b,rx.blI,k b b H1 L1 rfl q⟩
theorem lift_tB (ha:Lift K c W ta a):LiftT K c W (tB ta) (tst3 a):=lift_tst ha
theorem lift_or {t u:TT} {x y:B3} (ha:LiftT K c W t x) (hb:LiftT K c W u y):LiftT K c W (tOr t u) (or3 x y):=by
 intro σ3 Q3 X h Hb G A σ H Q R k e
 refine ha _ _ _ h Hb G A σ H _ R (fun vx x H1 L1 rx hx=> ?_) e
 subst rx
 cases vx with
 | false=>exact iteF (hb _ _ _ (by simpa using hx) Hb G A σ H1 _ (R.le L1) (fun v d H' L=>k v d H' (L1.trans L)) (fun cls dd x H' L=>e cls dd x H' (L1.trans L)))
 | true=>exact iteT (k true true H1 L1 rfl (by simpa using hx))
theorem lift_not {t:TT} {x:B3} (ha:LiftT K c W t x):LiftT K c W (tNot t) (not3 x):=by
 intro σ3 Q3 X h Hb G A σ H Q R k e
 refine ha _ _ _ h Hb G A σ H _ R (fun vx x H1 L1 rx hx=> ?_) e
 subst rx
 exact k _ _ H1 L1 rfl hx
theorem lift_if {t:TT} {x:B3} (ht:LiftT K c W t x) (ha:Lift K c W ta a) (hb:Lift K c W tb b):Lift K c W (tIf t ta tb) (if3 x a b):=by
 intro σ3 Q3 X h Hb G A σ H Q R k e
 refine ht _ _ _ h Hb G A σ H _ R (fun vx x H1 L1 rx hx=> ?_) e
 subst rx
 cases vx with
 | true=>exact iteT (ha _ _ _ (by simpa using hx) Hb G A σ H1 _ (R.le L1) (fun v d H' L=>k v d H' (L1.trans L)) (fun cls dd x H' L=>e cls dd x H' (L1.trans L)))
 | false=>exact iteF (hb _ _ _ (by simpa using hx) Hb G A σ H1 _ (R.le L1) (fun v d H' L=>k v d H' (L1.trans L)) (fun cls dd x H' L=>e cls dd x H' (L1.trans L)))
def chain3 (r r':T→T→(T→Prop)→Prop) (a b d:E3):E3:=fun σ Q X=>a σ (fun x=>b σ (fun y=>r x y fun z=>ob (asB z) fun k=>if k=true then d σ (fun w=>r' y w Q) X else Q (.bl false)) X) X
end
structure N3 where
 nx:List Sl→Prop
 rt:T→Prop
 bk:List Sl→Prop:=fun _=>False
 ct:List Sl→Prop:=fun _=>False
 xn:List Sl→Xn→Prop:=fun _ _=>False
abbrev S3:=N3→List Sl→Prop
structure Fin3 (K:PySem.W.Frag) (c:Cf) (Hb:Hp) (G:List Addr) (H:Hp):Prop where
 inv:c.I H
 base:Same (hid (c.S0++G) Hb) (hid (c.S0++G) H)
 gk:∀a∈G,H a=Hb a
theorem R3.fin {K:PySem.W.Frag} {c:Cf} {Hb H:Hp} {G:List Addr} {A:List (Option Addr)} {σ3:List Sl} {σ:St} (r:R3 K c Hb G A σ3 σ H):Fin3 K c Hb G H:=
 ⟨r.inv,Same.trans r.base (hid_mono fun a h=>by rcases List.mem_append.mp h with h | h;exact mem_S.mpr (.inl h);exact mem_S.mpr (.inr (.inl h))),fun a h=>(r.gk a h).1⟩
theorem hid_fin {c:Cf} {H:Hp} {G:List Addr} {A:List (Option Addr)}:Same (hid (c.S G A) H) (hid (c.S0++G) H):=
 hid_mono fun a h=>by rcases List.mem_append.mp h with h | h;exact mem_S.mpr (.inl h);exact mem_S.mpr (.inr (.inl h))
def FinO (K:PySem.W.Frag) (c:Cf) (Hb:Hp) (G:List Addr) (H:Hp) (v:V) (d:T):Prop:=
 ∃D,v= .ref D∧D ∉ c.S0++G∧c.I H∧Same (hid (c.S0++G) Hb) (hid (D::(c.S0++G)) H)∧(∀a∈G,H a=Hb a)∧OwnRep K (hid (D::(c.S0++G)) H) H D d
def FinR (K:PySem.W.Frag) (c:Cf) (Hb:Hp) (G:List Addr) (H:Hp) (v:V) (d:T):Prop:=
 match c.fr with
 | false=>Fin3 K c Hb G H∧Rep K (hid (c.S0++G) H) v d
 | true=>FinO K c Hb G H v d
theorem FinR.val {K:PySem.W.Frag} {c:Cf} {Hb:Hp} {G:List Addr} {H:Hp} {v:V} {d:T} (e:c.fr=false) (F:Fin3 K c Hb G H) (r:Rep K (hid (c.S0++G) H) v d):FinR K c Hb G H v d:=by
 unfold FinR
 rw [e]
 exact ⟨F,r⟩
theorem FinR.new {K:PySem.W.Frag} {c:Cf} {Hb:Hp} {G:List Addr} {H:Hp} {v:V} {d:T} (e:c.fr=true) (F:FinO K c Hb G H v d):FinR K c Hb G H v d:=by
 unfold FinR
 rw [e]
 exact F
structure To (K:PySem.W.Frag) (c:Cf) (W:WX) (Hb:Hp) (G:List Addr) (N:N3) (D:Ends):Prop where
 nx:∀A σ3 σ H,R3 K c Hb G A σ3 σ H→N.nx σ3→D.nx σ H
 rt:∀v d H,FinR K c Hb G H v d→N.rt d→D.rt v H
 bk:∀A σ3 σ H,R3 K c Hb G A σ3 σ H→N.bk σ3→D.bk σ H
 ct:∀A σ3 σ H,R3 K c Hb G A σ3 σ H→N.ct σ3→D.ct σ H
 xn:∀A σ3 σ H cls dd x,R3 K c Hb G A σ3 σ H→XRep K (hid (c.S G A) H) cls dd x→N.xn σ3 x→W cls dd σ H
def LiftS (K:PySem.W.Frag) (c:Cf) (W:WX) (ts:TS) (t:S3):Prop:=
 ∀N σ3,t N σ3→∀Hb G A σ H (D:Ends),R3 K c Hb G A σ3 σ H→To K c W Hb G N D→ts D σ H
def next3:S3:=fun N σ=>N.nx σ
def seq3 (t u:S3):S3:=fun N σ=>t {N with nx:=u N} σ
def brk3:S3:=fun N σ=>N.bk σ
def cont3:S3:=fun N σ=>N.ct σ
def drop3 (a:E3):S3:=fun N σ=>a σ (fun _=>N.nx σ) (N.xn σ)
def ret3 (a:E3):S3:=fun N σ=>a σ N.rt (N.xn σ)
def retN3:S3:=fun N _=>N.rt .non
def ifs3 (c:B3) (t u:S3):S3:=fun N σ=>c σ (fun b=>if b=true then t N σ else u N σ) (N.xn σ)
abbrev TG3:=T→List Sl→(List Sl→Prop)→Prop
def name3 (i:Nat):TG3:=fun d σ Q=>Q (σ.set i (.val d))
def Sets (vs:List Nat) (A A':List (Option Addr)) (σ σ':St):Prop:=σ'.length=σ.length∧(∀j:Nat,j ∉ vs→σ'[j]? =σ[j]? ∧A'[j]? =A[j]?)∧∀a∈addrs A',a∈addrs A
theorem Sets.mono {vs ws:List Nat} {A A':List (Option Addr)} {σ σ':St} (h:Sets vs A A' σ σ') (s:∀j∈vs,j∈ws):Sets ws A A' σ σ':=⟨h.1,fun j hj=>h.2.1 j fun z=>hj (s j z),h.2.2⟩
theorem Sets.trans {vs:List Nat} {A A1 A2:List (Option Addr)} {σ σ1 σ2:St} (a:Sets vs A A1 σ σ1) (b:Sets vs A1 A2 σ1 σ2):Sets vs A A2 σ σ2:=
 ⟨b.1.trans a.1,fun j hj=>⟨(b.2.1 j hj).1.trans (a.2.1 j hj).1,(b.2.1 j hj).2.trans (a.2.1 j hj).2⟩,fun x z=>a.2.2 x (b.2.2 x z)⟩
def LiftTgB (K:PySem.W.Frag) (c:Cf) (w:Bool) (vs:List Nat) (g:TG) (g3:TG3):Prop:=
 ∀d σ3 Q3,g3 d σ3 Q3→∀Hb G A σ H v Q,R3 K c Hb G A σ3 σ H→RepB K w (hid (c.S G A) H) v d→
  (∀A' σ3' σ' H',R3 K c Hb G A' σ3' σ' H'→H'=H→Sets vs A A' σ σ'→Q3 σ3'→Q σ' H')→g v σ H Q
abbrev LiftTg (K:PySem.W.Frag) (c:Cf) (vs:List Nat) (g:TG) (g3:TG3):Prop:=LiftTgB K c false vs g g3
def asg3 (a:E3) (g:TG3):S3:=fun N σ=>a σ (fun d=>g d σ N.nx) (N.xn σ)
section
variable {K:PySem.W.Frag} {c:Cf} {W:WX} {ta tb te:TE} {a b e:E3} {t u:TS} {x y:S3}
theorem lift_next:LiftS K c W tNext next3:=fun N σ3 h Hb G A σ H D R Z=>Z.nx _ _ _ _ R h
theorem lift_seq (h1:LiftS K c W t x) (h2:LiftS K c W u y):LiftS K c W (tSeq t u) (seq3 x y):=by
 intro N σ3 h Hb G A σ H D R Z
 exact h1 _ _ h Hb G A σ H _ R ⟨fun A' σ3' σ' H' R' q=>h2 _ _ q Hb G A' σ' H' D R' Z,Z.rt,Z.bk,Z.ct,Z.xn⟩
theorem lift_ret (ha:Lift K c W ta a) (ef:c.fr=false:=by rfl):LiftS K c W (tRet ta) (ret3 a):=by
 intro N σ3 h Hb G A σ H D R Z
 exact ha _ _ _ h Hb G A σ H _ R (fun v d H' L r q=>Z.rt _ _ _ (.val ef (R.le L).fin (r.mono hid_fin)) q) (fun cls dd x H' L r q=>Z.xn _ _ _ _ _ _ _ (R.le L) r q)
theorem lift_ifs {k:TT} {z:B3} (hc:LiftT K c W k z) (h1:LiftS K c W t x) (h2:LiftS K c W u y):LiftS K c W (tIfS k t u) (ifs3 z x y):=by
 intro N σ3 h Hb G A σ H D R Z
 refine hc _ _ _ h Hb G A σ H _ R (fun vx w H' L r q=> ?_) (fun cls dd x H' L r q=>Z.xn _ _ _ _ _ _ _ (R.le L) r q)
 subst r
 cases vx with
 | true=>exact iteT (h1 _ _ (by simpa using q) Hb G A σ H' D (R.le L) Z)
 | false=>exact iteF (h2 _ _ (by simpa using q) Hb G A σ H' D (R.le L) Z)
theorem lift_name (i:Nat) {vs:List Nat} (hi:i∈vs):LiftTg K c vs (gName i) (name3 i):=by
 intro d σ3 Q3 h Hb G A σ H v Q R r k
 exact k _ _ _ _ (R.set i r.f) rfl ⟨by rw [List.length_set],fun j hj=>by
  have:i≠j:=fun z=>by subst z;exact hj hi
  rw [List.getElem?_set_ne this,List.getElem?_set_ne this];exact ⟨rfl,rfl⟩,addrs_set_sub⟩ h
theorem lift_asg {vs:List Nat} {g:TG} {g3:TG3} (ha:Lift K c W ta a) (hg:LiftTg K c vs g g3):LiftS K c W (tAsg ta g) (asg3 a g3):=by
 intro N σ3 h Hb G A σ H D R Z
 refine ha _ _ _ h Hb G A σ H _ R (fun v d H' L r q=> ?_) (fun cls dd x H' L r q=>Z.xn _ _ _ _ _ _ _ (R.le L) r q)
 exact hg _ _ _ q Hb G A σ H' v _ (R.le L) (.inl r) (fun A' σ3' σ' H2 R' _ _ q'=>Z.nx _ _ _ _ R' q')
end
def gnil3:List T→List Sl→(List Sl→Prop)→Prop:=fun ds σ Q=>match ds with | []=>Q σ | _=>False
def gcons3 (g:TG3) (r:List T→List Sl→(List Sl→Prop)→Prop):List T→List Sl→(List Sl→Prop)→Prop:=fun ds σ Q=>match ds with | d::l=>g d σ fun σ'=>r l σ' Q | []=>False
def LiftTgs (K:PySem.W.Frag) (c:Cf) (ws:List Nat) (g:TGs) (g3:List T→List Sl→(List Sl→Prop)→Prop):Prop:=
 ∀ds σ3 Q3,g3 ds σ3 Q3→∀Hb G A σ H vs Q,R3 K c Hb G A σ3 σ H→RepL K (hid (c.S G A) H) vs ds→
  (∀A' σ3' σ' H',R3 K c Hb G A' σ3' σ' H'→H'=H→Sets ws A A' σ σ'→Q3 σ3'→Q σ' H')→g vs σ H Q
section
variable {K:PySem.W.Frag} {c:Cf} {ws:List Nat}
theorem lift_gnil:LiftTgs K c ws gNil gnil3:=by
 intro ds σ3 Q3 h Hb G A σ H vs Q R r k
 cases r with
 | cons _ _=>exact h.elim
 | nil=>exact ⟨rfl,k _ _ _ _ R rfl ⟨rfl,fun _ _=>⟨rfl,rfl⟩,fun _ z=>z⟩ h⟩
theorem lift_gcons {g:TG} {g3:TG3} {u:TGs} {u3:List T→List Sl→(List Sl→Prop)→Prop} (h1:LiftTg K c ws g g3) (h2:LiftTgs K c ws u u3):LiftTgs K c ws (gCons g u) (gcons3 g3 u3):=by
 intro ds σ3 Q3 h Hb G A σ H vs Q R r k
 cases r with
 | nil=>exact h.elim
 | cons r1 r2=>
   refine ⟨_,_,rfl,h1 _ _ _ h Hb G A σ H _ _ R (.inl r1) (fun A' σ3' σ' H' R' e sub q=> ?_)⟩
   subst e
   exact h2 _ _ _ q Hb G A' σ' H' _ _ R' (RepL.mono r2 (hid_mono (S_sub sub.2.2))) (fun A2 σ2 σ2' H2 R2 e2 sub2 q2=>k _ _ _ _ R2 e2 (sub.trans sub2) q2)
end
abbrev F3:=List T→(T→Prop)→X3→Prop
def sp3 (K:PySem.W.Frag) (n:Nat) (f:F3):Sp:=fun vs H Q E=>∃S ds,ds.length=n∧RepL K (hid S H) vs ds∧(∀a∈S,H a≠none)∧∃Q3 X,f ds Q3 X∧
 (∀v d H',Same (hid S H) (hid S H')→(∀a∈S,H' a=H a)→Rep K (hid S H') v d→Q3 d→Q v H')∧
 (∀cls dd x H',Same (hid S H) (hid S H')→(∀a∈S,H' a=H a)→XRep K (hid S H') cls dd x→X x→E cls dd H')
theorem sp3_len {K:PySem.W.Frag} {n:Nat} {f:F3} {ps:List Str} (h:ps.length=n):∀vs H Q E,sp3 K n f vs H Q E→vs.length=ps.length:=by
 intro vs H Q E h'
 obtain ⟨S,ds,hl,r,_⟩:=h'
 rw [r.length,hl,h]
def cf0:Cf:=⟨[],fun _=>True,fun _ _ _ _ h=>h,fun _ _ a h=>(by cases h),fun _=>True,fun _=>trivial,fun _ _=>trivial,false⟩
def start3 (n:Nat) (ds:List T):List Sl:=ds.map Sl.val++List.replicate (n-ds.length) Sl.no
theorem start_eq (N:List Str) (vs:List V):start N vs=vs.map some++List.replicate (N.length-vs.length) none:=rfl
theorem r3_start {K:PySem.W.Frag} {c:Cf} {H:Hp} {G:List Addr} {N:List Str} {vs:List V} {ds:List T} (hI:c.I H) (hG:∀a∈G,H a≠none∧a ∉ c.S0) (hV:∀o,c.gOk o) (r:RepL K (hid (c.S0++G) H) vs ds):
 R3 K c H G (List.replicate ((start3 N.length ds).length) none) (start3 N.length ds) (start N vs) H:=by
 have hA:addrs (List.replicate ((start3 N.length ds).length) none)=[]:=by
  unfold addrs
  rw [List.filterMap_replicate_of_none rfl]
 have hS:c.S G (List.replicate ((start3 N.length ds).length) none)=c.S0++G:=by
  unfold Cf.S
  rw [hA,List.append_nil]
 have hl:=r.length
 refine ⟨hI,by rw [hS];exact Same.refl _,fun a h=>⟨rfl,hG a h⟩,fun a _ o _=>hV o,by rw [hA];exact List.nodup_nil,(by rw [hA];intro a h;cases h),(by simp),(by rw [start_eq];unfold start3;simp [hl]), ?_⟩
 rw [hS]
 intro i s o x h1 h2 h3
 have ho:o=none:=by
  have:=List.mem_of_getElem? h2
  exact (List.mem_replicate.mp this).2
 subst ho
 unfold start3 at h1
 rw [start_eq] at h3
 by_cases hi:i<ds.length
 · rw [List.getElem?_append_left (by simpa using hi),List.getElem?_map] at h1
   rw [List.getElem?_append_left (by rw [List.length_map,hl];exact hi),List.getElem?_map] at h3
   cases e1:ds[i]? with
   | none=>rw [e1] at h1;cases h1
   | some d=>
     rw [e1] at h1
     cases h1
     obtain ⟨v,e2,rv⟩:=r.get e1
     rw [e2] at h3
     cases h3
     exact ⟨rfl,v,rfl,rv⟩
 · rw [List.getElem?_append_right (by simpa using hi)] at h1
   have:=List.mem_of_getElem? h1
   have hs:=(List.mem_replicate.mp this).2
   subst hs
   rfl
theorem body3 {K:PySem.W.Frag} {n:Nat} {f:F3} {N:List Str} {t:TS} {x:S3} {W:WX} {vs:List V} {H:Hp} {Q:VK} {E:XK} (h:sp3 K n f vs H Q E) (hW:∀cls dd σ H',E cls dd H'→W cls dd σ H')
 (lt:LiftS K cf0 W t x) (hb:∀ds Q3 X,ds.length=n→f ds Q3 X→x {nx:=fun _=>Q3 .non,rt:=Q3,xn:=fun _=>X} (start3 N.length ds)):t {nx:=fun _ H'=>Q .non H',rt:=Q} (start N vs) H:=by
 obtain ⟨S,ds,hl,r,hS,Q3,X,hf,hq,hx⟩:=h
 refine lt _ _ (hb ds Q3 X hl hf) H S _ _ H _ (r3_start (c:=cf0) (N:=N) trivial (fun a h=>⟨hS a h,fun z=>by cases z⟩) (fun _=>trivial) r) ⟨?_, ?_,fun _ _ _ _ _ z=>z.elim,fun _ _ _ _ _ z=>z.elim, ?_⟩
 · intro A σ3 σ H' R q
   exact hq _ _ _ R.fin.base (fun a h=>R.fin.gk a h) .non q
 · rintro v d H' ⟨F,rv⟩ q
   exact hq _ _ _ F.base (fun a h=>F.gk a h) rv q
 · intro A σ3 σ H' cls dd xn R rx q
   refine hW _ _ _ _ (hx cls dd xn H' R.fin.base (fun a h=>R.fin.gk a h) ?_ q)
   obtain ⟨e,rx⟩:=rx
   refine ⟨e, ?_⟩
   cases dd with
   | none=>exact rx
   | some d=>
     obtain ⟨fs,h1,h2,h3⟩:=rx
     exact ⟨fs,hid_fin _ _ h1,h2,h3.mono hid_fin⟩
theorem sameX_of {S:List Addr} {H H':Hp} (s1:Same (hid S H) (hid S H')) (s2:∀a∈S,H' a=H a):SameX H H':=fun a φ e=>by
 by_cases h:a∈S
 · rw [s2 a h];exact e
 · exact (hid_some (s1 _ _ (hid_mk e h))).1
theorem sp3_call {K:PySem.W.Frag} {c:Cf} {n:Nat} {f:F3} {Hb H1:Hp} {G:List Addr} {A:List (Option Addr)} {σ3:List Sl} {σ:St} {vs:List V} {ds:List T} {Q:VK} {E:XK} {Q3:T→Prop} {X:X3} (R1:R3 K c Hb G A σ3 σ H1)
 (rx:RepL K (hid (c.S G A) H1) vs ds) (hl:ds.length=n) (hf:f ds Q3 X) (k:∀v d H',Le c G A H1 H'→Rep K (hid (c.S G A) H') v d→Q3 d→Q v H') (e:∀cls dd x H',Le c G A H1 H'→XRep K (hid (c.S G A) H') cls dd x→X x→E cls dd H'):sp3 K n f vs H1 Q E:=by
 have le:∀H',Same (hid (c.S G A) H1) (hid (c.S G A) H')→(∀a∈c.S G A,H' a=H1 a)→Le c G A H1 H':=fun H' s1 s2=>
  ⟨s1,fun a ha=>s2 a (mem_S.mpr (by rcases List.mem_append.mp ha with z | z;exact .inr (.inl z);exact .inr (.inr z))),c.st H1 H' (fun a ha=>s2 a (mem_S.mpr (.inl ha))) (sameX_of s1 s2) R1.inv⟩
 exact ⟨c.S G A,ds,hl,rx,fun a h=>R1.there h,Q3,X,hf,fun v d H' s1 s2 rv q=>k v d H' (le H' s1 s2) rv q,fun cls dd xn H' s1 s2 rv q=>e cls dd xn H' (le H' s1 s2) rv q⟩
def fn3 (n:Nat) (f:F3) (x:A3) (dvs:List T):E3:=fun σ Q X=>x σ (fun ds=>(ds++dvs).length=n∧f (ds++dvs) Q X) X
def fn30 (n:Nat) (f:F3) (x:A3) (dvs:List T):E3:=fun σ Q X=>x σ (fun ds=>(ds++dvs).length=n∧f (ds++dvs) Q (fun _=>False)) X
end M3
namespace M3
open PySem L2
def i2 (g:Int→Int→T):T→T→(T→Prop)→Prop:=fun x y Q=>ob (asI x) fun i=>ob (asI y) fun j=>Q (g i j)
def i2c (C:Int→Int→Prop) (g:Int→Int→T):T→T→(T→Prop)→Prop:=fun x y Q=>ob (asI x) fun i=>ob (asI y) fun j=>C i j∧Q (g i j)
def i1 (g:Int→T):T→(T→Prop)→Prop:=fun x Q=>ob (asI x) fun i=>Q (g i)
section
variable {K:PySem.W.Frag}
theorem rl_I0 {g:Int→Int→V} {g3:Int→Int→T} (h:∀i j H,Rep K H (g i j) (g3 i j)):RL2 K (rI0 g) (i2 g3):=by
 intro c x y Q3 hh Hb G A σ3 σ H vx vy Q R rx ry k
 obtain ⟨i,ei,hh1⟩:=ob_iff.mp hh
 obtain ⟨j,ej,q⟩:=ob_iff.mp hh1
 cases asI_is ei
 cases asI_is ej
 exact ⟨i,j,rx.intI,ry.intI,k _ _ H (Le.refl R.inv) (h i j _) q⟩
theorem rl_I {C:Int→Int→Prop} {g:Int→Int→V} {g3:Int→Int→T} (h:∀i j H,Rep K H (g i j) (g3 i j)):RL2 K (rI C g) (i2c C g3):=by
 intro c x y Q3 hh Hb G A σ3 σ H vx vy Q R rx ry k
 obtain ⟨i,ei,hh1⟩:=ob_iff.mp hh
 obtain ⟨j,ej,hc,q⟩:=ob_iff.mp hh1
 cases asI_is ei
 cases asI_is ej
 exact ⟨i,j,rx.intI,ry.intI,hc,k _ _ H (Le.refl R.inv) (h i j _) q⟩
theorem rl_U {g:Int→V} {g3:Int→T} (h:∀i H,Rep K H (g i) (g3 i)):RL1 K (rU g) (i1 g3):=by
 intro c x Q3 hh Hb G A σ3 σ H vx Q R rx k
 obtain ⟨i,ei,q⟩:=ob_iff.mp hh
 cases asI_is ei
 exact ⟨i,rx.intI,k _ _ H (Le.refl R.inv) (h i _) q⟩
abbrev add3:=i2 fun i j=>.int (i+j)
abbrev sub3:=i2 fun i j=>.int (i-j)
abbrev pow3:=i2c CPow fun i j=>.int (i ^ j.toNat)
abbrev lt3:=i2 fun i j=>.bl (decide (i<j))
abbrev neg3:=i1 fun i=>.int (-i)
theorem rl_add:RL2 K (rI0 fun i j=>.int (i+j)) add3:=rl_I0 fun _ _ _=>.int _
theorem rl_sub:RL2 K (rI0 fun i j=>.int (i-j)) sub3:=rl_I0 fun _ _ _=>.int _
theorem rl_pow:RL2 K (rI CPow fun i j=>.int (i ^ j.toNat)) pow3:=rl_I fun _ _ _=>.int _
theorem rl_lt:RL2 K (rI0 fun i j=>.bl (decide (i<j))) lt3:=rl_I0 fun _ _ _=>.bl _
theorem rl_neg:RL1 K (rU fun i=>.int (-i)) neg3:=rl_U fun _ _=>.int _
def isNon:T→Bool
 | .non=>true
 | _=>false
def isN3:T→T→(T→Prop)→Prop:=fun x y Q=>ob (asN y) fun _=>Q (.bl (isNon x))
def notN3:T→T→(T→Prop)→Prop:=fun x y Q=>ob (asN y) fun _=>Q (.bl (!isNon x))
def flatT:T→Option V
 | .non=>some .non
 | .bl b=>some (.bl b)
 | .int i=>some (.int i)
 | .str x=>some (.str x)
 | _=>none
theorem Rep.flat {H:Hp} {v w:V} {t:T} (r:Rep K H v t) (h:flatT t=some w):v=w:=by cases r<;>cases h<;>rfl
def eqS3:T→T→(T→Prop)→Prop:=fun x y Q=>ob (flatT x) fun v=>ob (flatT y) fun w=>scal v w=true∧Q (.bl (decide (v=w)))
def neS3:T→T→(T→Prop)→Prop:=fun x y Q=>ob (flatT x) fun v=>ob (flatT y) fun w=>scal v w=true∧Q (.bl (!decide (v=w)))
theorem rl_eqS:RL2 K rEq eqS3:=by
 intro c x y Q3 hh Hb G A σ3 σ H vx vy Q R rx ry k
 obtain ⟨v,h1,hh1⟩:=ob_iff.mp hh
 obtain ⟨w,h2,h3,q⟩:=ob_iff.mp hh1
 rw [rx.flat h1,ry.flat h2]
 exact ⟨h3,k _ _ H (Le.refl R.inv) (.bl _) q⟩
theorem rl_neS:RL2 K rNe neS3:=by
 intro c x y Q3 hh Hb G A σ3 σ H vx vy Q R rx ry k
 obtain ⟨v,h1,hh1⟩:=ob_iff.mp hh
 obtain ⟨w,h2,h3,q⟩:=ob_iff.mp hh1
 rw [rx.flat h1,ry.flat h2]
 exact ⟨h3,k _ _ H (Le.refl R.inv) (.bl _) q⟩
def ixL3:T→T→(T→Prop)→Prop:=fun x y Q=>ob (asL x) fun xs=>ob (asI y) fun i=>ob (atI xs i) Q
def ixT3:T→T→(T→Prop)→Prop:=fun x y Q=>ob (asT x) fun xs=>ob (asI y) fun i=>ob (atI xs i) Q
theorem RepL.atI {H:Hp} {vs:List V} {ts:List T} {i:Int} {t:T} (r:RepL K H vs ts) (h:L2.atI ts i=some t):∃v,L2.atI vs i=some v∧Rep K H v t:=by
 unfold L2.atI at h ⊢
 rw [r.length]
 cases e:ixN ts.length i with
 | none=>rw [e] at h;cases h
 | some j=>
   rw [e] at h
   exact r.get h
theorem rl_ixL:RL2 K (rIxL K) ixL3:=by
 intro c x y Q3 hh Hb G A σ3 σ H vx vy Q R rx ry k
 obtain ⟨xs,ex,hh1⟩:=ob_iff.mp hh
 obtain ⟨i,ei,hh2⟩:=ob_iff.mp hh1
 obtain ⟨t,h,q⟩:=ob_iff.mp hh2
 cases asL_is ex
 cases asI_is ei
 obtain ⟨a,vs,rfl,ha,rl⟩:=rx.lstI
 obtain ⟨v,h1,h2⟩:=rl.atI h
 exact ⟨a,vs,i,v,rfl,ry.intI,SqL.of (hid_same _ _ ha),h1,k _ _ H (Le.refl R.inv) h2 q⟩
theorem rl_ixT:RL2 K (rIxT K) ixT3:=by
 intro c x y Q3 hh Hb G A σ3 σ H vx vy Q R rx ry k
 obtain ⟨xs,ex,hh1⟩:=ob_iff.mp hh
 obtain ⟨i,ei,hh2⟩:=ob_iff.mp hh1
 obtain ⟨t,h,q⟩:=ob_iff.mp hh2
 cases asT_is ex
 cases asI_is ei
 obtain ⟨a,vs,rfl,ha,rl⟩:=rx.tupI
 obtain ⟨v,h1,h2⟩:=rl.atI h
 exact ⟨a,vs,i,v,rfl,ry.intI,Same.sqT hid_same ha,h1,k _ _ H (Le.refl R.inv) h2 q⟩
def ixS3:T→T→(T→Prop)→Prop:=fun x y Q=>ob (asS x) fun z=>ob (asI y) fun i=>z.length≤sizeLine∧ob (atI z.cps.toList i) fun c=>Q (.str ⟨#[c]⟩)
theorem rl_ixS:RL2 K rIxS ixS3:=by
 intro c x y Q3 hh Hb G A σ3 σ H vx vy Q R rx ry k
 obtain ⟨z,ez,hh1⟩:=ob_iff.mp hh
 obtain ⟨i,ei,h,hh2⟩:=ob_iff.mp hh1
 obtain ⟨t,h1,q⟩:=ob_iff.mp hh2
 cases asS_is ez
 cases asI_is ei
 exact ⟨z,i,t,rx.strI,ry.intI,h,h1,k _ _ H (Le.refl R.inv) (.str _) q⟩
theorem RL2.or {r r':R2} {q q':T→T→(T→Prop)→Prop} (h:RL2 K r q) (h':RL2 K r' q'):RL2 K (fun x y H Q=>r x y H Q∨r' x y H Q) (fun x y Q=>q x y Q∨q' x y Q):=by
 intro c x y Q3 hh Hb G A σ3 σ H vx vy Q R rx ry k
 rcases hh with hh | hh
 · exact .inl (h c x y Q3 hh Hb G A σ3 σ H vx vy Q R rx ry k)
 · exact .inr (h' c x y Q3 hh Hb G A σ3 σ H vx vy Q R rx ry k)
theorem RLn.or {r r':List V→Hp→VK→Prop} {q q':List T→(T→Prop)→Prop} (h:RLn K r q) (h':RLn K r' q'):RLn K (fun x H Q=>r x H Q∨r' x H Q) (fun x Q=>q x Q∨q' x Q):=by
 intro c x Q3 hh Hb G A σ3 σ H vx Q R rx k
 rcases hh with hh | hh
 · exact .inl (h c x Q3 hh Hb G A σ3 σ H vx Q R rx k)
 · exact .inr (h' c x Q3 hh Hb G A σ3 σ H vx Q R rx k)
def lenT:T→Option Nat
 | .lst xs=>some xs.length
 | .tup xs=>some xs.length
 | .str z=>if z.length≤sizeLine then some z.length else none
 | _=>none
def len3:List T→(T→Prop)→Prop:=fun xs Q=>ob (one xs) fun x=>ob (lenT x) fun n=>Q (.int n)
theorem repL_one {H:Hp} {vs:List V} {t:T} (r:RepL K H vs [t]):∃v,vs=[v]∧Rep K H v t:=by
 cases r with
 | cons r q=>cases q;exact ⟨_,rfl,r⟩
theorem repL_two {H:Hp} {vs:List V} {t u:T} (r:RepL K H vs [t,u]):∃v w,vs=[v,w]∧Rep K H v t∧Rep K H w u:=by
 cases r with
 | cons r q=>
   obtain ⟨w,rfl,h⟩:=repL_one q
   exact ⟨_,w,rfl,r,h⟩
def bls:List T→Option (List Bool)
 | []=>some []
 | .bl b::r=>(bls r).map (b::·)
 | _=>none
def all3:List T→(T→Prop)→Prop:=fun xs Q=>ob (one xs) fun x=>ob (asL x) fun ts=>ob (bls ts) fun bs=>Q (.bl (bs.all id))
def any3:List T→(T→Prop)→Prop:=fun xs Q=>ob (one xs) fun x=>ob (asL x) fun ts=>ob (bls ts) fun bs=>Q (.bl (bs.any id))
def abs3:List T→(T→Prop)→Prop:=fun xs Q=>ob (one xs) fun x=>ob (asI x) fun i=>Q (.int (if i<0 then -i else i))
def max23:List T→(T→Prop)→Prop:=fun xs Q=>ob (two xs) fun p=>ob (asI p.1) fun i=>ob (asI p.2) fun j=>Q (.int (if j>i then j else i))
def min23:List T→(T→Prop)→Prop:=fun xs Q=>ob (two xs) fun p=>ob (asI p.1) fun i=>ob (asI p.2) fun j=>Q (.int (if j<i then j else i))
def tyn:T→Option String
 | .non=>some "NoneType"
 | .bl _=>some "bool"
 | .int _=>some "int"
 | .str _=>some "str"
 | .tup _=>some "tuple"
 | .lst _=>some "list"
 | .dic _=>some "dict"
 | _=>none
theorem sqT_ty {H:Hp} {a:Addr} {vs:List V} (h:SqT K H a vs):TyX K H (.ref a) (.type "tuple"):=by
 rcases h with (h | ⟨o,h⟩) | ⟨o,its,n,h1,h2,_⟩
 · exact .base (.tup h)
 · exact .fTuple h
 · exact .kTuple h1 h2
theorem Rep.ty_ {H:Hp} {v:V} {t:T} {n:String} (r:Rep K H v t) (h:tyn t=some n):TyX K H v (.type n):=by
 cases r with
 | non=>cases h;exact .base .non
 | bl b=>cases h;exact .base (.bl b)
 | int i=>cases h;exact .base (.int i)
 | str x=>cases h;exact .base (.str x)
 | ty n=>cases h
 | ref a=>cases h
 | tup h'=>cases h;exact sqT_ty h'.sq
 | lst h'=>cases h;exact .base (.lst h')
 | dic h'=>
   cases h
   obtain ⟨o,h'⟩:=h'
   exact .fDict h'
 | ins h'=>cases h
def isiB (x c:T):Option Bool:=match c with | .ty n=>(tyn x).bind fun a=>kitB a n | _=>none
def isi3:List T→(T→Prop)→Prop:=fun xs Q=>ob (two xs) fun p=>ob (isiB p.1 p.2) fun b=>Q (.bl b)
theorem TyX.mono {H H':Hp} {v:V} {t:Value} (e:Same H H') (h:TyX K H v t):TyX K H' v t:=by
 cases h with
 | base h=>
   refine .base ?_
   cases h with
   | non=>exact .non
   | bl b=>exact .bl b
   | int i=>exact .int i
   | str x=>exact .str x
   | flt x=>exact .flt x
   | lst h=>exact .lst (e _ _ h)
   | frz h=>exact .frz (e _ _ h)
   | tup h=>exact .tup (e _ _ h)
   | dK h=>exact .dK (e _ _ h)
   | dT h=>exact .dT (e _ _ h)
   | ins h cl ha hn ht hm=>exact .ins (e _ _ h) cl ha hn ht hm
 | byt b=>exact .byt b
 | set h=>exact .set (e _ _ h)
 | kList h c=>exact .kList h c
 | kTuple h c=>exact .kTuple h c
 | kDict h c=>exact .kDict h c
 | fTuple h=>exact .fTuple (e _ _ h)
 | fDict h=>exact .fDict (e _ _ h)
end
theorem kb_non_bool:kitB "NoneType" "bool"=some false:=by decide +kernel
theorem kb_non_int:kitB "NoneType" "int"=some false:=by decide +kernel
theorem kb_non_str:kitB "NoneType" "str"=some false:=by decide +kernel
theorem kb_non_list:kitB "NoneType" "list"=some false:=by decide +kernel
theorem kb_non_tuple:kitB "NoneType" "tuple"=some false:=by decide +kernel
theorem kb_bool_bool:kitB "bool" "bool"=some true:=by decide +kernel
theorem kb_bool_int:kitB "bool" "int"=some true:=by decide +kernel
theorem kb_bool_str:kitB "bool" "str"=some false:=by decide +kernel
theorem kb_bool_list:kitB "bool" "list"=some false:=by decide +kernel
theorem kb_bool_tuple:kitB "bool" "tuple"=some false:=by decide +kernel
theorem kb_int_bool:kitB "int" "bool"=some false:=by decide +kernel
theorem kb_int_int:kitB "int" "int"=some true:=by decide +kernel
theorem kb_int_str:kitB "int" "str"=some false:=by decide +kernel
theorem kb_int_list:kitB "int" "list"=some false:=by decide +kernel
theorem kb_int_tuple:kitB "int" "tuple"=some false:=by decide +kernel
theorem kb_str_bool:kitB "str" "bool"=some false:=by decide +kernel
theorem kb_str_int:kitB "str" "int"=some false:=by decide +kernel
theorem kb_str_str:kitB "str" "str"=some true:=by decide +kernel
theorem kb_str_list:kitB "str" "list"=some false:=by decide +kernel
theorem kb_str_tuple:kitB "str" "tuple"=some false:=by decide +kernel
theorem kb_list_bool:kitB "list" "bool"=some false:=by decide +kernel
theorem kb_list_int:kitB "list" "int"=some false:=by decide +kernel
theorem kb_list_str:kitB "list" "str"=some false:=by decide +kernel
theorem kb_list_list:kitB "list" "list"=some true:=by decide +kernel
theorem kb_list_tuple:kitB "list" "tuple"=some false:=by decide +kernel
theorem kb_tuple_bool:kitB "tuple" "bool"=some false:=by decide +kernel
theorem kb_tuple_int:kitB "tuple" "int"=some false:=by decide +kernel
theorem kb_tuple_str:kitB "tuple" "str"=some false:=by decide +kernel
theorem kb_tuple_list:kitB "tuple" "list"=some false:=by decide +kernel
theorem kb_tuple_tuple:kitB "tuple" "tuple"=some true:=by decide +kernel
theorem kbs:kitB "NoneType" "bool"=some false∧kitB "NoneType" "int"=some false∧kitB "NoneType" "str"=some false∧kitB "NoneType" "list"=some false∧kitB "NoneType" "tuple"=some false∧kitB "bool" "bool"=some true∧kitB "bool" "int"=some true∧kitB "bool" "str"=some false∧kitB "bool" "list"=some false∧kitB "bool" "tuple"=some false∧kitB "int" "bool"=some false∧kitB "int" "int"=some true∧kitB "int" "str"=some false∧kitB "int" "list"=some false∧kitB "int" "tuple"=some false∧kitB "str" "bool"=some false∧kitB "str" "int"=some false∧kitB "str" "str"=some true∧kitB "str" "list"=some false∧kitB "str" "tuple"=some false∧kitB "list" "bool"=some false∧kitB "list" "int"=some false∧kitB "list" "str"=some false∧kitB "list" "list"=some true∧kitB "list" "tuple"=some false∧kitB "tuple" "bool"=some false∧kitB "tuple" "int"=some false∧kitB "tuple" "str"=some false∧kitB "tuple" "list"=some false∧kitB "tuple" "tuple"=some true:=⟨kb_non_bool,kb_non_int,kb_non_str,kb_non_list,kb_non_tuple,kb_bool_bool,kb_bool_int,kb_bool_str,kb_bool_list,kb_bool_tuple,kb_int_bool,kb_int_int,kb_int_str,kb_int_list,kb_int_tuple,kb_str_bool,kb_str_int,kb_str_str,kb_str_list,kb_str_tuple,kb_list_bool,kb_list_int,kb_list_str,kb_list_list,kb_list_tuple,kb_tuple_bool,kb_tuple_int,kb_tuple_str,kb_tuple_list,kb_tuple_tuple⟩
end M3
namespace M3
open PySem L2
structure WalksB (K:PySem.W.Frag) (w:Bool) (V0:Hp) (J:It) (ds:List T):Prop where
 go:∀(i:Nat) d S H,ds[i]? =some d→Same V0 (hid S H)→J.go i H
 yld:∀(i:Nat) d S H x H',ds[i]? =some d→Same V0 (hid S H)→(∀a∈S,H a≠none)→J.yld i H x H'→(H'=H∨∃p o,H p=none∧H'=upd H p o)∧RepB K w (hid S H') x d
 stop:∀S H,Same V0 (hid S H)→J.stop ds.length H
abbrev Walks (K:PySem.W.Frag) (V0:Hp) (J:It) (ds:List T):Prop:=WalksB K false V0 J ds
def LiftIB (K:PySem.W.Frag) (c:Cf) (w:Bool) (W:WX) (wi:TI) (t:A3):Prop:=
 ∀σ3 Q3 X,t σ3 Q3 X→∀Hb G A σ H R',R3 K c Hb G A σ3 σ H→
  (∀J ds H',Le c G A H H'→WalksB K w (hid (c.S G A) H') J ds→Q3 ds→R' J H')→
  (∀cls dd x H',Le c G A H H'→XRep K (hid (c.S G A) H') cls dd x→X x→W cls dd σ H')→wi σ H R'
abbrev LiftI (K:PySem.W.Frag) (c:Cf) (W:WX) (wi:TI) (t:A3):Prop:=LiftIB K c false W wi t
section
variable {K:PySem.W.Frag} {c:Cf} {W:WX} {ta tb te:TE} {a b e:E3}
theorem walks_list {V0:Hp} {a:Addr} {vs:List V} {ds:List T} (h:V0 a=some (.lst vs)) (r:RepL K V0 vs ds):Walks K V0 (Itl K a) ds where
 go:=fun i d S H hd e=>by
  obtain ⟨v,hv,_⟩:=r.get hd
  exact ⟨vs,v,SqL.of (hid_same _ _ (e _ _ h)),hv⟩
 yld:=fun i d S H x H' hd e _ y=>by
  obtain ⟨v,hv,rv⟩:=r.get hd
  obtain ⟨rfl,y⟩:=y
  have z:=y vs (SqL.of (hid_same _ _ (e _ _ h)))
  rw [hv] at z
  cases z
  exact ⟨.inl rfl,.inl (rv.mono e)⟩
 stop:=fun S H e=>⟨vs,SqL.of (hid_same _ _ (e _ _ h)),by rw [r.length];exact Nat.le_refl _⟩
theorem walks_tup {V0:Hp} {a:Addr} {vs:List V} {ds:List T} (h:SqT K V0 a vs) (r:RepL K V0 vs ds):Walks K V0 (Itt K a) ds where
 go:=fun i d S H hd e=>by
  obtain ⟨v,hv,_⟩:=r.get hd
  exact ⟨vs,v,Same.sqT hid_same (Same.sqT e h),hv⟩
 yld:=fun i d S H x H' hd e _ y=>by
  obtain ⟨v,hv,rv⟩:=r.get hd
  obtain ⟨rfl,y⟩:=y
  have z:=y vs (Same.sqT hid_same (Same.sqT e h))
  rw [hv] at z
  cases z
  exact ⟨.inl rfl,.inl (rv.mono e)⟩
 stop:=fun S H e=>⟨vs,Same.sqT hid_same (Same.sqT e h),by rw [r.length];exact Nat.le_refl _⟩
def rangeT (lo:Int) (n:Nat):List T:=(List.range n).map fun i=>.int (lo+(i:Nat))
theorem walks_range {V0:Hp} (lo:Int) (n:Nat):Walks K V0 (Itr lo n) (rangeT lo n) where
 go:=fun i d S H hd e=>by
  have:=(List.getElem?_eq_some_iff.mp hd).1
  show i<n
  simpa [rangeT] using this
 yld:=fun i d S H x H' hd e _ y=>by
  obtain ⟨rfl,rfl⟩:=y
  have hl:=(List.getElem?_eq_some_iff.mp hd).1
  have hl:i<n:=by simpa [rangeT] using hl
  have z:(rangeT lo n)[i]? =some (.int (lo+(i:Nat))):=by
   unfold rangeT
   rw [List.getElem?_map,List.getElem?_range hl]
   rfl
  rw [z] at hd
  cases hd
  exact ⟨.inl rfl,.inl (.int _)⟩
 stop:=fun S H e=>by
  show n≤_
  simp [rangeT]
def iterR3 (x:A3):A3:=fun σ Q X=>x σ (fun ds=>ob (one ds) fun d=>ob (asI d) fun j=> -(2 ^ 62)≤j∧j<2 ^ 62∧Q (rangeT 0 j.toNat)) X
theorem lift_iR {t:TA} {x:A3} (ha:LiftA K c W t x):LiftI K c W (iRng1 t) (iterR3 x):=by
 intro σ3 Q3 X h Hb G A σ H R' R k e
 refine ha _ _ _ h Hb G A σ H _ R (fun v d H1 L1 r q=> ?_) e
 obtain ⟨d,ed,q1⟩:=ob_iff.mp q
 obtain ⟨j,ej,h1,h2,q2⟩:=ob_iff.mp q1
 cases one_is ed
 cases asI_is ej
 obtain ⟨v,rfl,rv⟩:=repL_one r
 cases rv.intI
 exact ⟨j,rfl,h1,h2,k _ _ H1 L1 (walks_range 0 j.toNat) q2⟩
end
section
variable {K:PySem.W.Frag} {c:Cf} {Hb H H1 H':Hp} {G:List Addr} {A A':List (Option Addr)} {σ3 σ3':List Sl} {σ σ':St}
theorem R3.rebase (r:R3 K c Hb G A σ3 σ H):R3 K c (out (addrs A) H) G A σ3 σ H where
 inv:=r.inv
 base:=fun a o e=>by
  obtain ⟨e1,e2⟩:=hid_some e
  obtain ⟨e3,e4⟩:=out_some e1
  exact hid_mk e3 fun z=>by
   rcases mem_S.mp z with z | z | z
   · exact e2 (List.mem_append.mpr (.inl z))
   · exact e2 (List.mem_append.mpr (.inr z))
   · exact e4 z
 gk:=fun a h=>⟨by rw [out_out (fun z=>r.ns a z (List.mem_append.mpr (.inr h)))],(r.gk a h).2⟩
 gv:=r.gv
 nd:=r.nd
 ns:=r.ns
 l1:=r.l1
 l2:=r.l2
 at_:=r.at_
theorem rebase_vis:Same (hid (c.S G A) H1) (hid (c.S0++G) (out (addrs A) H1)):=fun a o e=>by
 obtain ⟨e1,e2⟩:=hid_some e
 refine hid_mk (by rw [out_out fun z=>e2 (mem_S.mpr (.inr (.inr z)))];exact e1) (fun z=>e2 ?_)
 rcases List.mem_append.mp z with z | z
 · exact mem_S.mpr (.inl z)
 · exact mem_S.mpr (.inr (.inl z))
theorem Fin3.debase (r:R3 K c Hb G A σ3 σ H1) (q:Fin3 K c (out (addrs A) H1) G H'):Fin3 K c Hb G H' where
 inv:=q.inv
 base:=Same.trans r.base (Same.trans rebase_vis q.base)
 gk:=fun a h=>by rw [q.gk a h,out_out (fun z=>r.ns a z (List.mem_append.mpr (.inr h))),(r.gk a h).1]
theorem FinR.debase {v:V} {d:T} (r:R3 K c Hb G A σ3 σ H1) (q:FinR K c (out (addrs A) H1) G H' v d):FinR K c Hb G H' v d:=by
 cases e:c.fr with
 | false=>
   unfold FinR at q ⊢
   rw [e] at q ⊢
   exact ⟨Fin3.debase r q.1,q.2⟩
 | true=>
   unfold FinR at q ⊢
   rw [e] at q ⊢
   obtain ⟨D,h1,h2,h3,h4,h5,h6⟩:=q
   exact ⟨D,h1,h2,h3,Same.trans r.base (Same.trans rebase_vis h4),fun a h=>by rw [h5 a h,out_out (fun z=>r.ns a z (List.mem_append.mpr (.inr h))),(r.gk a h).1],h6⟩
theorem R3.debase (r:R3 K c Hb G A σ3 σ H1) (q:R3 K c (out (addrs A) H1) G A' σ3' σ' H'):R3 K c Hb G A' σ3' σ' H' where
 inv:=q.inv
 base:=Same.trans r.base (Same.trans rebase_vis q.base)
 gk:=fun a h=>⟨by rw [(q.gk a h).1,out_out (fun z=>r.ns a z (List.mem_append.mpr (.inr h))),(r.gk a h).1],(q.gk a h).2⟩
 gv:=q.gv
 nd:=q.nd
 ns:=q.ns
 l1:=q.l1
 l2:=q.l2
 at_:=q.at_
end
def wipe3 (σ:List Sl):List Nat→List Sl
 | []=>σ
 | v::vs=>(wipe3 σ vs).set v .no
def comp3 (g:TG3) (tt:B3) (te:E3) (σ:List Sl) (X:X3) (Q:List T→Prop):List T→List T→Prop
 | [],acc=>Q acc
 | x::r,acc=>g x σ fun σ'=>tt σ' (fun b=>if b=true then te σ' (fun y=>acc.length<sizeLine∧comp3 g tt te σ X Q r (acc++[y])) X else comp3 g tt te σ X Q r acc) X
def noOwn (σ:List Sl) (vs:List Nat):Prop:=∀i∈vs,∀t,σ[i]? ≠some (.own t)
def lc3 (s:A3) (g:TG3) (tt:B3) (te:E3) (vs:List Nat):E3:=fun σ Q X=>noOwn σ vs∧s σ (fun ds=>comp3 g tt te (wipe3 σ vs) X (fun ys=>Q (.lst ys)) ds []) X
def yes3:B3:=fun _ Q _=>Q true
section
variable {K:PySem.W.Frag} {c:Cf} {W:WX} {Hb H H1 H':Hp} {G:List Addr} {A A':List (Option Addr)} {σ3 σ3':List Sl} {σ σ':St}
theorem lift_yes:LiftT K c W tYes yes3:=by
 intro σ3 Q3 X h Hb G A σ H Q R k e
 exact k true true H (Le.refl R.inv) rfl h
theorem wipe3_own:∀ {vs:List Nat} {σ:List Sl} {i:Nat} {t:T},(wipe3 σ vs)[i]? =some (.own t)→σ[i]? =some (.own t)
 | [],_,_,_,h=>h
 | v::vs,σ,i,t,h=>by
   rcases getElem?_set_cases (show ((wipe3 σ vs).set v .no)[i]? =some (.own t) from h) with ⟨_,e,_⟩ | ⟨_,e⟩
   · cases e
   · exact wipe3_own e
theorem set_eq_self {α:Type} {l:List α} {i:Nat} {x:α} (h:l[i]? =some x∨l.length≤i):l.set i x=l:=by
 apply List.ext_getElem?
 intro j
 by_cases e:i=j
 · subst e
   rcases h with h | h
   · rw [List.getElem?_set_self (List.getElem?_eq_some_iff.mp h).1,h]
   · rw [List.getElem?_eq_none (by simpa using h),List.getElem?_eq_none h]
 · rw [List.getElem?_set_ne e]
theorem R3.wiped (r:R3 K c Hb G A σ3 σ H):∀ {vs:List Nat},noOwn σ3 vs→R3 K c Hb G A (wipe3 σ3 vs) (wipe σ vs) H
 | [],_=>r
 | v::vs,h=>by
   have ih:=R3.wiped r (vs:=vs) fun i hi=>h i (List.mem_cons_of_mem _ hi)
   have z:=ih.wipe1 v none
   have e:A.set v none=A:=by
    apply set_eq_self
    by_cases hv:v<A.length
    · left
      have h1:v<(wipe3 σ3 vs).length:=by rw [←ih.l1];exact hv
      have h2:v<(wipe σ vs).length:=by rw [ih.l2];exact h1
      have q:=ih.at_ v _ _ _ (List.getElem?_eq_getElem h1) (List.getElem?_eq_getElem hv) (List.getElem?_eq_getElem h2)
      rw [List.getElem?_eq_getElem hv]
      cases e:(wipe3 σ3 vs)[v] with
      | no=>rw [e] at q;rw [q]
      | val t=>rw [e] at q;rw [q.1]
      | own t=>
        have w1:(wipe3 σ3 vs)[v]? =some (.own t):=by rw [List.getElem?_eq_getElem h1,e]
        exact absurd (wipe3_own w1) (h v (List.mem_cons_self ..) t)
    · exact .inr (Nat.le_of_not_lt hv)
   rw [e] at z
   exact z
theorem wipe_eq:∀ {vs:List Nat} {σ σ':St},σ'.length=σ.length→(∀j:Nat,j ∉ vs→σ'[j]? =σ[j]?)→wipe σ' vs=wipe σ vs:=by
 intro vs σ σ' hl h
 apply List.ext_getElem?
 intro j
 by_cases hj:j∈vs
 · have z:∀ {vs:List Nat} (σ:St),j∈vs→(wipe σ vs)[j]? =if j<σ.length then some none else none:=by
    intro vs
    induction vs with
    | nil=>intro σ h;cases h
    | cons v vs ih=>
      intro σ hm
      show ((wipe σ vs).set v none)[j]? =_
      by_cases e:v=j
      · subst e
        by_cases hv:v<σ.length
        · rw [List.getElem?_set_self (by rw [wipe_length];exact hv),if_pos hv]
        · rw [List.getElem?_eq_none (by simp [wipe_length];omega),if_neg hv]
      · rw [List.getElem?_set_ne e]
        rcases List.mem_cons.mp hm with q | q
        · exact absurd q.symm e
        · exact ih σ q
   rw [z σ' hj,z σ hj,hl]
 · rw [wipe_out hj,wipe_out hj,h j hj]
theorem wipe_wipe {vs:List Nat} {σ:St}:wipe (wipe σ vs) vs=wipe σ vs:=wipe_eq (wipe_length _ _) fun j hj=>wipe_out hj
theorem R3.under (r:R3 K c Hb G A σ3 σ H1) {D:Addr} {o:HO} (hD:H1 D=none) (hd:H D=some o) (vis:Same (hid (c.S G A) H1) (hid (D::c.S G A) H)) (own:∀a∈G++addrs A,H a=H1 a) (inv:c.I H) (ho:c.gOk o):
 R3 K c (out (addrs A) H) (D::G) A σ3 σ H:=by
 have nD:D ∉ c.S G A:=r.free hD
 have sub:∀a,a∈c.S (D::G) A↔a∈D::c.S G A:=fun a=>by
  rw [mem_S,List.mem_cons,List.mem_cons,mem_S]
  exact ⟨fun h=>by rcases h with h | (h | h) | h<;>simp [h],fun h=>by rcases h with h | h | h | h<;>simp [h]⟩
 have vis2:Same (hid (c.S G A) H1) (hid (c.S (D::G) A) H):=Same.trans vis (hid_mono fun a h=>(sub a).mp h)
 refine ⟨inv, ?_, ?_, ?_,r.nd, ?_,r.l1,r.l2, ?_⟩
 · intro a o e
   obtain ⟨e1,e2⟩:=hid_some e
   obtain ⟨e3,e4⟩:=out_some e1
   exact hid_mk e3 fun z=>by
    rcases mem_S.mp z with z | z | z
    · exact e2 (List.mem_append.mpr (.inl z))
    · exact e2 (List.mem_append.mpr (.inr z))
    · exact e4 z
 · intro a h
   rcases List.mem_cons.mp h with rfl | h
   · exact ⟨by rw [out_out (fun z=>nD (mem_S.mpr (.inr (.inr z))))],(by rw [hd];intro z;cases z),fun z=>nD (mem_S.mpr (.inl z))⟩
   · have e:=own a (List.mem_append.mpr (.inl h))
     exact ⟨by rw [out_out (fun z=>r.ns a z (List.mem_append.mpr (.inr h)))],by rw [e];exact (r.gk a h).2.1,(r.gk a h).2.2⟩
 · intro a h u e
   rcases List.mem_cons.mp h with rfl | h
   · rw [hd] at e;cases e;exact ho
   · exact r.gv a h u (by rw [←own a (List.mem_append.mpr (.inl h))];exact e)
 · intro a h z
   rcases List.mem_append.mp z with z | z
   · exact r.ns a h (List.mem_append.mpr (.inl z))
   · rcases List.mem_cons.mp z with rfl | z
     · exact nD (mem_S.mpr (.inr (.inr h)))
     · exact r.ns a h (List.mem_append.mpr (.inr z))
 · intro i s o x h1 h2 h3
   have z:=r.at_ i s o x h1 h2 h3
   cases s with
   | no=>exact z
   | val t=>obtain ⟨e,v,e2,q⟩:=z;exact ⟨e,v,e2,q.mono vis2⟩
   | own t=>
     obtain ⟨a,e,e2,q⟩:=z
     refine ⟨a,e,e2,q.mono vis2 (own a (List.mem_append.mpr (.inr (mem_addrs.mpr ?_))))⟩
     subst e
     exact List.mem_of_getElem? h2
theorem hid_upd_in {S:List Addr} {H:Hp} {D:Addr} {o:HO} (h:D∈S):hid S (upd H D o)=hid S H:=by
 funext a
 by_cases e:a∈S
 · rw [hid_in e,hid_in e]
 · unfold hid
   rw [out_out e,out_out e,upd_ne (fun z=>e (by rw [z];exact h))]
theorem lift_lc {wk:Bool} {vs:List Nat} {wi:TI} {s:A3} {g:TG} {g3:TG3} {tt:TT} {b:B3} {te:TE} {e3:E3} (hi:LiftIB K c wk W wi s) (hg:LiftTgB K c wk vs g g3) (ht:LiftT K c W tt b) (he:Lift K c W te e3)
 (hW:∀cls dd σ σ' H,W cls dd σ H→W cls dd σ' H):Lift K c W (tLc wi g tt te vs) (lc3 s g3 b e3 vs):=by
 intro σ3 Q3 X h Hb G A σ H Q R k e
 obtain ⟨no,h⟩:=h
 refine hi _ _ _ h Hb G A σ H _ R (fun J ds H1 L1 w q=> ?_) e
 have R1:=R.le L1
 intro D hD
 have nD:D ∉ c.S G A:=R1.free hD
 have RW:=R1.wiped (vs:=vs) no
 refine ⟨fun i m H'=>m=ds.length-i∧i≤ds.length∧∃accV acc,H' D=some (.lst accV)∧RepL K (hid (D::c.S G A) H') accV acc∧comp3 g3 b e3 (wipe3 σ3 vs) X (fun ys=>Q3 (.lst ys)) (ds.drop i) acc∧
  Same (hid (c.S G A) H1) (hid (D::c.S G A) H')∧(∀a∈G++addrs A,H' a=H1 a)∧c.I H',⟨ds.length,rfl,Nat.zero_le _,[],[],upd_same,.nil,by simpa using q, ?_, ?_, ?_⟩, ?_⟩
 · rw [hid_upd_in (List.mem_cons_self ..)]
   intro a o z
   obtain ⟨z1,z2⟩:=hid_some z
   exact hid_mk z1 fun y=>by
    rcases List.mem_cons.mp y with y | y
    · subst y;rw [hD] at z1;cases z1
    · exact z2 y
 · exact (R1.new (o:=.lst []) hD).own
 · exact (R1.new (o:=.lst []) hD).inv
 rintro i m H2 ⟨rfl,hi,accV,acc,hd2,racc,q2,vis,own,inv⟩
 have vis':Same (hid (c.S G A) H1) (hid (c.S G A) H2):=Same.trans vis (hid_mono fun a h=>List.mem_cons_of_mem _ h)
 by_cases hl:i=ds.length
 · subst hl
   left
   refine ⟨w.stop _ _ vis', ?_⟩
   have e':ds.drop ds.length=[]:=List.drop_length
   rw [e'] at q2
   exact k _ _ H2 (L1.trans ⟨vis',own,inv⟩) (.mkL (hid_mk hd2 nD) (racc.mono (hid_mono fun a h=>List.mem_cons_of_mem _ h))) q2
 · right
   have hlt:i<ds.length:=Nat.lt_of_le_of_ne hi hl
   have hdd:ds[i]? =some ds[i]:=List.getElem?_eq_getElem hlt
   rw [List.drop_eq_getElem_cons hlt] at q2
   refine ⟨w.go i _ _ _ hdd vis',fun H3=>∃accV acc,H3 D=some (.lst accV)∧RepL K (hid (D::c.S G A) H3) accV acc∧comp3 g3 b e3 (wipe3 σ3 vs) X (fun ys=>Q3 (.lst ys)) (ds.drop (i+1)) acc∧
    Same (hid (c.S G A) H1) (hid (D::c.S G A) H3)∧(∀a∈G++addrs A,H3 a=H1 a)∧c.I H3, ?_, ?_⟩
   · rintro H3 ⟨accV,acc,z⟩
     exact ⟨ds.length-(i+1),by omega,rfl,hlt,accV,acc,z⟩
   · intro x H3 y
     have RU:=RW.under hD hd2 vis own inv (c.gL _)
     have sD:∀a,a∈c.S (D::G) A↔a∈D::c.S G A:=fun a=>by
      rw [mem_S,List.mem_cons,List.mem_cons,mem_S]
      exact ⟨fun h=>by rcases h with h | (h | h) | h<;>simp [h],fun h=>by rcases h with h | h | h | h<;>simp [h]⟩
     have sm1:∀H,Same (hid (c.S (D::G) A) H) (hid (D::c.S G A) H):=fun H=>hid_mono fun a h=>(sD a).mpr h
     have sm2:∀H,Same (hid (D::c.S G A) H) (hid (c.S (D::G) A) H):=fun H=>hid_mono fun a h=>(sD a).mp h
     obtain ⟨hn,rx⟩:=w.yld i _ (c.S (D::G) A) _ x H3 hdd (Same.trans vis (sm2 _)) (fun a h=>RU.there h) y
     have L3:Le c (D::G) A H2 H3:=by
      rcases hn with rfl | ⟨p,o,hp,rfl⟩
      · exact Le.refl inv
      · exact RU.new hp
     have R3':=RU.le L3
     have back:∀H',Le c (D::G) A H2 H'→Same (hid (c.S G A) H1) (hid (D::c.S G A) H')∧(∀a∈G++addrs A,H' a=H1 a)∧c.I H'∧H' D=some (.lst accV):=fun H' L=>by
      refine ⟨Same.trans vis (Same.trans (sm2 _) (Same.trans L.vis (sm1 _))),fun a h=> ?_,L.inv, ?_⟩
      · rw [L.own a (by rcases List.mem_append.mp h with h | h<;>simp [h]),own a h]
      · rw [L.own D (by simp),hd2]
     have exn:∀(σ':St) cls dd x H',Le c (D::G) A H2 H'→XRep K (hid (c.S (D::G) A) H') cls dd x→X x→W cls dd σ' H':=fun σ' cls dd x H' L r hx=>by
      obtain ⟨b1,b2,b3,b4⟩:=back H' L
      refine hW cls dd σ σ' H' (e cls dd x H' (L1.trans ⟨Same.trans b1 (hid_mono fun a h=>List.mem_cons_of_mem _ h),b2,b3⟩) ?_ hx)
      have sm:Same (hid (c.S (D::G) A) H') (hid (c.S G A) H'):=Same.trans (sm1 _) (hid_mono fun a h=>List.mem_cons_of_mem _ h)
      obtain ⟨r1,r2⟩:=r
      refine ⟨r1, ?_⟩
      cases dd with
      | none=>exact r2
      | some d=>
        obtain ⟨fs,f1,f2,f3⟩:=r2
        exact ⟨fs,sm _ _ f1,f2,f3.mono sm⟩
     refine hg _ _ _ q2 _ (D::G) A _ H3 x _ R3' rx (fun A4 σ4 σ4' H4 R4 e4 st q4=> ?_)
     subst e4
     refine ⟨?_, ?_⟩
     · rw [wipe_eq st.1 (fun j hj=>(st.2.1 j hj).1),wipe_wipe]
     have hA4:A4=A:=by
      apply List.ext_getElem?
      intro j
      by_cases hj:j∈vs
      · have l4:A4.length=A.length:=by rw [R4.l1,RW.l1, ←RW.l2, ←R4.l2,st.1]
        by_cases hjl:j<A.length
        · have g4:j<A4.length:=by rw [l4];exact hjl
          have hno:A[j]? =some none:=by
           have h1:j<(wipe3 σ3 vs).length:=by rw [←RW.l1];exact hjl
           have h2:j<(wipe σ vs).length:=by rw [RW.l2];exact h1
           have z:=RW.at_ j _ _ _ (List.getElem?_eq_getElem h1) (List.getElem?_eq_getElem hjl) (List.getElem?_eq_getElem h2)
           rw [List.getElem?_eq_getElem hjl]
           cases ee:(wipe3 σ3 vs)[j] with
           | no=>rw [ee] at z;rw [z]
           | val t=>rw [ee] at z;rw [z.1]
           | own t=>
             have w1:(wipe3 σ3 vs)[j]? =some (.own t):=by rw [List.getElem?_eq_getElem h1,ee]
             exact absurd (wipe3_own w1) (no j hj t)
          rw [hno]
          cases ea:A4[j] with
          | none=>rw [List.getElem?_eq_getElem g4,ea]
          | some p=>
            have m4:p∈addrs A4:=mem_addrs.mpr (by rw [←ea];exact List.getElem_mem g4)
            have m:p∈addrs A:=st.2.2 p m4
            obtain ⟨i',hi'⟩:=List.getElem?_of_mem (mem_addrs.mp m)
            have hij:i'≠j:=fun z=>by subst z;rw [hno] at hi';cases hi'
            by_cases hv:i'∈vs
            · have hjl':=(List.getElem?_eq_some_iff.mp hi').1
              have h1:i'<(wipe3 σ3 vs).length:=by rw [←RW.l1];exact hjl'
              have h2:i'<(wipe σ vs).length:=by rw [RW.l2];exact h1
              have z:=RW.at_ i' _ _ _ (List.getElem?_eq_getElem h1) hi' (List.getElem?_eq_getElem h2)
              cases ee:(wipe3 σ3 vs)[i'] with
              | no=>rw [ee] at z;cases z
              | val t=>rw [ee] at z;cases z.1
              | own t=>
                have w1:(wipe3 σ3 vs)[i']? =some (.own t):=by rw [List.getElem?_eq_getElem h1,ee]
                exact absurd (wipe3_own w1) (no i' hv t)
            · have:A4[i']? =some (some p):=by rw [(st.2.1 i' hv).2];exact hi'
              have two:∀ {B:List (Option Addr)} {i j:Nat},(addrs B).Nodup→B[i]? =some (some p)→B[j]? =some (some p)→i=j:=by
               intro B
               induction B with
               | nil=>intro i j _ h;simp at h
               | cons b B ih=>
                 intro i j hN h1 h2
                 cases i with
                 | zero=>
                   cases j with
                   | zero=>rfl
                   | succ j=>
                     simp at h1 h2
                     subst h1
                     exact absurd (mem_addrs.mpr (List.mem_of_getElem? h2)) (List.nodup_cons.mp (show (p::addrs B).Nodup from hN)).1
                 | succ i=>
                   cases j with
                   | zero=>
                     simp at h1 h2
                     subst h2
                     exact absurd (mem_addrs.mpr (List.mem_of_getElem? h1)) (List.nodup_cons.mp (show (p::addrs B).Nodup from hN)).1
                   | succ j=>
                     simp at h1 h2
                     have hN':(addrs B).Nodup:=by
                      cases b with
                      | none=>exact hN
                      | some q=>exact (List.nodup_cons.mp (show (q::addrs B).Nodup from hN)).2
                     rw [ih hN' h1 h2]
              exact absurd (two R4.nd this (by rw [List.getElem?_eq_getElem g4,ea])) hij
        · rw [List.getElem?_eq_none (by omega),List.getElem?_eq_none (by omega)]
      · exact (st.2.1 j hj).2
     subst hA4
     refine ht _ _ _ q4 _ (D::G) A4 σ4' H4 _ R4 (fun bv bb H5 L5 rb q5=> ?_) (fun cls dd x H' L=>exn _ cls dd x H' (L3.trans L))
     subst rb
     cases bv with
     | false=>
       refine iteF ?_
       obtain ⟨b1,b2,b3,b4⟩:=back H5 (L3.trans L5)
       exact ⟨accV,acc,b4,racc.mono (Same.trans (sm2 _) (Same.trans (L3.trans L5).vis (sm1 _))),by simpa using q5,b1,b2,b3⟩
     | true=>
       refine iteT ?_
       refine he _ _ _ (show e3 σ4 _ X by simpa using q5) _ (D::G) A4 σ4' H5 _ (R4.le L5) (fun y d H6 L6 ry q6=> ?_) (fun cls dd x H' L=>exn _ cls dd x H' ((L3.trans L5).trans L))
       obtain ⟨b1,b2,b3,b4⟩:=back H6 ((L3.trans L5).trans L6)
       have racc6:=racc.mono (Same.trans (sm2 _) (Same.trans ((L3.trans L5).trans L6).vis (sm1 _)))
       refine ⟨accV,b4,by rw [racc.length];exact q6.1,accV++[y],acc++[d],upd_same, ?_,q6.2, ?_, ?_, ?_⟩
       · rw [hid_upd_in (List.mem_cons_self ..)]
         exact racc6.append (.cons (ry.mono (sm1 _)) .nil)
       · rw [hid_upd_in (List.mem_cons_self ..)]
         exact b1
       · intro a ha
         have:a≠D:=fun z=>by
          subst z
          exact nD (mem_S.mpr (by rcases List.mem_append.mp ha with z | z;exact .inr (.inl z);exact .inr (.inr z)))
         rw [upd_ne this]
         exact b2 a ha
       · exact c.st H6 _ (fun a ha=>by rw [upd_ne (fun z=>nD (by rw [←z];exact mem_S.mpr (.inl ha)))]) (fun a φ e=>by rw [upd_ne (ne_of e b4 (by intro z;cases z))];exact e) b3
end
end M3
namespace M3
open PySem L2
structure Cl (P:Program) (w:World) (K:PySem.W.Frag) (mg:Str→Option Value) (base:Heap) (CX:CXT) (x:Str) (k:Nat) (dvs:List V) (sp:Sp):Prop where
 ex:∃(f:Addr) (fd:FuncData) (ps:List Str) (ds:List Value),FnOk P w K mg base CX k f fd ps sp∧mg x=some (.ref f)∧PySem.W.keepIn K (.ref f)=true∧Binds K fd ps ds∧Vals dvs ds
section
variable {X:Cx} {CX:CXT} {k n:Nat} {sp:Sp} {dvs:List V} {E:XK} {x:Str} {p pos:Pos} {e:Expr} {es:List Expr} {kws:List Keyword} {ks:List Str} {t tk:TA} {gV:List V→List V→List V}
theorem pe_cl (C:Cl X.prog X.w X.K X.mg X.base CX x k dvs sp) (hr:Room k X.A) (hg:Gl X x) (hx:Passes CX X E)
 (ha:PA X (e::es) t) (hdb:(x==("__debug__":Str))=false:=by decide) (he:starEach (e::es) X.env=(false,eval e X.env)::starEach es X.env:=by rfl) (hpl:(backTo pos (starEach es X.env)).any (·.1)=false:=by rfl):
 PE X (.Call (.Name x p) (e::es) [] pos) (tCall sp dvs E t):=by
 obtain ⟨f,fd,ps,ds,F,hm,hk,hb,hd⟩:=C.ex
 exact pe_call F hr hg hm hk hb hd hx ha hdb he hpl
end
def fnN30 (n:Nat) (f:F3) (g:List T→List T→List T) (m j:Nat) (x y:A3):E3:=fun σ Q X=>x σ (fun ds=>y σ (fun es=>ds.length=m∧es.length=j∧(g ds es).length=n∧f (g ds es) Q (fun _=>False)) X) X
def fnN3 (n:Nat) (f:F3) (g:List T→List T→List T) (m j:Nat) (x y:A3):E3:=fun σ Q X=>x σ (fun ds=>y σ (fun es=>ds.length=m∧es.length=j∧(g ds es).length=n∧f (g ds es) Q X) X) X
section
variable {K:PySem.W.Frag} {c:Cf} {W:WX}
theorem lift_po0:LiftO K c W tNoPart (fun _ Q _=>Q none):=by
 intro σ3 Q3 X h Hb G A σ H Q R k e
 exact k none none H (Le.refl R.inv) rfl h
def part3 (a:E3):G3 (Option Int):=fun σ Q X=>a σ (fun x=>ob (asI x) fun i=>Q (some i)) X
theorem lift_po {ta:TE} {a:E3} (ha:Lift K c W ta a):LiftO K c W (tPart ta) (part3 a):=by
 intro σ3 Q3 X h Hb G A σ H Q R k e
 refine ha _ _ _ h Hb G A σ H _ R (fun vx x H1 L1 rx hx=> ?_) e
 obtain ⟨i,ei,q⟩:=ob_iff.mp hx
 cases asI_is ei
 exact ⟨i,rx.intI,k _ _ H1 L1 rfl q⟩
def cut {α:Type} (xs:List α) (lo hi:Option Int):List α:=(xs.drop (HT.sIx xs.length 0 lo)).take (HT.sIx xs.length xs.length hi-HT.sIx xs.length 0 lo)
theorem RepL.cut {H:Hp} {vs:List V} {ts:List T} (r:RepL K H vs ts) (lo hi:Option Int):RepL K H (cutV vs lo hi) (M3.cut ts lo hi):=by
 unfold cutV M3.cut
 rw [r.length]
 exact (r.drop _).take _
def sl3 (q:T→Option Int→Option Int→(T→Prop)→Prop) (a:E3) (l h:G3 (Option Int)):E3:=fun σ Q X=>a σ (fun x=>l σ (fun lo=>h σ (fun hi=>q x lo hi Q) X) X) X
def RLs (K:PySem.W.Frag) (r:V→Option Int→Option Int→Hp→VK→Prop) (q:T→Option Int→Option Int→(T→Prop)→Prop):Prop:=
 ∀(c:Cf) x lo hi Q3,q x lo hi Q3→∀Hb G A σ3 σ H vx Q,R3 K c Hb G A σ3 σ H→Rep K (hid (c.S G A) H) vx x→
  (∀v d H',Le c G A H H'→Rep K (hid (c.S G A) H') v d→Q3 d→Q v H')→r vx lo hi H Q
theorem lift_sl {r:V→Option Int→Option Int→Hp→VK→Prop} {q:T→Option Int→Option Int→(T→Prop)→Prop} {ta:TE} {a:E3} {tl th:TO} {l h:G3 (Option Int)} (hr:RLs K r q) (ha:Lift K c W ta a) (hl:LiftO K c W tl l) (hh:LiftO K c W th h):
 Lift K c W (tSl r ta tl th) (sl3 q a l h):=by
 intro σ3 Q3 X hq Hb G A σ H Q R k e
 refine ha _ _ _ hq Hb G A σ H _ R (fun vx x H1 L1 rx hx=> ?_) e
 refine hl _ _ _ hx Hb G A σ H1 _ (R.le L1) (fun lo lo' H2 L2 e2 hy=> ?_) (fun cls dd x H' L=>e cls dd x H' (L1.trans L))
 subst e2
 refine hh _ _ _ hy Hb G A σ H2 _ ((R.le L1).le L2) (fun hi hi' H3 L3 e3 hz=> ?_) (fun cls dd x H' L=>e cls dd x H' ((L1.trans L2).trans L))
 subst e3
 exact hr c _ _ _ _ hz Hb G A σ3 σ H3 vx Q (((R.le L1).le L2).le L3) (rx.mono (Same.trans L2.vis L3.vis)) (fun v d H' L=>k v d H' (((L1.trans L2).trans L3).trans L))
def cutL3:T→Option Int→Option Int→(T→Prop)→Prop:=fun x lo hi Q=>ob (asL x) fun xs=>Q (.lst (cut xs lo hi))
def cutT3:T→Option Int→Option Int→(T→Prop)→Prop:=fun x lo hi Q=>ob (asT x) fun xs=>Q (.tup (cut xs lo hi))
def cutS3:T→Option Int→Option Int→(T→Prop)→Prop:=fun x lo hi Q=>ob (asS x) fun z=>z.length≤sizeLine∧Q (.str (cutS z lo hi))
theorem rl_slL:RLs K (rSlL K) cutL3:=by
 intro c x lo hi Q3 hh Hb G A σ3 σ H vx Q R rx k
 obtain ⟨xs,ex,q⟩:=ob_iff.mp hh
 cases asL_is ex
 obtain ⟨a,vs,rfl,ha,rl⟩:=rx.lstI
 refine ⟨a,vs,rfl,SqL.of (hid_same _ _ ha),fun p hp=> ?_⟩
 have L:=R.new (o:=.lst (cutV vs lo hi)) hp
 exact k _ _ _ L (.mkL (R.newAt hp) ((rl.mono L.vis).cut lo hi)) q
theorem cut_whole {α:Type} {xs:List α} {lo hi:Option Int} (h:HT.sIx xs.length 0 lo=0∧HT.sIx xs.length xs.length hi=xs.length):cut xs lo hi=xs:=by
 unfold cut
 rw [h.1,h.2,List.drop_zero,Nat.sub_zero,List.take_length]
theorem rl_slT:RLs K (rSlF K) cutT3:=by
 intro c x lo hi Q3 hh Hb G A σ3 σ H vx Q R rx k
 obtain ⟨xs,ex,q⟩:=ob_iff.mp hh
 cases asT_is ex
 obtain ⟨a,vs,rfl,ha,rl⟩:=rx.tupI
 refine ⟨a,vs,rfl,Same.sqT hid_same ha,fun hw=> ?_,fun _ p o hp hd=> ?_⟩
 · rw [rl.length] at hw
   refine k _ _ _ (Le.refl R.inv) rx ?_
   rw [cut_whole hw] at q
   exact q
 · have L:=R.new (o:=.frz o (.tup (cutV vs lo hi))) hp
   exact k _ _ _ L (.mkT (FqT.of hd (R.newAt hp)) ((rl.mono L.vis).cut lo hi)) q
theorem rl_slS:RLs K rSlS cutS3:=by
 intro c x lo hi Q3 hh Hb G A σ3 σ H vx Q R rx k
 obtain ⟨z,ez,hz,q⟩:=ob_iff.mp hh
 cases asS_is ez
 exact ⟨z,rx.strI,hz,k _ _ H (Le.refl R.inv) (.str _) q⟩
def catL3:T→T→(T→Prop)→Prop:=fun x y Q=>ob (asL x) fun xs=>ob (asL y) fun ys=>xs.length+ys.length≤sizeLine∧Q (.lst (xs++ys))
def catT3:T→T→(T→Prop)→Prop:=fun x y Q=>ob (asT x) fun xs=>ob (asT y) fun ys=>xs.length+ys.length≤sizeLine∧Q (.tup (xs++ys))
def catS3:T→T→(T→Prop)→Prop:=fun x y Q=>ob (asS x) fun a=>ob (asS y) fun b=>a.length+b.length≤sizeLine∧Q (.str (a++b))
theorem rl_catL:RL2 K rCat catL3:=by
 intro c x y Q3 hh Hb G A σ3 σ H vx vy Q R rx ry k
 obtain ⟨xs,ex,hh1⟩:=ob_iff.mp hh
 obtain ⟨ys,ey,hl,q⟩:=ob_iff.mp hh1
 cases asL_is ex
 cases asL_is ey
 obtain ⟨a,vs,rfl,ha,rl⟩:=rx.lstI
 obtain ⟨b,ws,rfl,hb,rm⟩:=ry.lstI
 refine ⟨a,b,vs,ws,rfl,rfl,hid_same _ _ ha,hid_same _ _ hb,by rw [rl.length,rm.length];exact hl,fun p hp=> ?_⟩
 have L:=R.new (o:=.lst (vs++ws)) hp
 exact k _ _ _ L (.mkL (R.newAt hp) ((rl.mono L.vis).append (rm.mono L.vis))) q
theorem rl_catT:RL2 K (rCatF K) catT3:=by
 intro c x y Q3 hh Hb G A σ3 σ H vx vy Q R rx ry k
 obtain ⟨xs,ex,hh1⟩:=ob_iff.mp hh
 obtain ⟨ys,ey,hl,q⟩:=ob_iff.mp hh1
 cases asT_is ex
 cases asT_is ey
 obtain ⟨a,vs,rfl,ha,rl⟩:=rx.tupI
 obtain ⟨b,ws,rfl,hb,rm⟩:=ry.tupI
 refine ⟨a,b,vs,ws,rfl,rfl,Same.sqT hid_same ha,Same.sqT hid_same hb,by rw [rl.length,rm.length];exact hl,fun h=> ?_,fun _ h=> ?_,fun _ _ p o hp hd=> ?_⟩
 · subst h
   cases rl
   exact k _ _ _ (Le.refl R.inv) ry q
 · subst h
   cases rm
   rw [List.append_nil] at q
   exact k _ _ _ (Le.refl R.inv) rx q
 · have L:=R.new (o:=.frz o (.tup (vs++ws))) hp
   exact k _ _ _ L (.mkT (FqT.of hd (R.newAt hp)) ((rl.mono L.vis).append (rm.mono L.vis))) q
theorem rl_catS:RL2 K (fun x y H Q=>∃i j,x= .str i∧y= .str j∧i.length+j.length≤sizeLine∧Q (.str (i++j)) H) catS3:=by
 intro c x y Q3 hh Hb G A σ3 σ H vx vy Q R rx ry k
 obtain ⟨a,ea,hh1⟩:=ob_iff.mp hh
 obtain ⟨b,eb,hl,q⟩:=ob_iff.mp hh1
 cases asS_is ea
 cases asS_is eb
 exact ⟨a,b,rx.strI,ry.strI,hl,k _ _ H (Le.refl R.inv) (.str _) q⟩
end
end M3
namespace M3
open PySem L2
def PotAt (p cc:Addr) (H:Hp):Prop:=
 ∃(cs:List Int) (i n s:Int),H p=some (.lst [.ref cc,.int i,.int n,.int s])∧H cc=some (.lst (cs.map V.int))∧0≤i∧i<cs.length∧cs.length≤1000∧(∀z∈cs,0≤z)∧0≤s∧s<2147483647
theorem PotAt.ne {p cc:Addr} {H:Hp} (h:PotAt p cc H):p≠cc:=by
 obtain ⟨cs,i,n,s,h1,h2,_⟩:=h
 refine ne_of h1 h2 fun z=> ?_
 have z:[V.ref cc,V.int i,V.int n,V.int s]=cs.map V.int:=HO.lst.inj z
 cases cs with
 | nil=>cases z
 | cons a cs=>rw [List.map_cons] at z;injection z with z _;cases z
theorem PotAt.stay {p cc:Addr} {H H':Hp} (h:PotAt p cc H) (e1:H' p=H p) (e2:H' cc=H cc):PotAt p cc H':=by
 obtain ⟨cs,i,n,s,h1,h2,r⟩:=h
 exact ⟨cs,i,n,s,by rw [e1];exact h1,by rw [e2];exact h2,r⟩
theorem tabs_stay {T:List (Addr×Str)} {H H':Hp} (h:LamX.Tabs T H) (e:∀a∈T.map (·.1),H' a=H a) (x:SameX H H'):LamX.Tabs T H':=fun q hq=>by
 obtain ⟨ps,h1,h2,h3⟩:=h q hq
 refine ⟨ps,by rw [e q.1 (List.mem_map.mpr ⟨q,hq,rfl⟩)];exact h1,h2,fun pos cv z=> ?_⟩
 obtain ⟨c,e1,e2⟩:=h3 pos cv z
 exact ⟨c,e1,x _ _ e2⟩
def potR (fr:Bool) (p cc:Addr) (T:List (Addr×Str)):Cf where
 S0:=p::cc::T.map (·.1)
 I:=fun H=>PotAt p cc H∧LamX.Tabs T H
 st:=fun H H' e x h=>⟨h.1.stay (e p (by simp)) (e cc (by simp)),tabs_stay h.2 (fun a ha=>e a (by simp at ha ⊢;exact .inr (.inr ha))) x⟩
 on:=fun H h a ha=>by
  obtain ⟨⟨cs,i,n,s,h1,h2,r⟩,ht⟩:=h
  rcases List.mem_cons.mp ha with rfl | ha
  · rw [h1];intro z;cases z
  · rcases List.mem_cons.mp ha with rfl | ha
    · rw [h2];intro z;cases z
    · obtain ⟨q,hq,rfl⟩:=List.mem_map.mp ha
      obtain ⟨ps,z,_⟩:=ht q hq
      rw [z];intro y;cases y
 gOk:=fun o=>T=[]∨vis o=true
 gL:=fun _=>.inr rfl
 gV:=fun _ h=>.inr h
 fr:=fr
abbrev potT (p cc:Addr) (T:List (Addr×Str)):Cf:=potR false p cc T
abbrev potCf (p cc:Addr):Cf:=potT p cc []
theorem tabs_nil {H:Hp}:LamX.Tabs [] H:=fun q hq=>by cases hq
def spP (K:PySem.W.Frag) (n:Nat) (f:F3):Sp:=fun vs H Q E=>∃p cc G ds,PotAt p cc H∧(∀a∈G,H a≠none∧a ∉ (potCf p cc).S0)∧(T.ref p::ds).length=n∧RepL K (hid ((potCf p cc).S0++G) H) vs (T.ref p::ds)∧∃Q3 X,f (T.ref p::ds) Q3 X∧
 (∀v d H',PotAt p cc H'→Same (hid ((potCf p cc).S0++G) H) (hid ((potCf p cc).S0++G) H')→(∀a∈G,H' a=H a)→Rep K (hid ((potCf p cc).S0++G) H') v d→Q3 d→Q v H')∧
 (∀cls dd x H',PotAt p cc H'→Same (hid ((potCf p cc).S0++G) H) (hid ((potCf p cc).S0++G) H')→(∀a∈G,H' a=H a)→XRep K (hid ((potCf p cc).S0++G) H') cls dd x→X x→E cls dd H')
theorem spP_len {K:PySem.W.Frag} {n:Nat} {f:F3} {ps:List Str} (h:ps.length=n):∀vs H Q E,spP K n f vs H Q E→vs.length=ps.length:=by
 intro vs H Q E h'
 obtain ⟨p,cc,G,ds,_,_,hl,r,_⟩:=h'
 rw [r.length,hl,h]
theorem bodyP {K:PySem.W.Frag} {n:Nat} {f:F3} {N:List Str} {t:TS} {x:Addr→S3} {W:WX} {vs:List V} {H:Hp} {Q:VK} {E:XK} (h:spP K n f vs H Q E) (hW:∀cls dd σ H',E cls dd H'→W cls dd σ H')
 (lt:∀p cc,LiftS K (potCf p cc) W t (x p)) (hb:∀p ds Q3 X,(T.ref p::ds).length=n→f (T.ref p::ds) Q3 X→x p {nx:=fun _=>Q3 .non,rt:=Q3,xn:=fun _=>X} (start3 N.length (T.ref p::ds))):t {nx:=fun _ H'=>Q .non H',rt:=Q} (start N vs) H:=by
 obtain ⟨p,cc,G,ds,hp,hG,hl,r,Q3,X,hf,hq,hx⟩:=h
 refine lt p cc _ _ (hb p ds Q3 X hl hf) H G _ _ H _ (r3_start (c:=potCf p cc) (N:=N) ⟨hp,tabs_nil⟩ hG (fun _=>.inl rfl) r) ⟨?_, ?_,fun _ _ _ _ _ z=>z.elim,fun _ _ _ _ _ z=>z.elim, ?_⟩
 · intro A σ3 σ H' R q
   exact hq _ _ _ R.inv.1 R.fin.base (fun a h=>R.fin.gk a h) .non q
 · rintro v d H' ⟨F,rv⟩ q
   exact hq _ _ _ F.inv.1 F.base (fun a h=>F.gk a h) rv q
 · intro A σ3 σ H' cls dd xn R rx q
   refine hW _ _ _ _ (hx cls dd xn H' R.inv.1 R.fin.base (fun a h=>R.fin.gk a h) ?_ q)
   obtain ⟨e,rx⟩:=rx
   refine ⟨e, ?_⟩
   cases dd with
   | none=>exact rx
   | some d=>
     obtain ⟨fs,h1,h2,h3⟩:=rx
     exact ⟨fs,hid_fin _ _ h1,h2,h3.mono hid_fin⟩
def fnP30 (p:Addr) (n:Nat) (f:F3) (x:A3) (dvs:List T):E3:=fun σ Q X=>x σ (fun ds=>ds.head? =some (T.ref p)∧(ds++dvs).length=n∧f (ds++dvs) Q (fun _=>False)) X
theorem spP_call {K:PySem.W.Frag} {p cc:Addr} {fr:Bool} {Ts:List (Addr×Str)} {n:Nat} {f:F3} {Hb H1:Hp} {G:List Addr} {A:List (Option Addr)} {σ3:List Sl} {σ:St} {vs:List V} {ds:List T} {Q:VK} {E:XK} {Q3:T→Prop} {X:X3} (R1:R3 K (potR fr p cc Ts) Hb G A σ3 σ H1)
 (rx:RepL K (hid ((potR fr p cc Ts).S G A) H1) vs (T.ref p::ds)) (hl:(T.ref p::ds).length=n) (hf:f (T.ref p::ds) Q3 X) (k:∀v d H',Le (potR fr p cc Ts) G A H1 H'→Rep K (hid ((potR fr p cc Ts).S G A) H') v d→Q3 d→Q v H')
 (e:∀cls dd x H',Le (potR fr p cc Ts) G A H1 H'→XRep K (hid ((potR fr p cc Ts).S G A) H') cls dd x→X x→E cls dd H'):spP K n f vs H1 Q E:=by
 have eS:∀a,a∈(potCf p cc).S0++(((potR fr p cc Ts).S G A).filter fun a=>decide (a≠p∧a≠cc))↔a∈(potR fr p cc Ts).S G A:=fun a=>by
  have h0:p∈(potR fr p cc Ts).S G A:=mem_S.mpr (.inl (by simp [potR]))
  have h1:cc∈(potR fr p cc Ts).S G A:=mem_S.mpr (.inl (by simp [potR]))
  constructor
  · intro h
    rcases List.mem_append.mp h with h | h
    · simp [potCf,potR] at h
      rcases h with rfl | rfl
      · exact h0
      · exact h1
    · exact (List.mem_filter.mp h).1
  · intro h
    by_cases z:a≠p∧a≠cc
    · exact List.mem_append.mpr (.inr (List.mem_filter.mpr ⟨h,by simpa using z⟩))
    · refine List.mem_append.mpr (.inl ?_)
      simp only [potCf,potR,List.map_nil,List.mem_cons,List.not_mem_nil,or_false]
      by_cases q:a=p
      · exact .inl q
      · by_cases q':a=cc
        · exact .inr q'
        · exact absurd ⟨q,q'⟩ z
 have eH:∀H,hid ((potCf p cc).S0++(((potR fr p cc Ts).S G A).filter fun a=>decide (a≠p∧a≠cc))) H=hid ((potR fr p cc Ts).S G A) H:=fun H=>by
  funext a
  by_cases h:a∈(potR fr p cc Ts).S G A
  · rw [hid_in h,hid_in ((eS a).mpr h)]
  · have h':=fun z=>h ((eS a).mp z)
    unfold hid
    rw [out_out h,out_out h']
 have hG:∀a∈((potR fr p cc Ts).S G A).filter (fun a=>decide (a≠p∧a≠cc)),H1 a≠none∧a ∉ (potCf p cc).S0:=fun a ha=>by
  obtain ⟨h1,h2⟩:=List.mem_filter.mp ha
  have h2:a≠p∧a≠cc:=by simpa using h2
  exact ⟨R1.there h1,by simp [potCf,potR,h2.1,h2.2]⟩
 have le:∀H',PotAt p cc H'→Same (hid ((potR fr p cc Ts).S G A) H1) (hid ((potR fr p cc Ts).S G A) H')→(∀a∈((potR fr p cc Ts).S G A).filter (fun a=>decide (a≠p∧a≠cc)),H' a=H1 a)→Le (potR fr p cc Ts) G A H1 H':=fun H' hp s1 s2=>by
  have s3:∀a∈(potR fr p cc Ts).S G A,a≠p→a≠cc→H' a=H1 a:=fun a h1 h2 h3=>s2 a (List.mem_filter.mpr ⟨h1,by simp [h2,h3]⟩)
  obtain ⟨hp0,ht⟩:=R1.inv
  have npc:∀a o,H1 a=some o→(∀vs,o≠ .lst vs)→a≠p∧a≠cc:=fun a o e hne=>by
   obtain ⟨cs,i,n,s,h1,h2,_⟩:=hp0
   exact ⟨ne_of e h1 (hne _),ne_of e h2 (hne _)⟩
  refine ⟨s1,fun a ha=> ?_,hp, ?_⟩
  · have hm:a∈(potR fr p cc Ts).S G A:=mem_S.mpr (by rcases List.mem_append.mp ha with z | z;exact .inr (.inl z);exact .inr (.inr z))
    have hn:a ∉ (potR fr p cc Ts).S0:=by
     rcases List.mem_append.mp ha with z | z
     · exact (R1.gk a z).2.2
     · exact fun q=>R1.ns a z (List.mem_append.mpr (.inl q))
    exact s3 a hm (fun z=>hn (by simp [potR,z])) (fun z=>hn (by simp [potR,z]))
  · refine tabs_stay ht (fun a ha=> ?_) (fun a φ e=> ?_)
    · obtain ⟨q,hq,rfl⟩:=List.mem_map.mp ha
      obtain ⟨ps,z,_⟩:=ht q hq
      have:=npc _ _ z (fun vs y=>by cases y)
      exact s3 _ (mem_S.mpr (.inl (by simp [potR];exact .inr (.inr ⟨_,hq⟩)))) this.1 this.2
    · by_cases h:a∈(potR fr p cc Ts).S G A
      · have:=npc _ _ e (fun vs y=>by cases y)
        rw [s3 a h this.1 this.2];exact e
      · exact (hid_some (s1 _ _ (hid_mk e h))).1
 refine ⟨p,cc,_,ds,R1.inv.1,hG,hl,by rw [eH];exact rx,Q3,X,hf, ?_, ?_⟩
 · rw [eH]
   intro v d H' hp s1 s2 rv q
   rw [eH] at s1 rv
   exact k v d H' (le H' hp s1 s2) rv q
 · rw [eH]
   intro cls dd xn H' hp s1 s2 rv q
   rw [eH] at s1 rv
   exact e cls dd xn H' (le H' hp s1 s2) rv q
theorem lift_callP0 {K:PySem.W.Frag} {p cc:Addr} {fr:Bool} {Ts:List (Addr×Str)} {n:Nat} {f:F3} {W:WX} {E:XK} {t:TA} {x:A3} {dvs:List V} {dts:List T} (ha:LiftA K (potR fr p cc Ts) W t x) (hd:∀H,RepL K H dvs dts):
 Lift K (potR fr p cc Ts) W (tCall (spP K n f) dvs E t) (fnP30 p n f x dts):=by
 intro σ3 Q3 X h Hb G A σ H Q R k e
 refine ha _ _ _ h Hb G A σ H _ R (fun vs ds H1 L1 rx hx=> ?_) e
 obtain ⟨hd0,hl,hf⟩:=hx
 obtain ⟨r,rfl⟩:∃r,ds=T.ref p::r:=by
  cases ds with
  | nil=>cases hd0
  | cons a r=>cases hd0;exact ⟨r,rfl⟩
 exact spP_call (R.le L1) (rx.append (hd _)) hl hf (fun v d H' L r q=>k v d H' (L1.trans L) r q) (fun cls dd x H' L r q=>q.elim)
def take3:F3:=fun ds Q _=>ob (two ds) fun p=>ob (asI p.2) fun m=>0<m∧m<2 ^ 200∧∀r,0≤r→r<m→Q (.int r)
def spTake:Sp:=fun vs H Q _=>∃p cc m,vs=[.ref p,.int m]∧PotAt p cc H∧0<m∧m<2 ^ 200∧∀r H',0≤r→r<m→PotAt p cc H'→(∀a,a≠p→a≠cc→H' a=H a)→Q (.int r) H'
theorem take_imp {K:PySem.W.Frag}:∀vs H Q E,spP K 2 take3 vs H Q E→spTake vs H Q E:=by
 intro vs H Q E h
 obtain ⟨p,cc,G,ds,hp,hG,hl,r,Q3,X,hf,hq,hx⟩:=h
 obtain ⟨⟨p',m'⟩,e,hf⟩:=ob_iff.mp hf
 obtain ⟨m,em,h0,h1,hd⟩:=ob_iff.mp hf
 cases asI_is em
 have e:=two_is e
 injection e with e1 e2
 subst e2
 obtain ⟨v,w,rfl,rv,rw'⟩:=repL_two r
 cases rv.refI
 cases rw'.intI
 refine ⟨p,cc,m,rfl,hp,h0,h1,fun r H' r0 r1 hp' he=> ?_⟩
 have nin:∀a,a ∉ (potCf p cc).S0→a≠p∧a≠cc:=fun a ha=>⟨fun z=>ha (by rw [z];exact List.mem_cons_self ..),fun z=>ha (by rw [z];exact List.mem_cons_of_mem _ (List.mem_cons_self ..))⟩
 refine hq _ (.int r) H' hp' (fun a o e=> ?_) (fun a ha=> ?_) (.int r) (hd r r0 r1)
 · obtain ⟨e1,e2⟩:=hid_some e
   have ha:=nin a fun z=>e2 (List.mem_append.mpr (.inl z))
   exact hid_mk (by rw [he a ha.1 ha.2];exact e1) e2
 · have:=nin a (hG a ha).2
   exact he a this.1 this.2
theorem get_list {X:Cx}:PGet X (rIxL X.K):=by
 intro pins s σ H x y v u Q I rx ry h
 obtain ⟨p,xs,i,z,rfl,rfl,hq,he,q⟩:=h
 cases rx
 obtain ⟨t,rfl⟩:=ry
 obtain ⟨its,r,pl,hz⟩:=I.list hq
 obtain ⟨j,h1,h2,h3,h4,h5⟩:=atI_get he
 obtain ⟨w,ew,rw'⟩:=r.get h2
 have hl:=r.length
 have hn:=line63
 have fin:EP X pins σ Q w s:=⟨z,H,I,rw',q⟩
 by_cases h0:0≤i
 · have hj:i.toNat=j:=by
    rw [seqIndex_of h0 h5] at h1
    exact Option.some.inj h1
   exact wpAny_getItem_list pl.isList h0 (by omega) (by rw [hj];simpa using ew) fin
 · have hj:(i+(its.toArray.size:Int)).toNat=j:=by
    rw [seqIndex_neg (by omega) h4] at h1
    rw [List.size_toArray, ←hl]
    exact Option.some.inj h1
   exact wpAny_getItem_list_neg pl.isList (by omega) (by rw [List.size_toArray]<;>omega) (by omega) (by rw [hj];simpa using ew) fin
section
variable {K:PySem.W.Frag}
def isB3:T→T→(T→Prop)→Prop:=fun x y Q=>ob (asB x) fun a=>ob (asB y) fun b=>Q (.bl (decide (a=b)))
def toI:T→Option Int
 | .int i=>some i
 | .bl b=>some (if b then 1 else 0)
 | _=>none
def int13:List T→(T→Prop)→Prop:=fun xs Q=>ob (one xs) fun x=>ob (toI x) fun i=>Q (.int i)
theorem rl_int1:RLn K (fun xs H Q=>(∃i,xs=[.int i]∧Q (.int i) H)∨∃k,xs=[.bl k]∧Q (.int (if k then 1 else 0)) H) int13:=by
 intro c xs Q3 hh Hb G A σ3 σ H vs Q R rx k
 obtain ⟨x,ex,hh1⟩:=ob_iff.mp hh
 obtain ⟨i,ei,q⟩:=ob_iff.mp hh1
 cases one_is ex
 obtain ⟨v,rfl,r⟩:=repL_one rx
 cases x with
 | int i=>
   cases ei
   cases r.intI
   exact .inl ⟨_,rfl,k _ _ H (Le.refl R.inv) (.int _) q⟩
 | bl b=>
   cases ei
   cases r.blI
   exact .inr ⟨b,rfl,k _ _ H (Le.refl R.inv) (.int _) q⟩
 | _=>cases ei
end
end M3
namespace M3
open PySem L2
section
variable {X:Cx} {K:PySem.W.Frag} {pos:Pos}
theorem ix_listK (h:X.K=K):IxR X (rIxL K):=h ▸ ix_list
theorem ix_tupK (h:X.K=K):IxR X (rIxT K):=h ▸ ix_tup
theorem ix_strK (h:X.K=K):IxR X rIxS:=ix_str
theorem call_isiK' (h:X.K=K):CallR X (.builtin "isinstance") (rIsi K):=h ▸ call_isi
theorem sl_listK (h:X.K=K):SlR X (rSlL K):=h ▸ sl_list
theorem sl_tupK (h:X.K=K):SlR X (rSlF K):=h ▸ sl_tupF
theorem sl_strK (h:X.K=K):SlR X rSlS:=sl_str
theorem op_catTK (h:X.K=K):OpR X (binaryOp .Add) (rCatF K):=h ▸ op_catF
end
section
variable {K:PySem.W.Frag} {c:Cf} {W:WX}
def truT:T→Option Bool
 | .non=>some false
 | .bl b=>some b
 | .int i=>some (i != 0)
 | .str y=>if y.length≤sizeLine then some ((y.length:Int) != 0) else none
 | .lst xs=>some (!xs.isEmpty)
 | .tup xs=>some (!xs.isEmpty)
 | _=>none
def truth3 (a:E3):B3:=fun σ Q X=>a σ (fun x=>ob (truT x) Q) X
theorem RepL.isEmpty {H:Hp} {vs:List V} {ts:List T} (r:RepL K H vs ts):vs.isEmpty=ts.isEmpty:=by cases r<;>rfl
end
end M3
namespace M3
open PySem L2
theorem r3_pot {K:PySem.W.Frag} {p cc:Addr} {Ts:List (Addr×Str)} {H:Hp} (m:Nat) (a:Addr) (hp:PotAt p cc H) (ht:LamX.Tabs Ts H):
 R3 K (potT p cc Ts) H [] (List.replicate (m+2) none) (Sl.no::Sl.val (.ref p)::List.replicate m Sl.no) (some (V.ref a)::some (V.ref p)::List.replicate m none) H:=by
 have hA:addrs (List.replicate (m+2) (none:Option Addr))=[]:=by
  unfold addrs
  rw [List.filterMap_replicate_of_none rfl]
 refine ⟨⟨hp,ht⟩, ?_,fun a h=>(by cases h),fun a h=>(by cases h),(by rw [hA];exact List.nodup_nil),fun a h=>(by rw [hA] at h;cases h),(by simp),(by simp), ?_⟩
 · unfold Cf.S
   rw [hA,List.append_nil,List.append_nil]
   exact Same.refl _
 · intro i s o x h1 h2 h3
   have ho:o=none:=(List.mem_replicate.mp (List.mem_of_getElem? h2)).2
   subst ho
   match i,h1,h3 with
   | 0,h1,h3=>cases h1;exact rfl
   | 1,h1,h3=>cases h1;cases h3;exact ⟨rfl,_,rfl,.ref p⟩
   | i+2,h1,h3=>
     have hs:s= .no:=(List.mem_replicate.mp (List.mem_of_getElem? (show (List.replicate m Sl.no)[i]? =some s by simpa using h1))).2
     subst hs
     exact rfl
theorem ob_atI {xs:List T} {r:Int} {Q:T→Prop} (h0:0≤r) (h1:r<xs.length) (h:∀x∈xs,Q x):ob (atI xs r) Q:=by
 obtain ⟨j,rfl⟩:∃j:Nat,r=(j:Int):=⟨r.toNat,by omega⟩
 have hj:j<xs.length:=by omega
 have e:atI xs (j:Int)=some xs[j]:=atI_nat (List.getElem?_eq_getElem hj)
 rw [e]
 exact h _ (List.getElem_mem hj)
theorem draw_all {xs:List T} {n:Int} {Q:T→Prop} (hn:n=xs.length) (h:∀x∈xs,Q x):∀r:Int,0≤r→r<n→ob (atI xs r) Q:=fun r h0 h1=>ob_atI h0 (by omega) h
theorem seq_by {t u:S3} {N:N3} {σ:List Sl} (M:List Sl→Prop) (h:∀nx:List Sl→Prop,(∀σ',M σ'→nx σ')→t {N with nx:=nx} σ) (k:∀σ',M σ'→u N σ'):seq3 t u N σ:=h (u N) k
end M3
namespace M3
open PySem L2
end M3
namespace M3
open PySem L2
section
variable {K:PySem.W.Frag} {c:Cf} {W:WX}
def raise3 (cls:Value):S3:=fun N σ=>N.xn σ ⟨cls,[]⟩
end
end M3
namespace M3
open PySem L2
section
variable {X:Cx} {K:PySem.W.Frag}
theorem op_eqDK (h:X.K=K) (hu:X.A.units+64<cLine):OpR X (compareOp .Eq) (rEqD K):=h ▸ op_eqD hu
theorem op_neDK (h:X.K=K) (hu:X.A.units+64<cLine):OpR X (compareOp .NotEq) (rNeD K):=h ▸ op_neD hu
end
mutual
def dat:T→Option PyData
 | .non=>some .none
 | .bl b=>some (.bool b)
 | .int i=>some (.int i)
 | .str x=>some (.str x)
 | .tup xs=>(dats xs).map .tuple
 | .lst xs=>(dats xs).map .list
 | .ty _=>none
 | .ref _=>none
 | .dic _=>none
 | .ins _ _=>none
 | .kd _ _=>none
def dats:List T→Option (List PyData)
 | []=>some []
 | t::ts=>(dat t).bind fun d=>(dats ts).map (d::·)
end
mutual
theorem dp_of {K:PySem.W.Frag} {H H':Hp} (s:Same H H'):∀(t:T) (v:V) (d:PyData),Rep K H v t→dat t=some d→Dp K H' v d
 | .non,v,d,r,h=>by
   cases h
   cases r
   exact .non
 | .bl b,v,d,r,h=>by
   cases h
   cases r
   exact .bl _
 | .int i,v,d,r,h=>by
   cases h
   cases r
   exact .int _
 | .str x,v,d,r,h=>by
   cases h
   cases r
   exact .str _
 | .tup xs,v,d,r,h=>by
   obtain ⟨a,vs,rfl,ha,rl⟩:=r.tupI
   have h:(dats xs).map PyData.tuple=some d:=by simpa [dat] using h
   cases e:dats xs with
   | none=>rw [e] at h;cases h
   | some ds=>
     rw [e] at h
     cases h
     exact .tup (Same.sqT s ha) (dps_of s xs vs ds rl e)
 | .lst xs,v,d,r,h=>by
   obtain ⟨a,vs,rfl,ha,rl⟩:=r.lstI
   have h:(dats xs).map PyData.list=some d:=by simpa [dat] using h
   cases e:dats xs with
   | none=>rw [e] at h;cases h
   | some ds=>
     rw [e] at h
     cases h
     exact .lst (SqL.of (s _ _ ha)) (dps_of s xs vs ds rl e)
 | .ty _,v,d,r,h=>by simp [dat] at h
 | .ref _,v,d,r,h=>by simp [dat] at h
 | .dic _,v,d,r,h=>by simp [dat] at h
 | .ins _ _,v,d,r,h=>by simp [dat] at h
 | .kd _ _,v,d,r,h=>by simp [dat] at h
theorem dps_of {K:PySem.W.Frag} {H H':Hp} (s:Same H H'):∀(ts:List T) (vs:List V) (ds:List PyData),RepL K H vs ts→dats ts=some ds→DpAll K H' vs ds
 | [],vs,ds,r,h=>by
   cases h
   cases r
   exact .nil
 | t::ts,vs,ds,r,h=>by
   have h:(dat t).bind (fun d=>(dats ts).map (d::·))=some ds:=by simpa [dats] using h
   cases e:dat t with
   | none=>rw [e] at h;cases h
   | some d=>
     rw [e] at h
     cases e2:dats ts with
     | none=>rw [e2] at h;cases h
     | some es=>
       rw [e2] at h
       cases h
       cases r with
       | cons r1 r2=>exact .cons (dp_of s t _ _ r1 e) (dps_of s ts _ _ r2 e2)
end
section
variable {K:PySem.W.Frag}
def eqD3:T→T→(T→Prop)→Prop:=fun x y Q=>ob (dat x) fun d=>ob (dat y) fun e=>SeqAt.shaped d=true∧SeqAt.shaped e=true∧Q (.bl (PyData.eqv d e))
def neD3:T→T→(T→Prop)→Prop:=fun x y Q=>ob (dat x) fun d=>ob (dat y) fun e=>SeqAt.shaped d=true∧SeqAt.shaped e=true∧Q (.bl (!PyData.eqv d e))
theorem rl_eqD:RL2 K (rEqD K) eqD3:=by
 intro c x y Q3 hh Hb G A σ3 σ H vx vy Q R rx ry k
 obtain ⟨d,ed,h1⟩:=ob_iff.mp hh
 obtain ⟨e,ee,s1,s2,q⟩:=ob_iff.mp h1
 exact ⟨d,e,dp_of hid_same _ _ _ rx ed,dp_of hid_same _ _ _ ry ee,s1,s2,k _ _ H (Le.refl R.inv) (.bl _) q⟩
theorem rl_neD:RL2 K (rNeD K) neD3:=by
 intro c x y Q3 hh Hb G A σ3 σ H vx vy Q R rx ry k
 obtain ⟨d,ed,h1⟩:=ob_iff.mp hh
 obtain ⟨e,ee,s1,s2,q⟩:=ob_iff.mp h1
 exact ⟨d,e,dp_of hid_same _ _ _ rx ed,dp_of hid_same _ _ _ ry ee,s1,s2,k _ _ H (Le.refl R.inv) (.bl _) q⟩
end
end M3
namespace M3
open PySem L2
structure Cs where
 at_:Str→Addr
 em:Value→Value→Option Bool
 w:World
def csOf (w:World) (K:PySem.W.Frag) (mg:Str→Option Value):Cs:=⟨fun x=>match mg x with | some (.ref a)=>a | _=>0,PySem.W.exmOne K,w⟩
theorem csOf_at {w:World} {K:PySem.W.Frag} {mg:Str→Option Value} {x:Str} {a:Addr} (h:mg x=some (.ref a)):(csOf w K mg).at_ x=a:=by
 show (match mg x with | some (.ref a)=>a | _=>0)=a
 rw [h]
theorem OpR.or {X:Cx} {f:Value→Value→Sem Value} {r r':R2} (a:OpR X f r) (b:OpR X f r'):OpR X f (fun x y H Q=>r x y H Q∨r' x y H Q):=fun pins s σ H x y v u Q I rx ry h=>by
 rcases h with h | h
 · exact a pins s σ H x y v u Q I rx ry h
 · exact b pins s σ H x y v u Q I rx ry h
theorem ixR_or {X:Cx} {r r':R2} (a:IxR X r) (b:IxR X r'):IxR X (fun x y H Q=>r x y H Q∨r' x y H Q):=by
 intro e1 e2 pins s σ H x y v u Q I rx ry h hs
 rcases h with h | h
 · exact a e1 e2 pins s σ H x y v u Q I rx ry h hs
 · exact b e1 e2 pins s σ H x y v u Q I rx ry h hs
theorem RL2.or2 {K:PySem.W.Frag} {r r':R2} {q q' m:T→T→(T→Prop)→Prop} (h:RL2 K r q) (h':RL2 K r' q') (hm:∀x y Q,m x y Q→q x y Q∨q' x y Q):RL2 K (fun x y H Q=>r x y H Q∨r' x y H Q) m:=by
 intro c x y Q3 hh Hb G A σ3 σ H vx vy Q R rx ry k
 rcases hm _ _ _ hh with hh | hh
 · exact .inl (h c x y Q3 hh Hb G A σ3 σ H vx vy Q R rx ry k)
 · exact .inr (h' c x y Q3 hh Hb G A σ3 σ H vx vy Q R rx ry k)
section
variable {X:Cx} {K:PySem.W.Frag}
abbrev rAdd (K:PySem.W.Frag):R2:=fun x y H Q=>rI0 (fun i j=>.int (i+j)) x y H Q∨(fun x y H Q=>(fun x y H Q=>∃i j,x= .str i∧y= .str j∧i.length+j.length≤sizeLine∧Q (.str (i++j)) H) x y H Q∨(fun x y H Q=>rCat x y H Q∨rCatF K x y H Q) x y H Q) x y H Q
theorem op_addP (h:X.K=K):OpR X (binaryOp .Add) (rAdd K):=OpR.or op_add (OpR.or op_add_str (OpR.or op_cat (op_catTK h)))
def addP:T→T→(T→Prop)→Prop
 | .int i,.int j,Q=>Q (.int (i+j))
 | .str a,.str b,Q=>a.length+b.length≤sizeLine∧Q (.str (a++b))
 | .lst a,.lst b,Q=>a.length+b.length≤sizeLine∧Q (.lst (a++b))
 | .tup a,.tup b,Q=>a.length+b.length≤sizeLine∧Q (.tup (a++b))
 | _,_,_=>False
theorem rl_addP:RL2 K (rAdd K) addP:=by
 refine RL2.or2 rl_add (RL2.or2 rl_catS (RL2.or2 rl_catL rl_catT (m:=fun x y Q=>match x,y with | .lst a,.lst b=>catL3 (.lst a) (.lst b) Q | .tup a,.tup b=>catT3 (.tup a) (.tup b) Q | _,_=>False) ?_)
  (m:=fun x y Q=>match x,y with | .str a,.str b=>catS3 (.str a) (.str b) Q | .lst a,.lst b=>catL3 (.lst a) (.lst b) Q | .tup a,.tup b=>catT3 (.tup a) (.tup b) Q | _,_=>False) ?_) ?_
 · intro x y Q h
   cases x<;>cases y<;>first | exact .inl h | exact .inr h | exact h.elim
 · intro x y Q h
   cases x<;>cases y<;>first | exact .inl h | exact .inr h | exact h.elim
 · intro x y Q h
   cases x<;>cases y<;>first | exact .inl h | exact .inr h | exact h.elim
def mulP:T→T→(T→Prop)→Prop
 | .int i,.int j,Q=>CMulW i j∧Q (.int (i * j))
 | .lst xs,.int k,Q=> -(2 ^ 63)≤k∧k<2 ^ 63∧xs.length * k.toNat≤sizeLine∧Q (.lst (List.replicate k.toNat xs).flatten)
 | _,_,_=>False
abbrev rIx (K:PySem.W.Frag):R2:=fun x y H Q=>rIxL K x y H Q∨(fun x y H Q=>rIxT K x y H Q∨rIxS x y H Q) x y H Q
theorem ix_P (h:X.K=K):IxR X (rIx K):=ixR_or (ix_listK h) (ixR_or (ix_tupK h) (ix_strK h))
def ixP:T→T→(T→Prop)→Prop
 | .lst xs,.int i,Q=>ob (atI xs i) Q
 | .tup xs,.int i,Q=>ob (atI xs i) Q
 | .str z,.int i,Q=>z.length≤sizeLine∧ob (atI z.cps.toList i) fun c=>Q (.str ⟨#[c]⟩)
 | _,_,_=>False
theorem rl_ixP:RL2 K (rIx K) ixP:=by
 refine RL2.or2 rl_ixL (RL2.or2 rl_ixT rl_ixS (m:=fun x y Q=>match x,y with | .tup xs,.int i=>ob (atI xs i) Q | .str z,.int i=>z.length≤sizeLine∧ob (atI z.cps.toList i) fun c=>Q (.str ⟨#[c]⟩) | _,_=>False) ?_) ?_
 · intro x y Q h
   cases x<;>cases y<;>first | exact .inl h | exact .inr h | exact h.elim
 · intro x y Q h
   cases x<;>cases y<;>first | exact .inl h | exact .inr h | exact h.elim
theorem RLs.or2 {r r':V→Option Int→Option Int→Hp→VK→Prop} {q q' m:T→Option Int→Option Int→(T→Prop)→Prop} (h:RLs K r q) (h':RLs K r' q') (hm:∀x l u Q,m x l u Q→q x l u Q∨q' x l u Q):RLs K (fun x l u H Q=>r x l u H Q∨r' x l u H Q) m:=by
 intro c x lo hi Q3 hh Hb G A σ3 σ H vx Q R rx k
 rcases hm _ _ _ _ hh with hh | hh
 · exact .inl (h c x lo hi Q3 hh Hb G A σ3 σ H vx Q R rx k)
 · exact .inr (h' c x lo hi Q3 hh Hb G A σ3 σ H vx Q R rx k)
abbrev rSl (K:PySem.W.Frag):V→Option Int→Option Int→Hp→VK→Prop:=fun x l u H Q=>rSlL K x l u H Q∨(fun x l u H Q=>rSlF K x l u H Q∨rSlS x l u H Q) x l u H Q
theorem sl_P (h:X.K=K):SlR X (rSl K):=L2.SlR.or (sl_listK h) (L2.SlR.or (sl_tupK h) (sl_strK h))
def slP:T→Option Int→Option Int→(T→Prop)→Prop
 | .lst xs,l,u,Q=>Q (.lst (cut xs l u))
 | .tup xs,l,u,Q=>Q (.tup (cut xs l u))
 | .str z,l,u,Q=>z.length≤sizeLine∧Q (.str (cutS z l u))
 | _,_,_,_=>False
theorem rl_slP:RLs K (rSl K) slP:=by
 refine RLs.or2 rl_slL (RLs.or2 rl_slT rl_slS (m:=fun x l u Q=>match x with | .tup xs=>Q (.tup (cut xs l u)) | .str z=>z.length≤sizeLine∧Q (.str (cutS z l u)) | _=>False) ?_) ?_
 · intro x l u Q h
   cases x<;>first | exact .inl h | exact .inr h | exact h.elim
 · intro x l u Q h
   cases x<;>first | exact .inl h | exact .inr h | exact h.elim
abbrev rEq' (K:PySem.W.Frag):R2:=fun x y H Q=>rEq x y H Q∨rEqD K x y H Q
abbrev rNe' (K:PySem.W.Frag):R2:=fun x y H Q=>rNe x y H Q∨rNeD K x y H Q
theorem op_eqP (h:X.K=K) (hu:X.A.units+64<cLine):OpR X (compareOp .Eq) (rEq' K):=OpR.or op_eq (op_eqDK h hu)
theorem op_neP (h:X.K=K) (hu:X.A.units+64<cLine):OpR X (compareOp .NotEq) (rNe' K):=OpR.or op_ne (op_neDK h hu)
def isSeq:T→Bool
 | .lst _=>true
 | .tup _=>true
 | _=>false
def eqP (x y:T) (Q:T→Prop):Prop:=if (isSeq x||isSeq y)=true then eqD3 x y Q else eqS3 x y Q
def neP (x y:T) (Q:T→Prop):Prop:=if (isSeq x||isSeq y)=true then neD3 x y Q else neS3 x y Q
theorem rl_eqP:RL2 K (rEq' K) eqP:=by
 refine RL2.or2 rl_eqS rl_eqD fun x y Q h=> ?_
 unfold eqP at h
 split at h
 · exact .inr h
 · exact .inl h
theorem rl_neP:RL2 K (rNe' K) neP:=by
 refine RL2.or2 rl_neS rl_neD fun x y Q h=> ?_
 unfold neP at h
 split at h
 · exact .inr h
 · exact .inl h
end
section
variable {K:PySem.W.Frag} {c:Cf} {W:WX} {X:Cx}
def rIt (K:PySem.W.Frag) (x:V) (H:Hp) (R:It→Hp→Prop):Prop:=
 (∃a xs,x= .ref a∧SqL K H a xs∧R (Itl K a) H)∨(∃a xs,x= .ref a∧SqT K H a xs∧R (Itt K a) H)∨∃z,x= .str z∧R (Its z) H
def iP (K:PySem.W.Frag) (t:TE):TI:=fun σ H R=>t σ H fun x H'=>rIt K x H' R
theorem pi_P {tg e:Expr} {t:TE} (h:X.K=K) (he:PE X e t):PI X tg e (iP K t):=by
 subst h
 constructor
 intro pins s σ H R I hw
 refine thn (he.run pins s σ H _ I hw) ?_
 rintro v s1 ⟨x,H1,I1,r1,q1⟩
 have fp:∀b∈[s1.heap.objs.size],FpOk X pins H1 b:=by
  intro b hb
  cases List.mem_singleton.mp hb
  exact I1.fpOk (Nat.le_refl _) (I1.hok.fresh (Nat.le_refl _))
 rcases q1 with ⟨a,xs,rfl,hq,q⟩ | ⟨a,xs,rfl,hq,q⟩ | ⟨z,rfl,q⟩
 · cases r1
   obtain ⟨its,_,pl,_⟩:=I1.list hq
   exact wpAny_pyIter_list pl.isList ⟨_,[_],_,_,H1,rfl,I1.kept (t':=s1.toks) (fun _ _ e=>Heap.get?_push_of_some _ e),turn_list a _,⟨_,Heap.get?_push_size _ rfl,rfl,rfl⟩,fp,q⟩
 · cases r1
   obtain ⟨its,_,pl,_⟩:=I1.tuple hq
   exact wpAny_pyIter_tuple (show s1.heap.IsTuple a its.toArray from pl) ⟨_,[_],_,_,H1,rfl,I1.kept (t':=s1.toks) (fun _ _ e=>Heap.get?_push_of_some _ e),turn_tuple a _,⟨_,Heap.get?_push_size _ rfl,rfl,rfl⟩,fp,q⟩
 · obtain ⟨t,rfl⟩:=r1
   cases ha:z.cps.all (· <128)
   · exact wpAny_pyIter_wide ha (pi_one (tk:=s1.toks) I1 _ (turn_str _ z t "str_iterator" (.inr rfl)) ⟨_,Heap.get?_push_size _ rfl,rfl,rfl⟩ q)
   · exact wpAny_pyIter_ascii ha (pi_one (tk:=s1.toks) I1 _ (turn_str _ z t "str_ascii_iterator" (.inl rfl)) ⟨_,Heap.get?_push_size _ rfl,rfl,rfl⟩ q)
def chT (c:Nat):T:=.str ⟨#[c]⟩
def itemsP:T→Option (List T)
 | .lst xs=>some xs
 | .tup xs=>some xs
 | .str z=>some (z.cps.toList.map chT)
 | _=>none
def iterP (a:E3):A3:=fun σ Q X=>a σ (fun d=>ob (itemsP d) Q) X
theorem walks_str {V0:Hp} (z:Str):Walks K V0 (Its z) (z.cps.toList.map chT) where
 go:=fun i d S H hd e=>by
  have:=(List.getElem?_eq_some_iff.mp hd).1
  show i<z.cps.size
  simpa using this
 yld:=fun i d S H x H' hd e _ y=>by
  obtain ⟨rfl,c,hc,rfl⟩:=y
  rw [List.getElem?_map] at hd
  have hc':z.cps.toList[i]? =some c:=by simpa using hc
  rw [hc'] at hd
  cases hd
  exact ⟨.inl rfl,.inl (.str _)⟩
 stop:=fun S H e=>by
  show z.cps.size≤_
  simp
theorem lift_iP {ta:TE} {a:E3} (ha:Lift K c W ta a):LiftI K c W (iP K ta) (iterP a):=by
 intro σ3 Q3 X h Hb G A σ H R' R k e
 refine ha _ _ _ h Hb G A σ H _ R (fun v d H1 L1 r q=> ?_) e
 obtain ⟨xs,ex,q1⟩:=ob_iff.mp q
 cases d with
 | lst ys=>
   cases ex
   obtain ⟨p,vs,rfl,hp,rl⟩:=r.lstI
   exact .inl ⟨p,vs,rfl,SqL.of (hid_same _ _ hp),k _ _ H1 L1 (walks_list hp rl) q1⟩
 | tup ys=>
   cases ex
   obtain ⟨p,vs,rfl,hp,rl⟩:=r.tupI
   exact .inr (.inl ⟨p,vs,rfl,Same.sqT hid_same hp,k _ _ H1 L1 (walks_tup hp rl) q1⟩)
 | str z=>
   cases ex
   cases r.strI
   exact .inr (.inr ⟨z,rfl,k _ _ H1 L1 (walks_str z) q1⟩)
 | _=>cases ex
end
def sel {α:Type} (is:List Nat) (xs:List α):List α:=is.filterMap fun i=>xs[i]?
theorem vals_get:∀ {vs:List V} {us:List Value} {i:Nat},Vals vs us→(∃v u,vs[i]? =some v∧us[i]? =some u∧RelV v u)∨(vs[i]? =none∧us[i]? =none)
 | _,_,_,.nil=>.inr ⟨rfl,rfl⟩
 | _,_,0,.cons r _=>.inl ⟨_,_,rfl,rfl,r⟩
 | _,_,i+1,.cons _ q=>by simpa using vals_get (i:=i) q
theorem vals_sel:∀(is:List Nat) {vs:List V} {us:List Value},Vals vs us→Vals (sel is vs) (sel is us)
 | [],_,_,_=>.nil
 | i::is,vs,us,r=>by
   unfold sel
   rw [List.filterMap_cons,List.filterMap_cons]
   rcases vals_get (i:=i) r with ⟨v,u,e1,e2,q⟩ | ⟨e1,e2⟩
   · rw [e1,e2]
     exact .cons q (vals_sel is r)
   · rw [e1,e2]
     exact vals_sel is r
theorem repL_sel {K:PySem.W.Frag} {H:Hp}:∀(is:List Nat) {vs:List V} {ts:List T},RepL K H vs ts→RepL K H (sel is vs) (sel is ts)
 | [],_,_,_=>.nil
 | i::is,vs,ts,r=>by
   unfold sel
   rw [List.filterMap_cons,List.filterMap_cons]
   cases e:ts[i]? with
   | some t=>
     obtain ⟨v,e1,q⟩:=r.get e
     rw [e1]
     exact .cons q (repL_sel is r)
   | none=>
     have:vs[i]? =none:=by
      rw [List.getElem?_eq_none_iff] at e ⊢
      rw [r.length];exact e
     rw [this]
     exact repL_sel is r
end M3
namespace M3
open PySem L2
structure DefAt (K:PySem.W.Frag) (mg:Str→Option Value) (x qual:Str) (st:Stmt) (dts:List T) (kns:List Str) (kts:List T):Prop where
 ex:∃f fd dvs kvs,(∀H,RepL K H dvs dts)∧(∀H,RepL K H kvs kts)∧FunD K x qual (defArgs st) (defBody st) (defScope st) dvs (kns.zip kvs) f fd∧mg x=some (.ref f)
structure OkF (P:Program) (w:World) (K:PySem.W.Frag) (mg:Str→Option Value) (base:Heap) (CX:CXT) (x qual:Str) (st:Stmt) (dts:List T) (kns:List Str) (kts:List T) (lv:Nat) (ps:List Str) (sp:Sp):Prop where
 ex:∃f fd dvs kvs,(∀H,RepL K H dvs dts)∧(∀H,RepL K H kvs kts)∧FunD K x qual (defArgs st) (defBody st) (defScope st) dvs (kns.zip kvs) f fd∧mg x=some (.ref f)∧FnOk P w K mg base CX lv f fd ps sp
structure ClT (P:Program) (w:World) (K:PySem.W.Frag) (mg:Str→Option Value) (base:Heap) (CX:CXT) (x:Str) (k:Nat) (dts:List T) (sp:Sp):Prop where
 ex:∃dvs,(∀H,RepL K H dvs dts)∧Cl P w K mg base CX x k dvs sp
section
variable {P:Program} {w:World} {K:PySem.W.Frag} {mg:Str→Option Value} {base:Heap} {CX:CXT} {x qual:Str} {st:Stmt} {dts kts:List T} {kns:List Str} {lv:Nat} {ps:List Str} {sp:Sp}
theorem RepL.len0 {H:Hp} {vs:List V} (r:RepL K H vs []):vs=[]:=by cases r;rfl
theorem RepL.ne {vs:List V} {ts:List T} (r:∀H,RepL K H vs ts) (h:ts≠[]):vs≠[]:=fun e=>by
 subst e
 have:=(r (fun _=>none)).length
 cases ts with
 | nil=>exact h rfl
 | cons=>simp at this
theorem OkF.fun_ (O:OkF P w K mg base CX x qual st [] [] [] lv ps sp):∃f fd,Fun K x qual st f fd∧mg x=some (.ref f)∧FnOk P w K mg base CX lv f fd ps sp:=by
 obtain ⟨f,fd,dvs,kvs,rd,rk,F,hm,O⟩:=O.ex
 have e:=(rd (fun _=>none)).len0
 subst e
 obtain ⟨oc,od,dV,kV,doc,pm,an,cdv,ct,osl,e,lk,hcd,hD,hK⟩:=F.ex
 rcases hD with ⟨_,e2⟩ | ⟨z,_⟩
 · subst e2
   exact ⟨f,fd,⟨⟨oc,od,kV,doc,pm,an,cdv,ct,osl,e,lk,hcd⟩,F.kp⟩,hm,O⟩
 · exact absurd rfl z
theorem OkF.cl (O:OkF P w K mg base CX x qual st [] kns kts lv ps sp) (h:∀(kV doc pm:Value) (an:Option Addr) (cdv ct:Value) (us:List Value),us.length=ps.length→bindArgs (PySem.W.fnOf x qual (defArgs st) (defBody st) (defScope st) .none kV doc pm an cdv ct) ⟨us,[]⟩=pure (ps.zip us)):
 ClT P w K mg base CX x lv [] sp:=by
 obtain ⟨f,fd,dvs,kvs,rd,rk,F,hm,O⟩:=O.ex
 have e:=(rd (fun _=>none)).len0
 subst e
 exact ⟨[],fun _=>.nil,f,fd,ps,[],O,hm,F.kp,F.bindsN h,.nil⟩
theorem fnOk_no {k:Nat} {f:Addr} {fd:FuncData} (h:∀vs H Q E,¬sp vs H Q E):FnOk P w K mg base CX k f fd ps sp:=
 ⟨fun vs H Q E z=>(h vs H Q E z).elim,fun A outer s H args us vs Q E _ _ _ _ z=>(h vs H Q E z).elim⟩
def f0:F3:=fun _ _ _=>False
theorem DefAt.no (D:DefAt K mg x qual st dts kns kts) (n:Nat):OkF P w K mg base CX x qual st dts kns kts lv ps (sp3 K n f0):=by
 obtain ⟨f,fd,dvs,kvs,rd,rk,F,hm⟩:=D.ex
 exact ⟨f,fd,dvs,kvs,rd,rk,F,hm,fnOk_no fun vs H Q E z=>by
  obtain ⟨_,_,_,_,_,_,_,z,_⟩:=z
  exact z⟩
end
def no3:G3 (Option Int):=fun _ Q _=>Q none
end M3
namespace M3
open PySem L2
def TreeAt (K:PySem.W.Frag) (t:T) (u:Value):Prop:=∃v,RelV v u∧∀H,Rep K H v t
inductive TreesAt (K:PySem.W.Frag):List T→List Value→Prop where
 | nil:TreesAt K [] []
 | cons {t:T} {u:Value} {ts:List T} {us:List Value}:TreeAt K t u→TreesAt K ts us→TreesAt K (t::ts) (u::us)
theorem TreesAt.vals {K:PySem.W.Frag}:∀ {ts:List T} {us:List Value},TreesAt K ts us→∃vs,Vals vs us∧∀H,RepL K H vs ts
 | _,_,.nil=>⟨[],.nil,fun _=>.nil⟩
 | _,_,.cons ⟨v,h1,h2⟩ q=>by
   obtain ⟨vs,q1,q2⟩:=TreesAt.vals q
   exact ⟨v::vs,.cons h1 q1,fun H=>.cons (h2 H) (q2 H)⟩
theorem defAt_mk {K:PySem.W.Frag} {mg:Str→Option Value} {x qual:Str} {st:Stmt} {dts kts:List T} {kns:List Str} {f:Addr} {oc dV kV doc pm cdv ct:Value} {od an:Option Addr} {osl:Array (Option Value)} (hm:mg x=some (.ref f))
 (l:K.lookup f=some ⟨oc,od,.func (PySem.W.fnOf x qual (defArgs st) (defBody st) (defScope st) dV kV doc pm an cdv ct),osl⟩) (c:PySem.W.codeIn K cdv qual=true) (k:PySem.W.keepIn K (.ref f)=true)
 (hd:(dts=[]∧dV= .none)∨(dts≠[]∧∃(Ta:Addr) (o:Obj) (its:List Value) (n:Nat),dV= .ref Ta∧K.lookup Ta=some o∧o.data= .seq its.toArray n∧TreesAt K dts its))
 (hk:(kns=[]∧kts=[])∨∃(D:Addr) (us:List Value),kV= .ref D∧TreesAt K kts us∧kns.length=us.length∧∀q∈kns.zip us,PySem.W.nsIn K D q.1=some (some q.2)):DefAt K mg x qual st dts kns kts:=by
 obtain ⟨dvs,h1,h2⟩:∃dvs,(∀H,RepL K H dvs dts)∧DflV K dV dvs:=by
  rcases hd with ⟨rfl,rfl⟩ | ⟨hn,Ta,o,its,n,rfl,a1,a2,a3⟩
  · exact ⟨[],fun _=>.nil,.inl ⟨rfl,rfl⟩⟩
  · obtain ⟨vs,q1,q2⟩:=a3.vals
    exact ⟨vs,q2,.inr ⟨RepL.ne q2 hn,Ta,o,its,n,rfl,a1,a2,q1⟩⟩
 obtain ⟨kvs,h3,h4⟩:∃kvs,(∀H,RepL K H kvs kts)∧KwdV K kV (kns.zip kvs):=by
  rcases hk with ⟨rfl,rfl⟩ | ⟨D,us,rfl,a1,a2,a3⟩
  · exact ⟨[],fun _=>.nil,.inl rfl⟩
  · obtain ⟨vs,q1,q2⟩:=a1.vals
    refine ⟨vs,q2,.inr ⟨D,rfl,fun q hq=> ?_⟩⟩
    obtain ⟨i,hi⟩:=List.getElem?_of_mem hq
    obtain ⟨i1,i2⟩:=List.getElem?_zip_eq_some.mp hi
    rcases vals_get (i:=i) q1 with ⟨v,u,e1,e2,r⟩ | ⟨e1,_⟩
    · rw [i2] at e1
      cases e1
      refine ⟨u,a3 (q.1,u) (List.mem_of_getElem? (List.getElem?_zip_eq_some.mpr ⟨i1,e2⟩)),r⟩
    · rw [i2] at e1;cases e1
 exact ⟨f,_,dvs,kvs,h1,h3,⟨⟨oc,od,dV,kV,doc,pm,an,cdv,ct,osl,rfl,l,c,h2,h4⟩,k⟩,hm⟩
end M3
namespace M3
open PySem PySem.Spec PyProof.Rows L2
section
variable {X:Cx} {K:PySem.W.Frag}
theorem depth_of {d:PyData} (h:SeqAt.shaped d=true):d.depth≤64:=by
 have h:(d.canLay0&&decide (d.depth≤64))=true:=h
 rw [Bool.and_eq_true] at h
 exact of_decide_eq_true h.2
def rLtD (K:PySem.W.Frag):R2:=fun x y H Q=>∃d e,Dp K H x d∧Dp K H y e∧PySem.W.alike d e=true∧d≠ .none∧SeqAt.shaped d=true∧Q (.bl (PySem.W.dataLt d e)) H
theorem op_ltD (h:X.K=K) (hu:X.A.units+64<cLine):OpR X (compareOp .Lt) (rLtD K):=by
 subst h
 rintro pins s σ H x y v u Q I rx ry ⟨d,e,hd,he,ha,hn,sd,q⟩
 obtain ⟨as,r1⟩:=Dp.reads I d x v hd rx
 obtain ⟨bs,r2⟩:=Dp.reads I e y u he ry
 exact PySem.W.lt_data r1 r2 ha hn (by have:=depth_of sd;omega) ⟨.bl _,H,I,rfl,q⟩
def ltD3:T→T→(T→Prop)→Prop:=fun x y Q=>ob (dat x) fun d=>ob (dat y) fun e=>PySem.W.alike d e=true∧d≠ .none∧SeqAt.shaped d=true∧Q (.bl (PySem.W.dataLt d e))
theorem rl_ltD:RL2 K (rLtD K) ltD3:=by
 intro c x y Q3 hh Hb G A σ3 σ H vx vy Q R rx ry k
 obtain ⟨d,ed,h1⟩:=ob_iff.mp hh
 obtain ⟨e,ee,s1,s2,s3,q⟩:=ob_iff.mp h1
 exact ⟨d,e,dp_of hid_same _ _ _ rx ed,dp_of hid_same _ _ _ ry ee,s1,s2,s3,k _ _ H (Le.refl R.inv) (.bl _) q⟩
abbrev rLtP (K:PySem.W.Frag):R2:=fun x y H Q=>rI0 (fun i j=>.bl (decide (i<j))) x y H Q∨rLtD K x y H Q
theorem op_ltP (h:X.K=K) (hu:X.A.units+64<cLine):OpR X (compareOp .Lt) (rLtP K):=OpR.or op_lt (op_ltD h hu)
def ltP (x y:T) (Q:T→Prop):Prop:=match x,y with
 | .int i,.int j=>Q (.bl (decide (i<j)))
 | x,y=>ltD3 x y Q
theorem rl_ltP:RL2 K (rLtP K) ltP:=by
 refine RL2.or2 rl_lt rl_ltD fun x y Q h=> ?_
 cases x<;>cases y<;>first | exact .inl h | exact .inr h
def gtD3:T→T→(T→Prop)→Prop:=fun x y Q=>ob (dat x) fun d=>ob (dat y) fun e=>PySem.W.alike d e=true∧d≠ .none∧SeqAt.shaped d=true∧Q (.bl (PySem.W.dataLt e d))
def gtP (x y:T) (Q:T→Prop):Prop:=match x,y with
 | .int i,.int j=>Q (.bl (decide (j<i)))
 | x,y=>gtD3 x y Q
def leD3:T→T→(T→Prop)→Prop:=fun x y Q=>ob (dat x) fun d=>ob (dat y) fun e=>PySem.W.alike d e=true∧d≠ .none∧SeqAt.shaped d=true∧Q (.bl (!PySem.W.dataLt e d))
def leP (x y:T) (Q:T→Prop):Prop:=match x,y with
 | .int i,.int j=>Q (.bl (decide (i≤j)))
 | x,y=>leD3 x y Q
def geD3:T→T→(T→Prop)→Prop:=fun x y Q=>ob (dat x) fun d=>ob (dat y) fun e=>PySem.W.alike d e=true∧d≠ .none∧SeqAt.shaped d=true∧Q (.bl (!PySem.W.dataLt d e))
def geP (x y:T) (Q:T→Prop):Prop:=match x,y with
 | .int i,.int j=>Q (.bl (decide (j≤i)))
 | x,y=>geD3 x y Q
end
end M3
namespace M3
open PySem L2
def thaw (σ:List Sl) (i:Nat):List Sl:=match σ[i]? with | some (.own (.lst xs))=>σ.set i (.val (.lst xs)) | _=>σ
def isTup:T→Bool
 | .tup _=>true
 | .dic _=>true
 | .kd _ _=>true
 | _=>false
theorem addrs_one:∀ {B:List (Option Addr)} {i j:Nat} {p:Addr},(addrs B).Nodup→B[i]? =some (some p)→B[j]? =some (some p)→i=j
 | [],i,j,p,_,h,_=>by simp at h
 | b::B,0,0,p,_,_,_=>rfl
 | b::B,0,j+1,p,hN,h1,h2=>by
   simp at h1 h2
   subst h1
   exact absurd (mem_addrs.mpr (List.mem_of_getElem? h2)) (List.nodup_cons.mp (show (p::addrs B).Nodup from hN)).1
 | b::B,i+1,0,p,hN,h1,h2=>by
   simp at h1 h2
   subst h2
   exact absurd (mem_addrs.mpr (List.mem_of_getElem? h1)) (List.nodup_cons.mp (show (p::addrs B).Nodup from hN)).1
 | b::B,i+1,j+1,p,hN,h1,h2=>by
   simp at h1 h2
   have hN':(addrs B).Nodup:=by
    cases b with
    | none=>exact hN
    | some q=>exact (List.nodup_cons.mp (show (q::addrs B).Nodup from hN)).2
   rw [addrs_one hN' h1 h2]
theorem addrs_none {B:List (Option Addr)} {i:Nat} {p:Addr} (hN:(addrs B).Nodup) (h:B[i]? =some (some p)):p ∉ addrs (B.set i none):=fun z=>by
 obtain ⟨j,hj⟩:=List.getElem?_of_mem (mem_addrs.mp z)
 rcases getElem?_set_cases hj with ⟨_,e,_⟩ | ⟨e,hj2⟩
 · cases e
 · exact e (addrs_one hN h hj2)
section
variable {K:PySem.W.Frag} {c:Cf} {Hb H H':Hp} {G:List Addr} {A:List (Option Addr)} {σ3:List Sl} {σ:St}
theorem R3.ownGet (r:R3 K c Hb G A σ3 σ H) {i:Nat} {t:T} (h:σ3[i]? =some (.own t)):∃a,A[i]? =some (some a)∧σ[i]? =some (some (.ref a))∧OwnRep K (hid (c.S G A) H) H a t:=by
 have hl:i<σ3.length:=(List.getElem?_eq_some_iff.mp h).1
 have h1:i<A.length:=by rw [r.l1];exact hl
 have h2:i<σ.length:=by rw [r.l2];exact hl
 obtain ⟨a,e1,e2,q⟩:=r.at_ i _ _ _ h (List.getElem?_eq_getElem h1) (List.getElem?_eq_getElem h2)
 exact ⟨a,by rw [List.getElem?_eq_getElem h1,e1],by rw [List.getElem?_eq_getElem h2,e2],q⟩
theorem R3.freeze (r:R3 K c Hb G A σ3 σ H) {i:Nat} {t:T} (h:σ3[i]? =some (.own t)) (ht:isTup t=false):R3 K c Hb G (A.set i none) (σ3.set i (.val t)) σ H:=by
 obtain ⟨a,hA,hσ,q⟩:=r.ownGet h
 have sub:Same (hid (c.S G A) H) (hid (c.S G (A.set i none)) H):=hid_mono (S_sub addrs_set_sub)
 have ha:a∈addrs A:=mem_addrs.mpr (List.mem_of_getElem? hA)
 have na:a ∉ c.S G (A.set i none):=fun z=>by
  rcases mem_S.mp z with z | z | z
  · exact r.ns a ha (List.mem_append.mpr (.inl z))
  · exact r.ns a ha (List.mem_append.mpr (.inr z))
  · exact addrs_none r.nd hA z
 refine ⟨r.inv,Same.trans r.base sub,r.gk,r.gv,nodup_filterMap_set (A:=A) r.nd,fun b hb=>r.ns b (addrs_set_sub b hb),by rw [List.length_set,List.length_set,r.l1],by rw [List.length_set,r.l2], ?_⟩
 intro j s o x h1 h2 h3
 rcases getElem?_set_cases h1 with ⟨e,e1,_⟩ | ⟨e,e1⟩
 · subst e
   subst e1
   rcases getElem?_set_cases h2 with ⟨_,e2,_⟩ | ⟨e2,_⟩
   · subst e2
     rw [hσ] at h3
     cases h3
     refine ⟨rfl,_,rfl, ?_⟩
     cases t with
     | lst xs=>
       obtain ⟨vs,q1,q2⟩:=q
       exact .mkL (hid_mk q1 na) (q2.mono sub)
     | dic kvs=>cases ht
     | tup xs=>cases ht
     | kd w es=>cases ht
     | _=>exact q.elim
   · exact absurd rfl e2
 · rw [List.getElem?_set_ne e] at h2
   have z:=r.at_ j s o x e1 h2 h3
   cases s with
   | no=>exact z
   | val t=>obtain ⟨e,v,e2,q⟩:=z;exact ⟨e,v,e2,q.mono sub⟩
   | own t=>obtain ⟨a,e,e2,q⟩:=z;exact ⟨a,e,e2,q.mono sub rfl⟩
theorem R3.thaw (r:R3 K c Hb G A σ3 σ H) (i:Nat):∃A',R3 K c Hb G A' (M3.thaw σ3 i) σ H:=by
 unfold M3.thaw
 split
 · rename_i t h
   exact ⟨_,r.freeze h rfl⟩
 · exact ⟨_,r⟩
theorem R3.ownAsX (r:R3 K c Hb G A σ3 σ H) {i:Nat} {a:Addr} {t u:T} {o o':HO} (h:σ3[i]? =some (.own t)) (hA:A[i]? =some (some a)) (ha:H a=some o) (hx:∀b q,o≠LamX.CodeO b q) (q:OwnRep K (hid (c.S G A) H) (upd H a o') a u):
 R3 K c Hb G A (σ3.set i (.own u)) σ (upd H a o'):=by
 have hm:a∈addrs A:=mem_addrs.mpr (List.mem_of_getElem? hA)
 have hS:a∈c.S G A:=mem_S.mpr (.inr (.inr hm))
 have n0:∀b∈c.S0++G,b≠a:=fun b hb z=>r.ns a hm (by rw [←z];exact hb)
 refine ⟨c.st H _ (fun b hb=>by rw [upd_ne (n0 b (List.mem_append.mpr (.inl hb)))]) (fun b φ e=>by rw [upd_ne (ne_of e ha (fun z=>hx _ _ z.symm))];exact e) r.inv,by rw [hid_upd_in hS];exact r.base,fun b hb=> ?_,fun b hb o e=> ?_,r.nd,r.ns,by rw [List.length_set,r.l1],by rw [List.length_set,r.l2], ?_⟩
 · rw [upd_ne (n0 b (List.mem_append.mpr (.inr hb)))]
   exact r.gk b hb
 · rw [upd_ne (n0 b (List.mem_append.mpr (.inr hb)))] at e
   exact r.gv b hb o e
 · rw [hid_upd_in hS]
   intro j s o x h1 h2 h3
   rcases getElem?_set_cases h1 with ⟨e,e1,_⟩ | ⟨e,e1⟩
   · subst e
     subst e1
     rw [hA] at h2
     cases h2
     obtain ⟨b,hb,hσ,_⟩:=r.ownGet h
     rw [hA] at hb
     cases hb
     rw [hσ] at h3
     cases h3
     exact ⟨a,rfl,rfl,q⟩
   · have z:=r.at_ j s o x e1 h2 h3
     cases s with
     | no=>exact z
     | val t=>exact z
     | own t=>
       obtain ⟨b,e3,e4,q'⟩:=z
       subst e3
       have nb:b≠a:=fun z=>e (addrs_one r.nd hA (by rw [←z];exact h2))
       exact ⟨b,rfl,e4,q'.mono (Same.refl _) (upd_ne nb)⟩
theorem R3.ownAs (r:R3 K c Hb G A σ3 σ H) {i:Nat} {a:Addr} {t u:T} {o o':HO} (h:σ3[i]? =some (.own t)) (hA:A[i]? =some (some a)) (ha:H a=some o) (hx:∀φ,o≠ .ext φ) (q:OwnRep K (hid (c.S G A) H) (upd H a o') a u):
 R3 K c Hb G A (σ3.set i (.own u)) σ (upd H a o'):=r.ownAsX h hA ha (fun _ _=>hx _) q
structure FrD (K:PySem.W.Frag) (c:Cf) (G:List Addr) (A:List (Option Addr)) (H H':Hp) (D:Addr) (vs:List V) (ds:List T):Prop where
 nD:D ∉ c.S G A
 vis:Same (hid (c.S G A) H) (hid (D::c.S G A) H')
 own:∀a∈G++addrs A,H' a=H a
 inv:c.I H'
 at_:H' D=some (.lst vs)
 rep:RepL K (hid (D::c.S G A) H') vs ds
theorem FrD.le (f:FrD K c G A H H' D vs ds):Le c G A H H':=⟨Same.trans f.vis (hid_mono fun a h=>List.mem_cons_of_mem _ h),f.own,f.inv⟩
theorem R3.frD (r:R3 K c Hb G A σ3 σ H) {p:Addr} {vs:List V} {ds:List T} (h:H p=none) (q:RepL K (hid (c.S G A) H) vs ds):FrD K c G A H (upd H p (.lst vs)) p vs ds:=by
 have L:=r.new (o:=.lst vs) h
 have v:Same (hid (c.S G A) H) (hid (p::c.S G A) (upd H p (.lst vs))):=by
  rw [hid_upd_in (List.mem_cons_self ..)]
  intro a o e
  obtain ⟨e1,e2⟩:=hid_some e
  exact hid_mk e1 fun z=>by
   rcases List.mem_cons.mp z with z | z
   · rw [z,h] at e1;cases e1
   · exact e2 z
 exact ⟨r.free h,v,L.own,L.inv,upd_same,q.mono v⟩
end
def LiftFr (K:PySem.W.Frag) (c:Cf) (W:WX) (te:TE) (t:E3):Prop:=
 ∀σ3 Q3 X,t σ3 Q3 X→∀Hb G A σ H Q,R3 K c Hb G A σ3 σ H→
  (∀D vs ds H',FrD K c G A H H' D vs ds→Q3 (.lst ds)→Q (.ref D) H')→
  (∀cls dd x H',Le c G A H H'→XRep K (hid (c.S G A) H') cls dd x→X x→W cls dd σ H')→te σ H Q
section
variable {K:PySem.W.Frag} {c:Cf} {W:WX} {te:TE} {t e:E3} {i j:Nat}
theorem lift_frLst {ta:TA} {x:A3} (ha:LiftA K c W ta x):LiftFr K c W (tLst ta) (lst3 x):=by
 intro σ3 Q3 X h Hb G A σ H Q R k e
 refine ha _ _ _ h Hb G A σ H _ R (fun vs xs H1 L1 rx hx=> ?_) e
 refine ⟨by rw [rx.length];exact hx.1,fun p hp=> ?_⟩
 have f:=(R.le L1).frD hp rx
 exact k p vs xs _ ⟨f.nD,Same.trans L1.vis f.vis,fun a ha=>(f.own a ha).trans (L1.own a ha),f.inv,f.at_,f.rep⟩ hx.2
end
end M3
namespace M3
open PySem L2
def putF3 (f:Str) (v:T):List (Str×T)→List (Str×T)
 | []=>[(f,v)]
 | (g,x)::r=>if g=f then (g,v)::r else (g,x)::putF3 f v r
def asIns:T→Option (Addr×List (Str×T))
 | .ins C fs=>some (C,fs)
 | _=>none
abbrev selfT (x C:Addr) (fs:List (Str×T)):T:=.tup [.ref x,.ins C fs]
def ownI (σ:List Sl) (i:Nat):Option (Addr×Addr×List (Str×T)):=match σ[i]? with | some (.own (.tup [.ref x,.ins C fs]))=>some (x,C,fs) | _=>none
theorem ownI_is {σ:List Sl} {i:Nat} {x C:Addr} {fs:List (Str×T)} (h:ownI σ i=some (x,C,fs)):σ[i]? =some (.own (selfT x C fs)):=by
 unfold ownI at h
 split at h
 · cases h;assumption
 · cases h
theorem asIns_is {d:T} {C:Addr} {fs:List (Str×T)} (h:asIns d=some (C,fs)):d= .ins C fs:=by
 cases d<;>simp [asIns] at h
 obtain ⟨rfl,rfl⟩:=h
 rfl
def fld3 (cl:List Addr) (f:Str) (a:E3):E3:=fun σ Q X=>a σ (fun d=>ob (asIns d) fun p=>p.1∈cl∧ob (p.2.lookup f) Q) X
def setO3 (cl:List Addr) (i:Nat) (f:Str) (a:E3):S3:=fun N σ=>a σ (fun d=>ob (ownI σ i) fun p=>p.2.1∈cl∧p.2.2.length<1000∧N.nx (σ.set i (.own (selfT p.1 p.2.1 (putF3 f d p.2.2))))) (N.xn σ)
section
variable {K:PySem.W.Frag} {c:Cf} {W:WX} {ta:TE} {a:E3} {X:Cx}
theorem lookup_rep {H:Hp} {f:Str} {t:T}:∀ {fs:List (Str×V)} {ts:List (Str×T)},fs.map (·.1)=ts.map (·.1)→RepL K H (fs.map (·.2)) (ts.map (·.2))→ts.lookup f=some t→∃v,fs.lookup f=some v∧Rep K H v t
 | [],[],_,_,h=>by cases h
 | [],_::_,h,_,_=>by cases h
 | _::_,[],h,_,_=>by cases h
 | (g,v)::fs,(g',u)::ts,h,r,hl=>by
   have h1:g=g':=by injection h
   have h2:fs.map (·.1)=ts.map (·.1):=by injection h
   subst h1
   cases r with
   | cons r1 r2=>
     unfold List.lookup at hl ⊢
     split at hl
     · cases hl
       exact ⟨v,rfl,r1⟩
     · exact lookup_rep h2 r2 hl
theorem putF_rep {H:Hp} {f:Str} {v:V} {t:T} (q:Rep K H v t):∀ {fs:List (Str×V)} {ts:List (Str×T)},fs.map (·.1)=ts.map (·.1)→RepL K H (fs.map (·.2)) (ts.map (·.2))→(putF f v fs).map (·.1)=(putF3 f t ts).map (·.1)∧RepL K H ((putF f v fs).map (·.2)) ((putF3 f t ts).map (·.2))
 | [],[],_,_=>⟨rfl,.cons q .nil⟩
 | [],_::_,h,_=>by cases h
 | _::_,[],h,_=>by cases h
 | (g,x)::fs,(g',y)::ts,h,r=>by
   have h1:g=g':=by injection h
   have h2:fs.map (·.1)=ts.map (·.1):=by injection h
   subst h1
   cases r with
   | cons r1 r2=>
     obtain ⟨e1,e2⟩:=putF_rep q h2 r2
     unfold putF putF3
     split
     · exact ⟨by rw [List.map_cons,List.map_cons,h2],.cons q r2⟩
     · exact ⟨by rw [List.map_cons,List.map_cons,e1],.cons r1 e2⟩
theorem Rep.insI {H:Hp} {v:V} {C:Addr} {ts:List (Str×T)} (r:Rep K H v (.ins C ts)):∃a dx fs,v= .ref a∧H a=some (.ins C dx fs)∧fs.map (·.1)=ts.map (·.1)∧RepL K H (fs.map (·.2)) (ts.map (·.2)):=by
 cases r with
 | ins h hk hr=>
   refine ⟨_,_,_,rfl,h,hk,repL_mk ?_ hr⟩
   have:=congrArg List.length hk
   simpa using this
theorem pe_fldK {e:Expr} {f:Str} {pos:Pos} (h:X.K=K) (he:PE X e ta) (hb:attributeBase e f X.env (eval e X.env)=eval e X.env):PE X (.Attribute e f pos) (tFld K ta f):=h ▸ pe_fld he hb
theorem lift_fld {cl:List Addr} {f:Str} (hC:∀C∈cl,Cls K C∧NoAttr K C f) (ha:Lift K c W ta a):Lift K c W (tFld K ta f) (fld3 cl f a):=by
 intro σ3 Q3 X h Hb G A σ H Q R k e
 refine ha _ _ _ h Hb G A σ H _ R (fun v d H1 L1 r q=> ?_) e
 obtain ⟨⟨C,ts⟩,ed,hc,q1⟩:=ob_iff.mp q
 obtain ⟨t,et,q2⟩:=ob_iff.mp q1
 cases asIns_is ed
 obtain ⟨p,dx,fs,rfl,hp,hk,hr⟩:=r.insI
 obtain ⟨u,eu,ru⟩:=lookup_rep hk hr et
 exact ⟨p,C,dx,fs,u,rfl,hid_same _ _ hp,(hC C hc).1,(hC C hc).2,eu,k _ _ H1 L1 ru q2⟩
theorem lift_setO {cl:List Addr} {i:Nat} {f:Str} (hC:∀C∈cl,Cls K C∧NoAttr K C f) (ha:Lift K c W ta a):LiftS K c W (sFld K (tVar i) ta f) (setO3 cl i f a):=by
 intro N σ3 h Hb G A σ H D R Z
 refine ha _ _ _ h Hb G A σ H _ R (fun v d H1 L1 r q=> ?_) (fun cls dd x H' L r q=>Z.xn _ _ _ _ _ _ _ (R.le L) r q)
 obtain ⟨⟨x,C,ts⟩,ed,hc,hl,q1⟩:=ob_iff.mp q
 have R1:=R.le L1
 obtain ⟨p,hA,hσ,_,_,_,e0,e9,dx,fs,hp,hk,hr⟩:=R1.ownGet (ownI_is ed)
 cases e0
 obtain ⟨e1,e2⟩:=putF_rep (f:=f) r hk hr
 have ll:fs.length=ts.length:=by simpa using congrArg List.length hk
 exact ⟨_,hσ,p,C,dx,fs,rfl,hp,(hC C hc).1,(hC C hc).2,by rw [ll];exact hl,Z.nx _ _ _ _ (R1.ownAs (u:=selfT x C (putF3 f d ts)) (ownI_is ed) hA hp (fun φ z=>by cases z) ⟨x,C,_,rfl,e9,dx,_,upd_same,e1,e2⟩) q1⟩
theorem ps_fldK {o value:Expr} {f:Str} {pos pos':Pos} {to tv:TE} (h:X.K=K) (ha:PE X o to) (hv:PE X value tv) (hs:swapsWith value (some (.Attribute o f pos')) pos.line X.env=pure false):PS X (.Assign [.Attribute o f pos'] value pos) (sFld K to tv f):=h ▸ ps_fld ha hv hs
end
def spI (K:PySem.W.Frag) (n:Nat) (C:Addr) (f:F3):Sp:=fun vs H Q E=>∃S x dx ds vs',vs= .ref x::vs'∧ds.length+1=n∧x ∉ S∧H x=some (.ins C dx [])∧RepL K (hid (x::S) H) vs' ds∧(∀a∈S,H a≠none)∧∃Q3 X,f ds Q3 X∧
 (∀d H',Same (hid (x::S) H) (hid (x::S) H')→(∀a∈S,H' a=H a)→Rep K (hid S H') (.ref x) d→Q3 d→Q .non H')∧
 (∀cls dd xn H',Same (hid (x::S) H) (hid (x::S) H')→(∀a∈S,H' a=H a)→XRep K (hid S H') cls dd xn→X xn→E cls dd H')
theorem spI_len {K:PySem.W.Frag} {n:Nat} {C:Addr} {f:F3} {ps:List Str} (h:ps.length=n):∀vs H Q E,spI K n C f vs H Q E→vs.length=ps.length:=by
 intro vs H Q E h'
 obtain ⟨S,x,dx,ds,vs',rfl,hl,_,_,r,_⟩:=h'
 rw [List.length_cons,r.length,hl,h]
theorem bodyI {K:PySem.W.Frag} {n:Nat} {C:Addr} {f:F3} {N:List Str} {t:TS} {x3:S3} {W:WX} {vs:List V} {H:Hp} {Q:VK} {E:XK} (h:spI K n C f vs H Q E) (hN:0<N.length) (hW:∀cls dd σ H',E cls dd H'→W cls dd σ H')
 (lt:LiftS K cf0 W t x3) (hb:∀x ds Q3 X,ds.length+1=n→f ds Q3 X→x3 {nx:=fun σ=>ob (ownI σ 0) fun p=>p.1=x∧Q3 (.ins p.2.1 p.2.2),rt:=fun _=>False,xn:=fun _=>X} (Sl.own (selfT x C [])::(ds.map Sl.val++List.replicate (N.length-(ds.length+1)) Sl.no))):
 t {nx:=fun _ H'=>Q .non H',rt:=Q} (start N vs) H:=by
 obtain ⟨S,x,dx,ds,vs',rfl,hl,nx,hx,r,hS,Q3,X,hf,hq,he⟩:=h
 have ll:=r.length
 have R0:R3 K cf0 (out [x] H) S (some x::List.replicate (ds.length+(N.length-(ds.length+1))) none) (Sl.own (selfT x C [])::(ds.map Sl.val++List.replicate (N.length-(ds.length+1)) Sl.no)) (start N (.ref x::vs')) H:=by
  have hA:addrs (some x::List.replicate (ds.length+(N.length-(ds.length+1))) none)=[x]:=by
   unfold addrs
   rw [List.filterMap_cons]
   show x::_=_
   rw [List.filterMap_replicate_of_none rfl]
  have hSS:∀a,a∈cf0.S S (some x::List.replicate (ds.length+(N.length-(ds.length+1))) none)↔a∈x::S:=fun a=>by
   rw [mem_S,hA]
   show a∈[]∨_↔_
   simp [or_comm]
  have hh:hid (cf0.S S (some x::List.replicate (ds.length+(N.length-(ds.length+1))) none)) H=hid (x::S) H:=by
   funext a
   by_cases e:a∈x::S
   · rw [hid_in e,hid_in ((hSS a).mpr e)]
   · unfold hid
     rw [out_out e,out_out (fun z=>e ((hSS a).mp z))]
  refine ⟨trivial, ?_,fun a ha=>⟨by rw [out_out (fun z=>nx (by rw [←List.mem_singleton.mp z];exact ha))],hS a ha,fun z=>by cases z⟩,fun _ _ _ _=>trivial,by rw [hA];simp,fun a ha=> ?_,by simp,by rw [start_eq];simp [ll], ?_⟩
  · rw [hh]
    intro a o e
    obtain ⟨e1,e2,e3⟩:=hid_all e
    obtain ⟨e4,e5⟩:=out_some e1
    exact hid_mk e4 (fun z=>by
     rcases List.mem_cons.mp z with z | z
     · exact e5 (by rw [z];exact List.mem_singleton.mpr rfl)
     · exact e2 (by simpa [cf0] using z)) e3
  · rw [hA] at ha
    cases List.mem_singleton.mp ha
    show x ∉ []++S
    simpa using nx
  · rw [hh,start_eq]
    intro i s o y h1 h2 h3
    cases i with
    | zero=>
      simp at h1 h2 h3
      subst h1 h2 h3
      exact ⟨x,rfl,rfl,x,C,[],rfl,rfl,dx,[],hx,rfl,.nil⟩
    | succ i=>
      simp only [List.getElem?_cons_succ,List.map_cons,List.cons_append,List.length_cons] at h1 h2 h3
      have ho:o=none:=(List.mem_replicate.mp (List.mem_of_getElem? h2)).2
      subst ho
      by_cases hi:i<ds.length
      · rw [List.getElem?_append_left (by simpa using hi),List.getElem?_map] at h1
        rw [List.getElem?_append_left (by rw [List.length_map,ll];exact hi),List.getElem?_map] at h3
        cases e1:ds[i]? with
        | none=>rw [e1] at h1;cases h1
        | some d=>
          rw [e1] at h1
          cases h1
          obtain ⟨v,e2,rv⟩:=r.get e1
          rw [e2] at h3
          cases h3
          exact ⟨rfl,v,rfl,rv⟩
      · rw [List.getElem?_append_right (by simpa using hi)] at h1
        have hs:=(List.mem_replicate.mp (List.mem_of_getElem? h1)).2
        subst hs
        rfl
 have base:∀ {A':List (Option Addr)} {σ3':List Sl} {σ':St} {H':Hp},R3 K cf0 (out [x] H) S A' σ3' σ' H'→Same (hid (x::S) H) (hid (cf0.S S A') H'):=fun {A' σ3' σ' H'} R=>by
  refine Same.trans ?_ R.base
  intro a o e
  obtain ⟨e1,e2,e3⟩:=hid_all e
  exact hid_mk (by rw [out_out (fun z=>e2 (by rw [List.mem_singleton.mp z];exact List.mem_cons_self ..))];exact e1) (fun z=>e2 (List.mem_cons_of_mem _ (by simpa [cf0] using z))) e3
 have keepS:∀ {A':List (Option Addr)} {σ3':List Sl} {σ':St} {H':Hp},R3 K cf0 (out [x] H) S A' σ3' σ' H'→∀a∈S,H' a=H a:=fun R a ha=>by
  rw [(R.gk a ha).1,out_out (fun z=>nx (by rw [←List.mem_singleton.mp z];exact ha))]
 refine lt _ _ (hb x ds Q3 X hl hf) (out [x] H) S _ _ H _ R0 ⟨?_,fun _ _ _ _ z=>z.elim,fun _ _ _ _ _ z=>z.elim,fun _ _ _ _ _ z=>z.elim, ?_⟩
 · intro A' σ3' σ' H' R q
   obtain ⟨⟨x',C',fs⟩,ed,e1,q1⟩:=ob_iff.mp q
   have e1:x'=x:=e1
   subst e1
   obtain ⟨p,hA,hσ,_,_,_,e0,e9,dx',ks,hp,hk,hr⟩:=R.ownGet (ownI_is ed)
   cases e0
   subst e9
   have hS':∀a∈S,a∈cf0.S S A':=fun a ha=>mem_S.mpr (.inr (.inl ha))
   have hx':p∈cf0.S S A':=mem_S.mpr (.inr (.inr (mem_addrs.mpr (List.mem_of_getElem? hA))))
   refine hq (.ins C' fs) H' (Same.trans (base R) (hid_mono fun a ha=> ?_)) (keepS R) (.ins (hid_mk hp nx) hk fun i v t h1 h2=>((hr.mono (hid_mono hS')).at h1 h2)) q1
   rcases List.mem_cons.mp ha with z | z
   · rw [z];exact hx'
   · exact hS' a z
 · intro A' σ3' σ' H' cls dd xn R rx q
   have b:=base R
   have s1:Same (hid (x::S) H) (hid (x::S) H'):=fun a o e=>by
    obtain ⟨e1,e2,e3⟩:=hid_all e
    exact hid_mk (hid_some (b a o e)).1 e2 e3
   have mono:Same (hid (cf0.S S A') H') (hid S H'):=hid_mono fun a ha=>mem_S.mpr (.inr (.inl ha))
   refine hW _ _ _ _ (he cls dd xn H' s1 (keepS R) ?_ q)
   obtain ⟨r1,r2⟩:=rx
   refine ⟨r1, ?_⟩
   cases dd with
   | none=>exact r2
   | some d=>
     obtain ⟨fs,f1,f2,f3⟩:=r2
     exact ⟨fs,mono _ _ f1,f2,f3.mono mono⟩
def mkN30 (n:Nat) (f:F3) (g:List T→List T→List T) (m j:Nat) (x y:A3):E3:=fun σ Q X=>x σ (fun ds=>y σ (fun es=>ds.length=m∧es.length=j∧(g ds es).length+1=n∧f (g ds es) Q (fun _=>False)) X) X
section
variable {K:PySem.W.Frag} {c:Cf} {W:WX}
theorem spI_call {n:Nat} {C:Addr} {f:F3} {Hb H2:Hp} {G:List Addr} {A:List (Option Addr)} {σ3:List Sl} {σ:St} {vs:List V} {ds:List T} {Q:VK} {E:XK} {Q3:T→Prop} {X:X3} {x dx:Addr} (R:R3 K c Hb G A σ3 σ H2) (hx:H2 x=none) (hdx:H2 dx=none) (ne:dx≠x)
 (rx:RepL K (hid (c.S G A) H2) vs ds) (hl:ds.length+1=n) (hf:f ds Q3 X) (k:∀v d H',Le c G A H2 H'→Rep K (hid (c.S G A) H') v d→Q3 d→Q v H') (e:∀cls dd x H',Le c G A H2 H'→XRep K (hid (c.S G A) H') cls dd x→X x→E cls dd H'):
 spI K n C f (.ref x::vs) (upd (upd H2 dx (.own x)) x (.ins C dx [])) (fun v H3=>v= .non∧Q (.ref x) H3) E:=by
 have L1:=R.new (o:=.own x) hdx
 have R1:=R.le L1
 have hx1:(upd H2 dx (.own x)) x=none:=by rw [upd_ne ne.symm];exact hx
 have L2:=R1.new (o:=.ins C dx []) hx1
 have R2:=R1.le L2
 have L:=L1.trans L2
 have nx:x ∉ c.S G A:=R.free hx
 have v1:Same (hid (c.S G A) H2) (hid (x::c.S G A) (upd (upd H2 dx (.own x)) x (.ins C dx []))):=by
  rw [hid_upd_in (List.mem_cons_self ..)]
  intro a o z
  obtain ⟨z1,z2,z3⟩:=hid_all z
  exact hid_mk (by rw [upd_ne (ne_of_none z1 hdx)];exact z1) (fun y=>by
   rcases List.mem_cons.mp y with y | y
   · rw [y,hx] at z1;cases z1
   · exact z2 y) z3
 have le:∀H',Same (hid (x::c.S G A) (upd (upd H2 dx (.own x)) x (.ins C dx []))) (hid (x::c.S G A) H')→(∀a∈c.S G A,H' a=(upd (upd H2 dx (.own x)) x (.ins C dx [])) a)→Le c G A H2 H':=fun H' s1 s2=>by
  have keepA:∀a∈c.S G A,H' a=H2 a:=fun a ha=>by
   have n1:a≠x:=fun z=>nx (by rw [←z];exact ha)
   have n2:a≠dx:=fun z=>R.there ha (by rw [z];exact hdx)
   rw [s2 a ha,upd_ne n1,upd_ne n2]
  refine ⟨Same.trans v1 (Same.trans s1 (hid_mono fun a ha=>List.mem_cons_of_mem _ ha)),fun a ha=>keepA a (mem_S.mpr (by rcases List.mem_append.mp ha with z | z;exact .inr (.inl z);exact .inr (.inr z))), ?_⟩
  refine c.st H2 H' (fun a ha=>keepA a (mem_S.mpr (.inl ha))) (fun a φ z=> ?_) R.inv
  by_cases h:a∈c.S G A
  · rw [keepA a h];exact z
  · exact (hid_some ((Same.trans v1 s1) a _ (hid_mk z h))).1
 refine ⟨c.S G A,x,dx,ds,vs,rfl,hl,nx,upd_same,rx.mono v1,fun a ha=>R2.there ha,Q3,X,hf,fun d H' s1 s2 r q=>⟨rfl,k _ _ H' (le H' s1 s2) r q⟩,fun cls dd xn H' s1 s2 r q=>e cls dd xn H' (le H' s1 s2) r q⟩
theorem lift_mkN0 {n m j:Nat} {C:Addr} {f:F3} {E:XK} {t tk:TA} {x y:A3} {gV:List V→List V→List V} {g:List T→List T→List T} (hgV:∀v vs zs,∃ws,gV (v::vs) zs=v::ws)
 (hg:∀H a vs ds ws es zs,RepL K H vs ds→RepL K H ws es→ds.length=m→es.length=j→gV (.ref a::vs) ws= .ref a::zs→RepL K H zs (g ds es))
 (ha:LiftA K c W t x) (hb:LiftA K c W tk y):Lift K c W (tMakeK C m j (spI K n C f) gV E t tk) (mkN30 n f g m j x y):=by
 intro σ3 Q3 X h Hb G A σ H Q R k e
 refine ha _ _ _ h Hb G A σ H _ R (fun vs ds H1 L1 rx hx=> ?_) e
 refine hb _ _ _ hx Hb G A σ H1 _ (R.le L1) (fun ws es H2 L2 ry hy=> ?_) (fun cls dd x H' L=>e cls dd x H' (L1.trans L))
 obtain ⟨h1,h2,h3,h4⟩:=hy
 refine ⟨by rw [rx.length];exact h1,by rw [ry.length];exact h2,fun a dx na ndx ne=> ?_⟩
 obtain ⟨zs,ez⟩:=hgV (.ref a) vs ws
 rw [ez]
 exact spI_call ((R.le L1).le L2) na ndx ne (hg _ a _ _ _ _ zs (rx.mono L2.vis) ry h1 h2 ez) h3 h4 (fun v d H' L r q=>k v d H' ((L1.trans L2).trans L) r q) (fun cls dd x H' L r q=>q.elim)
end
end M3
namespace M3
open PySem PySem.Spec PyProof.Rows L2
end M3
namespace M3
open PySem L2
def txs:List T→Option (List Str)
 | []=>some []
 | .str x::r=>(txs r).map (x::·)
 | _=>none
@[simp] theorem strs_map:∀xs:List Str,txs (xs.map T.str)=some xs
 | []=>rfl
 | x::xs=>by show (txs (xs.map T.str)).map (x::·)=_;rw [strs_map xs];rfl
section
variable {K:PySem.W.Frag} {c:Cf} {W:WX} {ta:TE} {a:E3} {X:Cx}
def asCh:T→Option Nat
 | .str ⟨⟨[c]⟩⟩=>some c
 | _=>none
@[simp] theorem asCh_ch (c:Nat):asCh (.str ⟨#[c]⟩)=some c:=rfl
@[simp] theorem asCh_chT (c:Nat):asCh (chT c)=some c:=rfl
end
structure MkN (P:Program) (w:World) (K:PySem.W.Frag) (mg:Str→Option Value) (base:Heap) (CX:CXT) (x:Str) (C:Addr) (k n:Nat) (ks:List Str) (gV:List V→List V→List V) (sp:Sp):Prop where
 ex:∃(f:Addr) (fd:FuncData) (ps:List Str) (g:List Value→List Value→List Value),FnOk P w K mg base CX k f fd ps sp∧mg x=some (.ref C)∧Mk K C f∧KBn K fd ps (n+1) ks g gV
structure MethAt (K:PySem.W.Frag) (C:Addr) (m x qual:Str) (st:Stmt) (dts:List T) (kns:List Str) (kts:List T):Prop where
 ex:∃f fd dvs kvs,(∀H,RepL K H dvs dts)∧(∀H,RepL K H kvs kts)∧FunD K x qual (defArgs st) (defBody st) (defScope st) dvs (kns.zip kvs) f fd∧PySem.W.findIn K (.ref C) m=some (some (.ref f))
structure OkM (P:Program) (w:World) (K:PySem.W.Frag) (mg:Str→Option Value) (base:Heap) (CX:CXT) (C:Addr) (m x qual:Str) (st:Stmt) (dts:List T) (kns:List Str) (kts:List T) (lv:Nat) (ps:List Str) (sp:Sp):Prop where
 ex:∃f fd dvs kvs,(∀H,RepL K H dvs dts)∧(∀H,RepL K H kvs kts)∧FunD K x qual (defArgs st) (defBody st) (defScope st) dvs (kns.zip kvs) f fd∧PySem.W.findIn K (.ref C) m=some (some (.ref f))∧FnOk P w K mg base CX lv f fd ps sp
structure ClsAt (w:World) (K:PySem.W.Frag) (mg:Str→Option Value) (x:Str):Prop where
 g:mg x=some (.ref ((csOf w K mg).at_ x))
 cl:Cls K ((csOf w K mg).at_ x)
 mks:PySem.W.makesIn K ((csOf w K mg).at_ x)=true
 kp:PySem.W.keepIn K (.ref ((csOf w K mg).at_ x))=true
section
variable {P:Program} {w:World} {K:PySem.W.Frag} {mg:Str→Option Value} {base:Heap} {CX:CXT} {x qual:Str} {st:Stmt} {dts kts:List T} {kns:List Str} {lv:Nat} {ps:List Str} {sp:Sp} {cx:Str}
structure MkNT (P:Program) (w:World) (K:PySem.W.Frag) (mg:Str→Option Value) (base:Heap) (CX:CXT) (x:Str) (C:Addr) (k n:Nat) (ks:List Str) (is:List Nat) (mts:List T) (sp:Sp):Prop where
 ex:∃mvs,(∀H,RepL K H mvs mts)∧MkN P w K mg base CX x C k n ks (fun vs zs=>sel is (vs++(mvs++zs))) sp
end
theorem methAt_mk {K:PySem.W.Frag} {C:Addr} {m x qual:Str} {st:Stmt} {dts kts:List T} {kns:List Str} {f:Addr} {oc dV kV doc pm cdv ct:Value} {od an:Option Addr} {osl:Array (Option Value)} (hm:PySem.W.findIn K (.ref C) m=some (some (.ref f)))
 (l:K.lookup f=some ⟨oc,od,.func (PySem.W.fnOf x qual (defArgs st) (defBody st) (defScope st) dV kV doc pm an cdv ct),osl⟩) (c:PySem.W.codeIn K cdv qual=true) (k:PySem.W.keepIn K (.ref f)=true)
 (hd:(dts=[]∧dV= .none)∨(dts≠[]∧∃(Ta:Addr) (o:Obj) (its:List Value) (n:Nat),dV= .ref Ta∧K.lookup Ta=some o∧o.data= .seq its.toArray n∧TreesAt K dts its))
 (hk:(kns=[]∧kts=[])∨∃(D:Addr) (us:List Value),kV= .ref D∧TreesAt K kts us∧kns.length=us.length∧∀q∈kns.zip us,PySem.W.nsIn K D q.1=some (some q.2)):MethAt K C m x qual st dts kns kts:=by
 obtain ⟨f',fd,dvs,kvs,h1,h2,F,e⟩:=(defAt_mk (mg:=fun _=>some (.ref f)) (x:=x) rfl l c k hd hk).ex
 cases e
 exact ⟨_,fd,dvs,kvs,h1,h2,F,hm⟩
end M3
namespace M3
open PySem PySem.Spec PyProof.Rows L2
theorem R3.ext {K:PySem.W.Frag} {c:Cf} {Hb H H':Hp} {G:List Addr} {A:List (Option Addr)} {σ3:List Sl} {σ:L2.St} (r:R3 K c Hb G A σ3 σ H) (k:∀b o,H b=some o→H' b=some o):Le c G A H H' where
 vis:=fun a u e=>by
  obtain ⟨e1,e2⟩:=hid_some e
  exact hid_mk (k _ _ e1) e2
 own:=fun a ha=>by
  have hm:a∈c.S G A:=mem_S.mpr (by rcases List.mem_append.mp ha with z | z;exact .inr (.inl z);exact .inr (.inr z))
  cases e:H a with
  | none=>exact absurd e (r.there hm)
  | some o=>exact k _ _ e
 inv:=c.st H _ (fun a ha=>by
  have hm:a∈c.S G A:=mem_S.mpr (.inl ha)
  cases e:H a with
  | none=>exact absurd e (r.there hm)
  | some o=>exact k _ _ e) (fun a φ e=>k _ _ e) r.inv
inductive Kd where
 | l (a:Addr) | t (a:Addr) | s (x:Str)
def Kd.v:Kd→V
 | .l a=>.ref a
 | .t a=>.ref a
 | .s x=>.str x
def Kd.has (K:PySem.W.Frag) (H:Hp):Kd→List V→Prop
 | .l a,xs=>SqL K H a xs
 | .t a,xs=>SqT K H a xs
 | .s x,xs=>xs=x.cps.toList.map fun c=>V.str ⟨#[c]⟩
def Kd.tn (j:Addr) (i:Nat) (h:Heap):Kd→Prop
 | .l a=>h.IsListIter j a i
 | .t a=>h.IsTupleIter j a i
 | .s x=>∃t,h.IsStrIter j (strIterType x) x t i
def Kd.ne (j:Addr):Kd→Prop
 | .l a=>a≠j
 | .t a=>a≠j
 | .s _=>True
section
variable {X:Cx} {pins:List (Addr×Obj)} {σ:L2.St} {H:Hp} {s:Shared} {j:Addr} {i:Nat} {xs:List V}
theorem Kd.keep {h h':Heap} (k:Kd) (tn:k.tn j i h) (kp:∀o,h.get? j=some o→h'.get? j=some o):k.tn j i h':=by
 cases k with
 | l a=>exact Heap.IsListIter.at tn kp
 | t a=>exact Heap.IsTupleIter.at tn kp
 | s x=>
   obtain ⟨t,o,ho,r⟩:=tn
   exact ⟨t,o,kp o ho,r⟩
theorem Kd.obj {h:Heap} (k:Kd) (tn:k.tn j i h):∃o,h.get? j=some o∧∀v,o.data≠ .cell v:=by
 cases k with
 | l a=>
   obtain ⟨o,e,_,d⟩:=tn
   exact ⟨o,e,fun v q=>by rw [d] at q;cases q⟩
 | t a=>
   obtain ⟨o,e,_,d⟩:=tn
   exact ⟨o,e,fun v q=>by rw [d] at q;cases q⟩
 | s x=>
   obtain ⟨t,o,e,_,d⟩:=tn
   exact ⟨o,e,fun v q=>by rw [d] at q;cases q⟩
end
theorem Kd.inj {X:Cx} {pins:List (Addr×Obj)} {σ:L2.St} {H:Hp} {s:Shared} (I:Inv X pins σ H s) {xs ys:List V} (k:Kd) (h:k.has X.K H xs) (h':k.has X.K H ys):xs=ys:=by
 cases k with
 | l a=>exact I.list_inj h h'
 | t a=>exact I.tuple_inj h h'
 | s x=>exact h.trans h'.symm
section
variable {K:PySem.W.Frag} {c:Cf} {W:WX}
theorem Rep.kd {S:List Addr} {H:Hp} {v:V} {t:T} {ds:List T} (r:Rep K (hid S H) v t) (h:itemsP t=some ds):∃k vs,v=Kd.v k∧RepL K (hid S H) vs ds∧∀S' H',Same (hid S H) (hid S' H')→k.has K H' vs:=by
 cases t with
 | lst xs=>
   obtain ⟨a,vs,rfl,h1,h2⟩:=r.lstI
   cases h
   exact ⟨.l a,vs,rfl,h2,fun S' H' e=>SqL.of (hid_same _ _ (e _ _ h1))⟩
 | tup xs=>
   obtain ⟨a,vs,rfl,h1,h2⟩:=r.tupI
   cases h
   exact ⟨.t a,vs,rfl,h2,fun S' H' e=>Same.sqT hid_same (Same.sqT e h1)⟩
 | str z=>
   cases r.strI
   cases h
   refine ⟨.s z,z.cps.toList.map fun c=>V.str ⟨#[c]⟩,rfl, ?_,fun _ _ _=>rfl⟩
   have:∀l:List Nat,RepL K (hid S H) (l.map fun c=>V.str ⟨#[c]⟩) (l.map chT):=fun l=>by
    induction l with
    | nil=>exact .nil
    | cons c l ih=>exact .cons (.str _) ih
   exact this _
 | _=>cases h
end
end M3
namespace M3
open PySem L2
end M3
namespace M3
open PySem PySem.Spec PyProof.Rows L2
inductive DEnts (K:PySem.W.Frag) (P:Params):List (Str×T)→List DictEntry→Prop
 | nil:DEnts K P [] []
 | cons {x:Str} {t:Tok} {tr:T} {v:Value} {r:List (Str×T)} {es:List DictEntry} (h:TreeAt K tr v) (q:DEnts K P r es):DEnts K P ((x,tr)::r) (⟨PyData.keyHash P x,.str x t,v⟩::es)
def Look (K:PySem.W.Frag) (es:List DictEntry) (z:Str):Option T→Prop
 | some tr=>∃e,es.find? (·.key.isStr z)=some e∧TreeAt K tr e.val
 | none=>es.find? (·.key.isStr z)=none
theorem DEnts.look {K:PySem.W.Frag} {P:Params} {z:Str}:∀ {kts:List (Str×T)} {es:List DictEntry},DEnts K P kts es→Look K es z (kts.lookup z)
 | _,_,.nil=>rfl
 | _,_, @DEnts.cons _ _ x t tr v r es h q=>by
   have ih:=q.look (z:=z)
   by_cases e:z=x
   · subst e
     have l1:((z,tr)::r).lookup z=some tr:=by simp [List.lookup]
     rw [l1]
     exact ⟨_,by rw [List.find?_cons_of_pos];simp [Value.isStr],h⟩
   · have l1:((x,tr)::r).lookup z=r.lookup z:=by
      have e':(z==x)=false:=by simpa using e
      simp [List.lookup,e']
     have n1:∀w':Value,(⟨PyData.keyHash P x,.str x t,w'⟩:DictEntry).key.isStr z=false:=fun w'=>by
      show (Value.str x t).isStr z=false
      simp [Value.isStr]
      exact fun y=>e y.symm
     rw [l1]
     have f1:(⟨PyData.keyHash P x,.str x t,v⟩::es).find? (·.key.isStr z)=es.find? (·.key.isStr z):=by rw [List.find?_cons_of_neg];simpa using n1 v
     revert ih
     cases r.lookup z with
     | none=>intro ih;exact f1.trans ih
     | some tr'=>intro ⟨e',h1,h2⟩;exact ⟨e',f1.trans h1,h2⟩
section
variable {K:PySem.W.Frag} {c:Cf} {W:WX} {ta tb te:TE} {a b e:E3} {d:Addr} {kts:List (Str×T)} {neg:Bool}
def dvs (l:List (Str×V)):List (Key×V):=l.map fun p=>(.inr p.1,p.2)
inductive CRep (K:PySem.W.Frag):List (Str×V)→List (Str×T)→Prop
 | nil:CRep K [] []
 | cons {x:Str} {v:V} {t:T} {l:List (Str×V)} {m:List (Str×T)} (h:∀H,Rep K H v t) (q:CRep K l m):CRep K ((x,v)::l) ((x,t)::m)
theorem CRep.look {z:Str} {dv:V} {dt:T} (hd:∀H,Rep K H dv dt):∀ {l:List (Str×V)} {m:List (Str×T)},CRep K l m→∀H,Rep K H ((l.lookup z).getD dv) ((m.lookup z).getD dt)
 | _,_,.nil=>hd
 | _,_, @CRep.cons _ x v t l m h q=>fun H=>by
   by_cases e:z=x
   · subst e
     simpa [List.lookup] using h H
   · have e':(z==x)=false:=by simpa using e
     simpa [List.lookup,e'] using q.look hd H
end
end M3
namespace M3
open PySem PySem.Spec PyProof.Rows L2
end M3
namespace M3
open PySem PySem.Spec PyProof.Rows L2
end M3
namespace M3
open PySem PySem.Spec L2
end M3
namespace M3
open PySem PySem.Spec PyProof.Rows L2
end M3
namespace M3
open PySem PySem.Spec PyProof.Rows L2 LamX
structure LamD (N:List Str) (sc scope:Scope) (b:Str):Prop where
 kind:scope.kind= .function
 co:scope.isCoroutine=false
 gen:scope.isGenerator=false
 own:∀y∈scope.names,(y.2= .local→y.1=b)∧y.2≠ .cell
 nb:b ∉ N
 lb:scope.names.lookup b=some .local
 free:∀y∈scope.names,y.2= .free→sc.names.lookup y.1=some .cell∨sc.names.lookup y.1=some .free
theorem LamD.has {X:Cx} {N:List Str} {scope:Scope} {b:Str} (L:LamD N X.env.scope scope b) (ok:X.Ok):∀y∈scope.names,y.2= .free→∃c,X.env.cells.lookup y.1=some c:=fun y hy e=>by
 rcases L.free y hy e with k | k
 · exact ok.has _ (.inl k)
 · exact ok.has _ (.inr k)
end M3
namespace PySem
end PySem
namespace L2
open PySem PySem.Spec PyProof.Rows
end L2
namespace L2
open PySem PySem.Spec PyProof.Rows
end L2
set_option maxHeartbeats 200000
namespace L2
open PySem PySem.Spec PyProof.Rows
def mrgK (kvs more:List (Key×V)):List (Key×V):=more.foldl (fun m kv=>putK m kv.1 kv.2) kvs
abbrev PrsV (K:PySem.W.Frag) (H:Hp):List Addr→List (Key×V)→Prop:=Paired fun t kv=>SqT K H t [kV kv.1,kv.2]
theorem kv_merge:∀ {more:List (Key×V)} {more':List (Key×Value)} {kvs:List (Key×V)} {vs:List (Key×Value)},KV more more'→KV kvs vs→KV (mrgK kvs more) (merged vs more')
 | [],_,_,_,.nil,r=>r
 | p::more,_,_,_,.cons h t,r=>by
   rename_i q more'
   show KV (mrgK (putK _ p.1 p.2) more) (merged (stored _ q.1 q.2) more')
   rw [←h.1]
   exact kv_merge t (r.put p.1 h.2)
section
variable {X:Cx} {K:PySem.W.Frag}
theorem prs_build {pins:List (Addr×Obj)} {s:Shared} {σ:St} {H:Hp} (I:Inv X pins σ H s):∀ {ts:List Addr} {kvs:List (Key×V)},PrsV X.K H ts kvs→∃(ps:List (Value×Value)) (kvs':List (Key×Value)),ps.length=ts.length∧KV kvs kvs'∧kvs'.length=ps.length∧
 (∀(j:Nat) (k v:Value),ps[j]? =some (k,v)→PairAt s.heap (ts.getD j 0) k v)∧(∀(j:Nat) (k v:Value),ps[j]? =some (k,v)→∃key:Key,kvs'[j]? =some (key,v)∧(mixKind X.prog X.w).is key k=true):=by
 intro ts kvs hp
 induction hp with
 | nil=>exact ⟨[],[],rfl,Paired.nil,rfl,fun j k v h=>absurd h (by simp),fun j k v h=>absurd h (by simp)⟩
 | cons h r ih=>
   rename_i t kv ts kvs
   obtain ⟨ps,kvs',l1,r1,l2,h1,h2⟩:=ih
   obtain ⟨its,rv,it,_⟩:=I.tuple h
   cases rv with
   | cons rk r'=>
     rename_i uk us
     cases r' with
     | cons rv r''=>
       rename_i uv us
       cases r'' with
       | nil=>
         refine ⟨(uk,uv)::ps,(kv.1,uv)::kvs',by simp [l1],Paired.cons ⟨rfl,rv⟩ r1,by simp [l2], ?_, ?_⟩
         · intro j k v e
           cases j with
           | zero=>
             have e:(uk,uv)=(k,v):=by simpa using e
             cases e
             exact Or.inl it
           | succ j=>exact h1 j k v (by simpa using e)
         · intro j k v e
           cases j with
           | zero=>
             have e:(uk,uv)=(k,v):=by simpa using e
             cases e
             exact ⟨kv.1,rfl,kV_is rk⟩
           | succ j=>exact h2 j k v (by simpa using e)
theorem vals_refs:∀ {ts:List Addr} {its:List Value},Vals (ts.map V.ref) its→its=ts.map Value.ref
 | [],_,.nil=>rfl
 | t::ts,_,.cons h r=>by
   cases h
   rw [vals_refs r]
   rfl
def rDictL (K:PySem.W.Frag) (xs:List V) (H:Hp) (Q:VK):Prop:=∃p ts kvs,xs=[.ref p]∧SqL K H p (ts.map V.ref)∧PrsV K H ts kvs∧∀l o,H l=none→Q (.ref l) (upd H l (.frz o (.dK (mrgK [] kvs))))
theorem call_dictL (h:X.K=K) (hc:X.calm=true):CallR X (.type "dict") (rDictL K):=by
 subst h
 intro pins s σ H xs us Q I r h
 obtain ⟨p,ts,kvs,rfl,hq,hp,q⟩:=h
 obtain ⟨u,rfl,rx⟩:=vals1 r
 cases rx
 obtain ⟨its,rv,pl,hz⟩:=I.list hq
 cases vals_refs rv
 obtain ⟨ps,kvs',l1,r1,l2,h1,h2⟩:=prs_build I hp
 have lz:ps.length≤sizeLine:=by rw [l1];simpa using hz
 have PI:=PairArg.list (prog:=X.prog) (w:=X.w) p (ts.map Value.ref).toArray (fun j=>ts.getD j 0) ps
 have ok:PlainSeq "list" s.heap p (ts.map Value.ref).toArray∧PairItems s.heap (ts.map Value.ref).toArray (fun j=>ts.getD j 0) ps:=by
  refine ⟨?_,by simp [l1],fun j k v e=>⟨?_,h1 j k v e⟩⟩
  · obtain ⟨o,n,e,c,d,dd⟩:=pl
    exact ⟨o,n,e,c,d,dd⟩
  · have hj:j<ts.length:=by rw [←l1];exact (List.getElem?_eq_some_iff.mp e).1
    simp [List.getElem?_eq_getElem hj]
 refine PySem.call_dict_pairs (knd:=mixKind X.prog X.w) (kvs:=kvs') PI (I.ok.hd hc) ok ⟨l2,h2⟩ lz fun h' tk dd hk=> ?_
 have fr:H s.heap.objs.size=none:=I.hok.fresh (Nat.le_refl _)
 have km:=kv_merge r1 (.nil:KV ([]:List (Key×V)) [])
 obtain ⟨oD,es,ep,eD,rD⟩:=dd
 refine ⟨.ref s.heap.objs.size,_,I.laid (o:=.frz oD (.dK (mrgK [] kvs))) (t':=tk) (fun b o e=>hk b o (by simp) e) (Nat.le_refl _) ⟨eD,dk_new ?_ ?_ km ⟨oD,es,ep,eD,rD⟩⟩,rfl,q _ oD fr⟩
 · rw [km.length]
   have:=merged_length ([]:List (Key×Value)) kvs'
   simp only [List.length_nil] at this
   omega
 · have:=I.big
   exact beq_eq_false_iff_ne.mpr fun e=>by rw [e] at this;exact Nat.lt_irrefl _ this
end
end L2
set_option maxHeartbeats 1000000
namespace M3
open PySem PySem.Spec L2
def valT (ts:List (Key×T)) (k:Key):Option T:=(ts.find? fun kv=>decide (kv.1=k)).map (·.2)
def putT (ts:List (Key×T)) (k:Key) (v:T):List (Key×T):=
 if (ts.any fun kv=>decide (kv.1=k))=true then ts.map (fun kv=>if kv.1=k then (kv.1,v) else kv) else ts++[(k,v)]
def mrgT (ts more:List (Key×T)):List (Key×T):=more.foldl (fun m kv=>putT m kv.1 kv.2) ts
def asK:T→Option Key
 | .str z=>some (.inr z)
 | .int i=>some (.inl i)
 | _=>none
def prs:List T→Option (List (Key×T))
 | []=>some []
 | .tup [.str z,v]::r=>(prs r).map ((.inr z,v)::·)
 | _=>none
section
variable {K:PySem.W.Frag} {H:Hp}
abbrev RepD (K:PySem.W.Frag) (H:Hp):List (Key×V)→List (Key×T)→Prop:=Paired fun p q=>p.1=q.1∧Rep K H p.2 q.2
theorem RepD.any {kvs:List (Key×V)} {ts:List (Key×T)} (r:RepD K H kvs ts) (k:Key):(kvs.any fun kv=>decide (kv.1=k))=ts.any fun kv=>decide (kv.1=k):=by
 induction r with
 | nil=>rfl
 | cons h _ ih=>simp only [List.any_cons,ih,h.1]
theorem RepD.app {kvs kvs':List (Key×V)} {ts ts':List (Key×T)} (r:RepD K H kvs ts) (r':RepD K H kvs' ts'):RepD K H (kvs++kvs') (ts++ts'):=by
 induction r with
 | nil=>exact r'
 | cons h _ ih=>exact .cons h ih
theorem RepD.repl {kvs:List (Key×V)} {ts:List (Key×T)} (r:RepD K H kvs ts) (k:Key) {v:V} {t:T} (rv:Rep K H v t):RepD K H (kvs.map fun kv=>if kv.1=k then (kv.1,v) else kv) (ts.map fun kv=>if kv.1=k then (kv.1,t) else kv):=by
 induction r with
 | nil=>exact .nil
 | cons h _ ih=>
   rename_i p q _ _ _
   refine .cons ?_ ih
   dsimp only
   by_cases e:p.1=k
   · have e':q.1=k:=h.1 ▸ e
     rw [if_pos e,if_pos e']
     exact ⟨h.1,rv⟩
   · have e':¬q.1=k:=h.1 ▸ e
     rw [if_neg e,if_neg e']
     exact h
theorem RepD.put {kvs:List (Key×V)} {ts:List (Key×T)} (r:RepD K H kvs ts) (k:Key) {v:V} {t:T} (rv:Rep K H v t):RepD K H (putK kvs k v) (putT ts k t):=by
 unfold putK putT
 rw [r.any k]
 split
 · exact r.repl k rv
 · exact r.app (.cons ⟨rfl,rv⟩ .nil)
theorem RepD.mrg {more:List (Key×V)} {more':List (Key×T)} (m:RepD K H more more'):∀ {kvs:List (Key×V)} {ts:List (Key×T)},RepD K H kvs ts→RepD K H (mrgK kvs more) (mrgT ts more'):=by
 induction m with
 | nil=>exact fun r=>r
 | cons h _ ih=>
   intro kvs ts r
   rename_i p q more more' _
   show RepD K H (mrgK (putK kvs p.1 p.2) more) (mrgT (putT ts q.1 q.2) more')
   rw [←h.1]
   exact ih (r.put p.1 h.2)
theorem RepD.val {kvs:List (Key×V)} {ts:List (Key×T)} (r:RepD K H kvs ts) {k:Key} {t:T} (h:valT ts k=some t):∃v,valV kvs k=some v∧Rep K H v t:=by
 induction r with
 | nil=>simp [valT] at h
 | cons e _ ih=>
   rename_i p q kvs ts _
   by_cases c:q.1=k
   · have:q.2=t:=by simpa [valT,List.find?_cons,c] using h
     subst this
     exact ⟨p.2,valV_pos (e.1.trans c),e.2⟩
   · have h':valT ts k=some t:=by simpa [valT,List.find?_cons,c] using h
     obtain ⟨v,hv,rv⟩:=ih h'
     exact ⟨v,by rw [valV_neg (fun z=>c (e.1.symm.trans z))];exact hv,rv⟩
theorem RepD.mono {H':Hp} {kvs:List (Key×V)} {ts:List (Key×T)} (r:RepD K H kvs ts) (e:Same H H'):RepD K H' kvs ts:=by
 induction r with
 | nil=>exact .nil
 | cons h _ ih=>exact .cons ⟨h.1,h.2.mono e⟩ ih
theorem repD_mk:∀ {kvs:List (Key×V)} {ts:List (Key×T)},kvs.map (·.1)=ts.map (·.1)→(∀(i:Nat) v t,(kvs.map (·.2))[i]? =some v→(ts.map (·.2))[i]? =some t→Rep K H v t)→RepD K H kvs ts
 | [],[],_,_=>.nil
 | p::kvs,q::ts,h1,h2=>by
   simp only [List.map_cons,List.cons.injEq] at h1
   exact .cons ⟨h1.1,h2 0 _ _ rfl rfl⟩ (repD_mk h1.2 fun i v t a b=>h2 (i+1) v t (by simpa using a) (by simpa using b))
 | [],_::_,h,_=>by simp at h
 | _::_,[],h,_=>by simp at h
theorem RepD.keys {kvs:List (Key×V)} {ts:List (Key×T)} (r:RepD K H kvs ts):kvs.map (·.1)=ts.map (·.1):=by
 induction r with
 | nil=>rfl
 | cons h _ ih=>simp only [List.map_cons,ih,h.1]
theorem RepD.at {kvs:List (Key×V)} {ts:List (Key×T)} (r:RepD K H kvs ts):∀(i:Nat) v t,(kvs.map (·.2))[i]? =some v→(ts.map (·.2))[i]? =some t→Rep K H v t:=by
 induction r with
 | nil=>intro i v t h;simp at h
 | cons h _ ih=>
   rename_i p q _ _ _
   intro i v t a b
   cases i with
   | zero=>
     have a:p.2=v:=by simpa using a
     have b:q.2=t:=by simpa using b
     subst a b
     exact h.2
   | succ i=>exact ih i v t (by simpa using a) (by simpa using b)
theorem Rep.dicI {v:V} {ts:List (Key×T)} (r:Rep K H v (.dic ts)):∃a o kvs,v= .ref a∧H a=some (.frz o (.dK kvs))∧RepD K H kvs ts:=by
 cases r with
 | dic h hk hr=>exact ⟨_,_,_,rfl,h.choose_spec,repD_mk hk hr⟩
theorem Rep.mkD {a:Addr} {o:Obj} {kvs:List (Key×V)} {ts:List (Key×T)} (h:H a=some (.frz o (.dK kvs))) (r:RepD K H kvs ts):Rep K H (.ref a) (.dic ts):=.dic ⟨o,h⟩ r.keys r.at
theorem prs_rep {vs:List V}:∀ {ds:List T} {ts:List (Key×T)},RepL K H vs ds→prs ds=some ts→∃(as:List Addr) (kvs:List (Key×V)),vs=as.map V.ref∧PrsV K H as kvs∧RepD K H kvs ts:=by
 intro ds ts r
 induction r generalizing ts with
 | nil=>
   intro h
   cases h
   exact ⟨[],[],rfl,.nil,.nil⟩
 | cons h _ ih=>
   intro hp
   unfold prs at hp
   split at hp
   · rename_i heq;cases heq
   · rename_i z v r heq
     cases heq
     obtain ⟨ts',e1,rfl⟩:=Option.map_eq_some_iff.mp hp
     obtain ⟨as,kvs,rfl,p1,p2⟩:=ih e1
     obtain ⟨a,us,rfl,hs,rl⟩:=h.tupI
     cases rl with
     | cons r1 rl=>
       cases rl with
       | cons r2 rl=>
         cases rl with
         | nil=>
           rename_i u1 u2
           cases r1.strI
           exact ⟨a::as,(.inr z,u2)::kvs,rfl,.cons hs p1,.cons ⟨rfl,r2⟩ p2⟩
   · cases hp
def dict3:List T→(T→Prop)→Prop:=fun xs Q=>ob (one xs) fun x=>ob (asL x) fun ds=>ob (prs ds) fun ts=>Q (.dic (mrgT [] ts))
theorem rl_dict:RLn K (rDictL K) dict3:=by
 intro c xs Q3 hh Hb G A σ3 σ H vs Q R rx k
 obtain ⟨x,ex,hh1⟩:=ob_iff.mp hh
 obtain ⟨ds,ed,hh2⟩:=ob_iff.mp hh1
 obtain ⟨ts,ep,q⟩:=ob_iff.mp hh2
 cases one_is ex
 cases asL_is ed
 obtain ⟨v,rfl,r⟩:=repL_one rx
 obtain ⟨a,vs,rfl,ha,rl⟩:=r.lstI
 obtain ⟨as,kvs,rfl,p1,p2⟩:=prs_rep rl ep
 have p1':PrsV K H as kvs:=by
  clear p2 ha rl
  induction p1 with
  | nil=>exact .nil
  | cons h _ ih=>exact .cons (Same.sqT hid_same h) ih
 refine ⟨a,as,kvs,rfl,SqL.of (hid_same _ _ ha),p1',fun l o hl=> ?_⟩
 have L:=R.new (o:=.frz o (.dK (mrgK [] kvs))) hl
 exact k _ _ _ L (.mkD (R.newAt hl) ((p2.mono L.vis).mrg .nil)) q
def keyT:Key→T
 | .inl i=>.int i
 | .inr z=>.str z
theorem RepD.length {kvs:List (Key×V)} {ts:List (Key×T)} (r:RepD K H kvs ts):kvs.length=ts.length:=by
 induction r with
 | nil=>rfl
 | cons _ _ ih=>simp [ih]
theorem RepD.key {kvs:List (Key×V)} {ts:List (Key×T)} (r:RepD K H kvs ts) {i:Nat} {k:Key} {v:V} {d:T} (h:kvs[i]? =some (k,v)) (h':(ts.map fun kv=>keyT kv.1)[i]? =some d):d=keyT k:=by
 have e:=r.keys
 have e1:(kvs.map (·.1))[i]? =some k:=by rw [List.getElem?_map,h];rfl
 rw [e,List.getElem?_map] at e1
 rw [List.getElem?_map] at h'
 cases z:ts[i]? with
 | none=>rw [z] at h';cases h'
 | some q=>
   rw [z] at h' e1
   cases h'
   cases e1
   rfl
def glst3 (n:Nat) (r:List T→List Sl→(List Sl→Prop)→Prop):TG3:=fun d σ Q=>ob (asL d) fun ds=>ds.length=n∧r ds σ Q
theorem lift_glst {c:Cf} {ws:List Nat} {n:Nat} {u:TGs} {u3:List T→List Sl→(List Sl→Prop)→Prop} (h:LiftTgs K c ws u u3):LiftTg K c ws (gLst K n u) (glst3 n u3):=by
 intro d σ3 Q3 hh Hb G A σ H v Q R r k
 obtain ⟨ds,ed,hl,q⟩:=ob_iff.mp hh
 cases asL_is ed
 obtain ⟨a,vs,rfl,ha,rl⟩:=r.f.lstI
 exact ⟨a,vs,rfl,SqL.of (hid_same _ _ ha),by rw [rl.length];exact hl,h _ _ _ q Hb G A σ H vs Q R rl k⟩
end
end M3
namespace L2
open PySem PySem.Spec
theorem pg_lstK {X:Cx} {K:PySem.W.Frag} {pos:Pos} {es:List Expr} {k:Nat} {t:TGs} {n:Nat} (h:X.K=K) (hc:X.calm=true) (hp:PGs X es t)
 (hn:(assignEach es X.env).length=n:=by rfl) (hst:(assignEach es X.env).findIdx? (·.1)=none:=by rfl):PG X (.Tuple es k pos) (gLst K n t):=h ▸ pg_lst hc hp hn hst
end L2
set_option maxHeartbeats 1000000
namespace M3
open PySem L2
end M3
set_option maxHeartbeats 1000000
namespace M3
open PySem L2
structure ClM (P:Program) (w:World) (K:PySem.W.Frag) (mg:Str→Option Value) (base:Heap) (CX:CXT) (C:Addr) (m:Str) (k:Nat) (dvs:List V) (sp:Sp):Prop where
 ex:∃(f:Addr) (fd:FuncData) (ps:List Str) (ds:List Value),FnOk P w K mg base CX k f fd ps sp∧Meth K C m f∧Binds K fd ps ds∧Vals dvs ds
structure ClMT (P:Program) (w:World) (K:PySem.W.Frag) (mg:Str→Option Value) (base:Heap) (CX:CXT) (C:Addr) (m:Str) (k:Nat) (dts:List T) (sp:Sp):Prop where
 ex:∃dvs,(∀H,RepL K H dvs dts)∧ClM P w K mg base CX C m k dvs sp
section
variable {P:Program} {w:World} {K:PySem.W.Frag} {mg:Str→Option Value} {base:Heap} {CX:CXT} {C:Addr} {m x qual:Str} {st:Stmt} {dts kts:List T} {kns:List Str} {lv:Nat} {ps:List Str} {sp:Sp}
theorem OkM.clM (O:OkM P w K mg base CX C m x qual st [] kns kts lv ps sp) (hf:∀f,PySem.W.findIn K (.ref C) m=some (some (.ref f))→PySem.W.isFn K (.ref f)=true)
 (h:∀(kV doc pm:Value) (an:Option Addr) (cdv ct:Value) (us:List Value),us.length=ps.length→bindArgs (PySem.W.fnOf x qual (defArgs st) (defBody st) (defScope st) .none kV doc pm an cdv ct) ⟨us,[]⟩=pure (ps.zip us)):ClMT P w K mg base CX C m lv [] sp:=by
 obtain ⟨f,fd,dvs,kvs,rd,rk,F,hm,O⟩:=O.ex
 have e:=(rd (fun _=>none)).len0
 subst e
 exact ⟨[],fun _=>.nil,f,fd,ps,[],O,⟨hm,hf f hm,F.kp⟩,F.bindsN h,.nil⟩
end
end M3
set_option maxHeartbeats 1000000
namespace LamX
open PySem PySem.Spec PyProof.Rows L2
end LamX
set_option maxHeartbeats 1000000
namespace M3
open PySem L2
end M3
set_option maxHeartbeats 1000000
namespace L2
open PySem PySem.Spec PyProof.Rows
end L2
namespace M3
open PySem L2
end M3
namespace M3
open PySem L2
end M3
namespace M3
open PySem L2
abbrev Mem:=Addr→Option T
def mset (M:Mem) (a:Addr) (t:Option T):Mem:=fun b=>if b=a then t else M b
@[simp] theorem mset_same {M:Mem} {a:Addr} {t:Option T}:mset M a t a=t:=by unfold mset;rw [if_pos rfl]
theorem mset_ne {M:Mem} {a b:Addr} {t:Option T} (h:b≠a):mset M a t b=M b:=by unfold mset;rw [if_neg h]
abbrev XM:=Xn→Mem→Prop
abbrev G4 (β:Type):=List Sl→Mem→(β→Mem→Prop)→XM→Prop
abbrev E4:=G4 T
abbrev B4:=G4 Bool
abbrev A4:=G4 (List T)
def CellRep (K:PySem.W.Frag) (Hv H:Hp) (a:Addr):T→Prop
 | .lst xs=>∃vs,H a=some (.lst vs)∧RepL K Hv vs xs
 | .dic kvs=>∃ks,H a=some (.dK ks)∧ks.map (·.1)=kvs.map (·.1)∧RepL K Hv (ks.map (·.2)) (kvs.map (·.2))
 | .ins C fs=>∃dx ks,H a=some (.ins C dx ks)∧ks.map (·.1)=fs.map (·.1)∧RepL K Hv (ks.map (·.2)) (fs.map (·.2))
 | _=>False
section
variable {K:PySem.W.Frag} {Hv Hv' H H':Hp} {a:Addr} {t:T}
theorem CellRep.mono (r:CellRep K Hv H a t) (e:Same Hv Hv') (h:H' a=H a):CellRep K Hv' H' a t:=by
 cases t with
 | lst xs=>obtain ⟨vs,h1,h2⟩:=r;exact ⟨vs,h.trans h1,h2.mono e⟩
 | dic kvs=>obtain ⟨ks,h1,h2,h3⟩:=r;exact ⟨ks,h.trans h1,h2,h3.mono e⟩
 | ins C fs=>obtain ⟨dx,ks,h1,h2,h3⟩:=r;exact ⟨dx,ks,h.trans h1,h2,h3.mono e⟩
 | _=>exact r.elim
theorem CellRep.obj (r:CellRep K Hv H a t):∃o,H a=some o∧vis o=true∧∀φ,o≠ .ext φ:=by
 cases t with
 | lst xs=>obtain ⟨vs,h1,_⟩:=r;exact ⟨_,h1,rfl,fun _ z=>by cases z⟩
 | dic kvs=>obtain ⟨ks,h1,_⟩:=r;exact ⟨_,h1,rfl,fun _ z=>by cases z⟩
 | ins C fs=>obtain ⟨dx,ks,h1,_⟩:=r;exact ⟨_,h1,rfl,fun _ z=>by cases z⟩
 | _=>exact r.elim
end
structure Cells (K:PySem.W.Frag) (S L:List Addr) (M:Mem) (H:Hp):Prop where
 on:∀a,a∈L↔M a≠none
 off:∀a∈L,a ∉ S
 at_:∀a t,M a=some t→CellRep K (hid (S++L) H) H a t
theorem Cells.obj {K:PySem.W.Frag} {S L:List Addr} {M:Mem} {H:Hp} (c:Cells K S L M H) {a:Addr} (h:a∈L):∃o,H a=some o∧vis o=true∧∀φ,o≠ .ext φ:=by
 cases e:M a with
 | none=>exact absurd e ((c.on a).mp h)
 | some t=>exact (c.at_ a t e).obj
abbrev nons (n:Nat):List (Option Addr):=List.replicate n none
theorem addrs_nons (n:Nat):addrs (nons n)=[]:=by
 unfold addrs
 rw [List.filterMap_replicate_of_none rfl]
theorem S_nons {c:Cf} {G L:List Addr} {n:Nat}:c.S (G++L) (nons n)=c.S0++G++L:=by
 unfold Cf.S
 rw [addrs_nons,List.append_nil,List.append_assoc]
theorem nons_of {A:List (Option Addr)} (h:∀a,a ∉ addrs A):A=nons A.length:=by
 refine List.eq_replicate_iff.mpr ⟨rfl,fun o ho=> ?_⟩
 cases o with
 | none=>rfl
 | some a=>exact absurd (mem_addrs.mpr ho) (h a)
abbrev vs4 (c:Cf) (G L:List Addr) (H:Hp):Hp:=hid (c.S0++G++L) H
theorem R3.re {K:PySem.W.Frag} {c:Cf} {Hb H:Hp} {Y:List Addr} {n:Nat} {σ3:List Sl} {σ:St} (r:R3 K c Hb Y (nons n) σ3 σ H):R3 K c H Y (nons n) σ3 σ H:=by
 refine ⟨r.inv, ?_,fun a h=>⟨rfl,(r.gk a h).2⟩,r.gv,r.nd,r.ns,r.l1,r.l2,r.at_⟩
 have e:c.S Y (nons n)=c.S0++Y:=by
  unfold Cf.S
  rw [addrs_nons,List.append_nil]
 rw [e]
 exact Same.refl _
structure R4 (K:PySem.W.Frag) (c:Cf) (Hb:Hp) (G L0 L:List Addr) (M:Mem) (σ3:List Sl) (σ:St) (H:Hp):Prop where
 r3:R3 K c H (G++L) (nons σ3.length) σ3 σ H
 base:Same (vs4 c G L0 Hb) (vs4 c G L H)
 gk:∀a∈G,H a=Hb a
 cells:Cells K (c.S0++G) L M H
section
variable {K:PySem.W.Frag} {c:Cf} {Hb H H':Hp} {G L0 L L':List Addr} {M M':Mem} {σ3:List Sl} {σ:St} {v:V} {t:T}
theorem Le.vis4 {n:Nat} (l:Le c (G++L) (nons n) H H'):Same (vs4 c G L H) (vs4 c G L H'):=by
 have:=l.vis
 rwa [S_nons] at this
theorem R4.le (r:R4 K c Hb G L0 L M σ3 σ H) (l:Le c (G++L) (nons σ3.length) H H'):R4 K c Hb G L0 L M σ3 σ H' where
 r3:=(r.r3.le l).re
 base:=Same.trans r.base l.vis4
 gk:=fun a h=>(l.own a (by simp [h])).trans (r.gk a h)
 cells:=⟨r.cells.on,r.cells.off,fun a t e=>(r.cells.at_ a t e).mono l.vis4 (l.own a (by simp [(r.cells.on a).mpr (by rw [e];intro z;cases z)]))⟩
theorem R4.rep {n:Nat} {u:V} {d:T} (h:Rep K (hid (c.S (G++L) (nons n)) H) u d):Rep K (vs4 c G L H) u d:=by rwa [S_nons] at h
theorem R4.step (r:R4 K c Hb G L0 L M σ3 σ H) (hi:c.I H') (hv:Same (vs4 c G L H) (vs4 c G L' H')) (hg:∀a∈G,H' a=H a) (hc:Cells K (c.S0++G) L' M' H'):R4 K c Hb G L0 L' M' σ3 σ H' where
 r3:=by
  have e0:∀n,hid (c.S (G++L) (nons n)) H=vs4 c G L H:=fun n=>by rw [S_nons]
  refine ⟨hi, ?_,fun a h=>⟨rfl, ?_⟩,fun a h o e=> ?_,by rw [addrs_nons];exact List.nodup_nil,(by rw [addrs_nons];intro a h;cases h),r.r3.l1,r.r3.l2, ?_⟩
  · rw [S_nons, ←List.append_assoc]
    exact Same.refl _
  · rcases List.mem_append.mp h with h | h
    · rw [hg a h]
      exact (r.r3.gk a (by simp [h])).2
    · obtain ⟨o,e,_⟩:=hc.obj h
      exact ⟨(by rw [e];intro z;cases z),fun z=>hc.off a h (by simp [z])⟩
  · rcases List.mem_append.mp h with h | h
    · exact r.r3.gv a (by simp [h]) o (by rw [←hg a h];exact e)
    · obtain ⟨o',e',v',_⟩:=hc.obj h
      rw [e'] at e
      cases e
      exact c.gV _ v'
  · intro i s o x h1 h2 h3
    have z:=r.r3.at_ i s o x h1 h2 h3
    rw [e0] at z
    rw [S_nons]
    cases s with
    | no=>exact z
    | val t=>obtain ⟨e,v,e2,q⟩:=z;exact ⟨e,v,e2,q.mono hv⟩
    | own t=>
      obtain ⟨a,e,_⟩:=z
      have:=(List.mem_replicate.mp (List.mem_of_getElem? h2)).2
      rw [this] at e
      cases e
 base:=Same.trans r.base hv
 gk:=fun a h=>(hg a h).trans (r.gk a h)
 cells:=hc
theorem R4.rebase (r:R4 K c Hb G L0 L M σ3 σ H):R4 K c H G L L M σ3 σ H:=⟨r.r3,Same.refl _,fun _ _=>rfl,r.cells⟩
theorem R4.debase {L1:List Addr} {M1:Mem} {σ1:List Sl} {σ1':St} {H1:Hp} (r1:R4 K c Hb G L0 L1 M1 σ1 σ1' H1) (r:R4 K c H1 G L1 L M σ3 σ H):R4 K c Hb G L0 L M σ3 σ H:=
 ⟨r.r3,Same.trans r1.base r.base,fun a h=>(r.gk a h).trans (r1.gk a h),r.cells⟩
theorem R4.slots {σ3':List Sl} {σ':St} {A':List (Option Addr)} (r:R4 K c Hb G L0 L M σ3 σ H) (q:R3 K c H (G++L) A' σ3' σ' H) (hA:∀a,a ∉ addrs A'):R4 K c Hb G L0 L M σ3' σ' H where
 r3:=by
  have e:=nons_of hA
  rw [q.l1] at e
  rw [e] at q
  exact q
 base:=r.base
 gk:=r.gk
 cells:=r.cells
end
def LiftG4 (K:PySem.W.Frag) (c:Cf) (W:WX) {α β:Type} (rel:Hp→α→β→Prop) (te:St→Hp→(α→Hp→Prop)→Prop) (t:G4 β):Prop:=
 ∀σ3 M Q4 X,t σ3 M Q4 X→∀Hb G L0 L σ H Q,R4 K c Hb G L0 L M σ3 σ H→
  (∀v d L' M' H',R4 K c Hb G L0 L' M' σ3 σ H'→Same (vs4 c G L H) (vs4 c G L' H')→rel (vs4 c G L' H') v d→Q4 d M'→Q v H')→
  (∀cls dd x L' M' H',R4 K c Hb G L0 L' M' σ3 σ H'→Same (vs4 c G L H) (vs4 c G L' H')→XRep K (vs4 c G L' H') cls dd x→X x M'→W cls dd σ H')→te σ H Q
abbrev Lift4 (K:PySem.W.Frag) (c:Cf) (W:WX) (te:TE) (t:E4):Prop:=LiftG4 K c W (Rep K) te t
abbrev LiftT4 (K:PySem.W.Frag) (c:Cf) (W:WX) (te:TT) (t:B4):Prop:=LiftG4 K c W (fun _ (b b':Bool)=>b=b') te t
def pu {β:Type} (t:G3 β):G4 β:=fun σ M Q X=>t σ (fun d=>Q d M) (fun x=>X x M)
section
variable {K:PySem.W.Frag} {c:Cf} {W:WX} {ta tb te:TE} {a b e:E4} {t u:TA} {x y:A4}
theorem lift_pu {α β:Type} {rel:Hp→α→β→Prop} {te:St→Hp→(α→Hp→Prop)→Prop} {t:G3 β} (h:LiftG K c W rel te t):LiftG4 K c W rel te (pu t):=by
 intro σ3 M Q4 X ht Hb G L0 L σ H Q R k e
 refine h _ _ _ ht H (G++L) (nons σ3.length) σ H Q R.r3 (fun v d H' l r q=> ?_) (fun cls dd x H' l r q=> ?_)
 · rw [S_nons] at r
   exact k v d L M H' (R.le l) l.vis4 r q
 · rw [S_nons] at r
   exact e cls dd x L M H' (R.le l) l.vis4 r q
def op4 (r:T→T→(T→Prop)→Prop) (a b:E4):E4:=fun σ M Q X=>a σ M (fun d M1=>b σ M1 (fun d2 M2=>r d d2 (fun z=>Q z M2)) X) X
theorem lift_op4 {r:R2} {r3:T→T→(T→Prop)→Prop} (hr:RL2 K r r3) (ha:Lift4 K c W ta a) (hb:Lift4 K c W tb b):Lift4 K c W (tOp r ta tb) (op4 r3 a b):=by
 intro σ3 M Q4 X h Hb G L0 L σ H Q R k e
 refine ha _ _ _ _ h Hb G L0 L σ H _ R (fun v d L1 M1 H1 R1 s1 rv q=> ?_) e
 refine hb _ _ _ _ q Hb G L0 L1 σ H1 _ R1 (fun w d2 L2 M2 H2 R2 s2 rw' q2=> ?_) (fun cls dd x L' M' H' R' s'=>e cls dd x L' M' H' R' (Same.trans s1 s'))
 have rv2:=rv.mono s2
 refine hr c d d2 _ q2 H2 (G++L2) (nons σ3.length) σ3 σ H2 v w Q R2.r3 (by rw [S_nons];exact rv2) (by rw [S_nons];exact rw') (fun z dz H3 l rz qz=> ?_)
 rw [S_nons] at rz
 exact k z dz L2 M2 H3 (R2.le l) (Same.trans (Same.trans s1 s2) l.vis4) rz qz
end
end M3
namespace M3
open PySem L2
structure N4 where
 nx:List Sl→Mem→Prop
 rt:T→Mem→Prop
 bk:List Sl→Mem→Prop:=fun _ _=>False
 ct:List Sl→Mem→Prop:=fun _ _=>False
 xn:List Sl→Xn→Mem→Prop:=fun _ _ _=>False
abbrev S4:=N4→List Sl→Mem→Prop
structure Fin4 (K:PySem.W.Frag) (c:Cf) (Hb:Hp) (G L0 L:List Addr) (M:Mem) (H:Hp):Prop where
 inv:c.I H
 base:Same (vs4 c G L0 Hb) (vs4 c G L H)
 gk:∀a∈G,H a=Hb a
 cells:Cells K (c.S0++G) L M H
theorem R4.fin {K:PySem.W.Frag} {c:Cf} {Hb H:Hp} {G L0 L:List Addr} {M:Mem} {σ3:List Sl} {σ:St} (r:R4 K c Hb G L0 L M σ3 σ H):Fin4 K c Hb G L0 L M H:=⟨r.r3.inv,r.base,r.gk,r.cells⟩
structure To4 (K:PySem.W.Frag) (c:Cf) (W:WX) (Hb:Hp) (G L0:List Addr) (N:N4) (D:Ends):Prop where
 nx:∀L M σ3 σ H,R4 K c Hb G L0 L M σ3 σ H→N.nx σ3 M→D.nx σ H
 rt:∀v d L M H,Fin4 K c Hb G L0 L M H→Rep K (vs4 c G L H) v d→N.rt d M→D.rt v H
 bk:∀L M σ3 σ H,R4 K c Hb G L0 L M σ3 σ H→N.bk σ3 M→D.bk σ H
 ct:∀L M σ3 σ H,R4 K c Hb G L0 L M σ3 σ H→N.ct σ3 M→D.ct σ H
 xn:∀L M σ3 σ H cls dd x,R4 K c Hb G L0 L M σ3 σ H→XRep K (vs4 c G L H) cls dd x→N.xn σ3 x M→W cls dd σ H
def LiftS4 (K:PySem.W.Frag) (c:Cf) (W:WX) (ts:TS) (t:S4):Prop:=
 ∀N σ3 M,t N σ3 M→∀Hb G L0 L σ H (D:Ends),R4 K c Hb G L0 L M σ3 σ H→To4 K c W Hb G L0 N D→ts D σ H
def next4:S4:=fun N σ M=>N.nx σ M
def seq4 (t u:S4):S4:=fun N σ M=>t {N with nx:=u N} σ M
def drop4 (a:E4):S4:=fun N σ M=>a σ M (fun _ M1=>N.nx σ M1) (N.xn σ)
def ret4 (a:E4):S4:=fun N σ M=>a σ M N.rt (N.xn σ)
def ifs4 (z:B4) (t u:S4):S4:=fun N σ M=>z σ M (fun b M1=>if b=true then t N σ M1 else u N σ M1) (N.xn σ)
def asg4 (a:E4) (g:TG3):S4:=fun N σ M=>a σ M (fun d M1=>g d σ fun σ'=>N.nx σ' M1) (N.xn σ)
section
variable {K:PySem.W.Frag} {c:Cf} {W:WX} {ta:TE} {a:E4} {t u:TS} {x y:S4}
theorem lift_next4:LiftS4 K c W tNext next4:=fun N σ3 M h Hb G L0 L σ H D R Z=>Z.nx _ _ _ _ _ R h
theorem lift_seq4 (h1:LiftS4 K c W t x) (h2:LiftS4 K c W u y):LiftS4 K c W (tSeq t u) (seq4 x y):=by
 intro N σ3 M h Hb G L0 L σ H D R Z
 exact h1 _ _ _ h Hb G L0 L σ H _ R ⟨fun L' M' σ3' σ' H' R' q=>h2 _ _ _ q Hb G L0 L' σ' H' D R' Z,Z.rt,Z.bk,Z.ct,Z.xn⟩
theorem lift_drop4 (ha:Lift4 K c W ta a):LiftS4 K c W (tDrop ta) (drop4 a):=by
 intro N σ3 M h Hb G L0 L σ H D R Z
 exact ha _ _ _ _ h Hb G L0 L σ H _ R (fun v d L' M' H' R' _ _ q=>Z.nx _ _ _ _ _ R' q) (fun cls dd x L' M' H' R' _ r q=>Z.xn _ _ _ _ _ _ _ _ R' r q)
theorem lift_ret4 (ha:Lift4 K c W ta a):LiftS4 K c W (tRet ta) (ret4 a):=by
 intro N σ3 M h Hb G L0 L σ H D R Z
 exact ha _ _ _ _ h Hb G L0 L σ H _ R (fun v d L' M' H' R' _ r q=>Z.rt _ _ _ _ _ R'.fin r q) (fun cls dd x L' M' H' R' _ r q=>Z.xn _ _ _ _ _ _ _ _ R' r q)
theorem lift_ifs4 {k:TT} {z:B4} (hc:LiftT4 K c W k z) (h1:LiftS4 K c W t x) (h2:LiftS4 K c W u y):LiftS4 K c W (tIfS k t u) (ifs4 z x y):=by
 intro N σ3 M h Hb G L0 L σ H D R Z
 refine hc _ _ _ _ h Hb G L0 L σ H _ R (fun vx w L' M' H' R' _ r q=> ?_) (fun cls dd x L' M' H' R' _ r q=>Z.xn _ _ _ _ _ _ _ _ R' r q)
 subst r
 cases vx with
 | true=>exact iteT (h1 _ _ _ (by simpa using q) Hb G L0 L' σ H' D R' Z)
 | false=>exact iteF (h2 _ _ _ (by simpa using q) Hb G L0 L' σ H' D R' Z)
theorem lift_asg4 {vs:List Nat} {g:TG} {g3:TG3} (ha:Lift4 K c W ta a) (hg:LiftTg K c vs g g3):LiftS4 K c W (tAsg ta g) (asg4 a g3):=by
 intro N σ3 M h Hb G L0 L σ H D R Z
 refine ha _ _ _ _ h Hb G L0 L σ H _ R (fun v d L' M' H' R' _ r q=> ?_) (fun cls dd x L' M' H' R' _ r q=>Z.xn _ _ _ _ _ _ _ _ R' r q)
 refine hg _ _ _ q H' (G++L') (nons σ3.length) σ H' v _ R'.r3 (.inl (by rw [S_nons];exact r)) (fun A' σ3' σ' H2 R2 e2 st q'=> ?_)
 subst e2
 exact Z.nx _ _ _ _ _ (R'.slots R2 fun a h=>by
  have:=st.2.2 a h
  rw [addrs_nons] at this
  cases this) q'
def loop4 (g:TG3) (tb:S4) (N:N4):List T→List Sl→Mem→Prop
 | [],σ,M=>N.nx σ M
 | x::r,σ,M=>g x σ fun σ'=>tb {nx:=loop4 g tb N r,ct:=loop4 g tb N r,bk:=N.nx,rt:=N.rt,xn:=N.xn} σ' M
def for4 (s:A3) (g:TG3) (tb:S4):S4:=fun N σ M=>s σ (fun ds=>loop4 g tb N ds σ M) (fun x=>N.xn σ x M)
theorem lift_for4 {wk:Bool} {vs:List Nat} {wi:TI} {s:A3} {g:TG} {g3:TG3} {tb:TS} {b:S4} (hi:LiftIB K c wk W wi s) (hg:LiftTgB K c wk vs g g3) (hb:LiftS4 K c W tb b):LiftS4 K c W (tFor wi g tb) (for4 s g3 b):=by
 intro N σ3 M h Hb G L0 L σ H D R Z
 refine hi _ _ _ h H (G++L) (nons σ3.length) σ H _ R.r3 (fun J ds H1 l1 w q=> ?_) (fun cls dd x H' l r q=> ?_)
 rotate_left
 · rw [S_nons] at r
   exact Z.xn _ _ _ _ _ _ _ _ (R.le l) r q
 have R1:=R.le l1
 rw [S_nons] at w
 refine ⟨fun i m σ' H'=>m=ds.length-i∧i≤ds.length∧∃L' M' σ3',R4 K c H1 G L L' M' σ3' σ' H'∧loop4 g3 b N (ds.drop i) σ3' M',⟨ds.length,rfl,Nat.zero_le _,L,M,σ3,R1.rebase,by simpa using q⟩, ?_⟩
 rintro i m σ' H' ⟨rfl,hi,L',M',σ3',R',q'⟩
 have vis:=R'.base
 by_cases hl:i=ds.length
 · subst hl
   left
   refine ⟨w.stop _ _ vis,Z.nx _ _ _ _ _ (R1.debase R') ?_⟩
   have e:ds.drop ds.length=[]:=List.drop_length
   rw [e] at q'
   exact q'
 · right
   have hlt:i<ds.length:=Nat.lt_of_le_of_ne hi hl
   have hd:ds[i]? =some ds[i]:=List.getElem?_eq_getElem hlt
   rw [List.drop_eq_getElem_cons hlt] at q'
   refine ⟨w.go i _ _ _ hd vis,fun σ2 H2=>∃L2 M2 σ32,R4 K c H1 G L L2 M2 σ32 σ2 H2∧loop4 g3 b N (ds.drop (i+1)) σ32 M2, ?_, ?_⟩
   · rintro σ2 H2 ⟨L2,M2,σ32,R2,q2⟩
     exact ⟨ds.length-(i+1),by omega,rfl,hlt,L2,M2,σ32,R2,q2⟩
   · intro x H2 y
     have th:∀a∈c.S0++G++L',H' a≠none:=fun a h=>R'.r3.there (by rw [S_nons];exact h)
     obtain ⟨hn,rx⟩:=w.yld i _ _ _ x H2 hd vis th y
     have R2:R4 K c H1 G L L' M' σ3' σ' H2:=by
      rcases hn with rfl | ⟨p,o,hp,rfl⟩
      · exact R'
      · exact R'.le (R'.r3.new (o:=o) hp)
     refine hg _ _ _ q' H2 (G++L') (nons σ3'.length) σ' H2 x _ R2.r3 (by rw [S_nons];exact rx) (fun A4 σ4 σ4' H4 R4' e4 st q4=> ?_)
     subst e4
     refine hb _ _ _ q4 H1 G L L' σ4' H4 _ (R2.slots R4' fun a h=>by
      have:=st.2.2 a h
      rw [addrs_nons] at this
      cases this) ⟨?_, ?_, ?_, ?_, ?_⟩
     · exact fun L5 M5 σ5 σ5' H5 R5 q5=>⟨L5,M5,σ5,R5,q5⟩
     · exact fun v d L5 M5 H5 F rv q5=>Z.rt v d L5 M5 H5 ⟨F.inv,Same.trans R1.base F.base,fun a h=>(F.gk a h).trans (R1.gk a h),F.cells⟩ rv q5
     · exact fun L5 M5 σ5 σ5' H5 R5 q5=>Z.nx _ _ _ _ _ (R1.debase R5) q5
     · exact fun L5 M5 σ5 σ5' H5 R5 q5=>⟨L5,M5,σ5,R5,q5⟩
     · exact fun L5 M5 σ5 σ5' H5 cls dd xn R5 rx q5=>Z.xn _ _ _ _ _ _ _ _ (R1.debase R5) rx q5
end
end M3
namespace M3
open PySem L2
def asR:T→Option Addr
 | .ref a=>some a
 | _=>none
theorem asR_is {t:T} {a:Addr} (h:asR t=some a):t= .ref a:=by
 cases t<;>simp [asR] at h<;>subst h<;>rfl
def cellL (M:Mem) (a:Addr):Option (List T):=(M a).bind asL
theorem cellL_is {M:Mem} {a:Addr} {xs:List T} (h:cellL M a=some xs):M a=some (.lst xs):=by
 unfold cellL at h
 cases e:M a with
 | none=>rw [e] at h;cases h
 | some t=>rw [e] at h;rw [asL_is (show asL t=some xs from h)]
section
variable {K:PySem.W.Frag} {c:Cf} {Hb H H':Hp} {G L0 L L':List Addr} {M M':Mem} {σ3:List Sl} {σ:St} {W:WX}
theorem R4.put (r:R4 K c Hb G L0 L M σ3 σ H) {a:Addr} {o:HO} {t:T} (ha:a∈L) (ho:∀φ,o≠ .ext φ) (hr:CellRep K (vs4 c G L H) (upd H a o) a t):R4 K c Hb G L0 L (mset M a (some t)) σ3 σ (upd H a o):=by
 have na:a ∉ c.S0++G:=r.cells.off a ha
 have hv:vs4 c G L (upd H a o)=vs4 c G L H:=hid_upd_in (by simp [ha])
 obtain ⟨o1,e1,_,n1⟩:=r.cells.obj ha
 refine r.step (c.st H _ (fun b hb=>upd_ne (fun z=>na (by rw [←z];simp [hb]))) (fun b φ e=> ?_) r.r3.inv) (by rw [hv];exact Same.refl _) (fun b hb=>upd_ne (fun z=>na (by rw [←z];simp [hb]))) ⟨fun b=> ?_,r.cells.off,fun b t' e=> ?_⟩
 · have:b≠a:=fun z=>by
    rw [z,e1] at e
    cases e
    exact n1 _ rfl
   rw [upd_ne this];exact e
 · by_cases z:b=a
   · subst z
     simp [ha]
   · rw [mset_ne z];exact r.cells.on b
 · show CellRep K (vs4 c G L (upd H a o)) (upd H a o) b t'
   rw [hv]
   by_cases z:b=a
   · subst z
     rw [mset_same] at e
     cases e
     exact hr
   · rw [mset_ne z] at e
     exact (r.cells.at_ b t' e).mono (Same.refl _) (upd_ne z)
theorem R4.atL (r:R4 K c Hb G L0 L M σ3 σ H) {a:Addr} {xs:List T} (h:M a=some (.lst xs)):a∈L∧∃vs,H a=some (.lst vs)∧RepL K (vs4 c G L H) vs xs:=
 ⟨(r.cells.on a).mpr (by rw [h];intro z;cases z),r.cells.at_ a _ h⟩
def newC4 (t:E3):E4:=fun σ M Q X=>t σ (fun d=>ob (asL d) fun xs=>∀p,M p=none→Q (.ref p) (mset M p (some (.lst xs)))) (fun x=>X x M)
theorem lift_newC {te:TE} {t:E3} (h:LiftFr K c W te t):Lift4 K c W te (newC4 t):=by
 intro σ3 M Q4 X ht Hb G L0 L σ H Q R k e
 refine h _ _ _ ht H (G++L) (nons σ3.length) σ H _ R.r3 (fun D vs ds H' f q=> ?_) (fun cls dd x H' l r q=> ?_)
 · have nD:=f.nD
   have fv:=f.vis
   have fr:=f.rep
   rw [S_nons] at nD fv fr
   have mD:M D=none:=by
    cases e:M D with
    | none=>rfl
    | some t=>exact absurd (by simp [(R.cells.on D).mpr (by rw [e];intro z;cases z)]) nD
   have hS:∀a,a∈D::(c.S0++G++L)↔a∈c.S0++G++(D::L):=fun a=>by
    simp only [List.mem_cons,List.mem_append]
    exact ⟨fun h=>by rcases h with h | (h | h) | h<;>simp [h],fun h=>by rcases h with (h | h) | h | h<;>simp [h]⟩
   have sm:Same (hid (D::(c.S0++G++L)) H') (vs4 c G (D::L) H'):=hid_mono fun a z=>(hS a).mpr z
   have vis:Same (vs4 c G L H) (vs4 c G (D::L) H'):=Same.trans fv sm
   have R':R4 K c Hb G L0 (D::L) (mset M D (some (.lst ds))) σ3 σ H':=by
    refine R.step f.inv vis (fun a h=>f.own a (by simp [h])) ⟨fun a=> ?_,fun a h=> ?_,fun a t' e=> ?_⟩
    · by_cases z:a=D
      · subst z;simp
      · rw [mset_ne z,List.mem_cons]
        exact ⟨fun h=>(R.cells.on a).mp (h.resolve_left z),fun h=>.inr ((R.cells.on a).mpr h)⟩
    · rcases List.mem_cons.mp h with rfl | h
      · exact fun z=>nD (by simp at z ⊢;rcases z with z | z<;>simp [z])
      · exact R.cells.off a h
    · by_cases z:a=D
      · subst z
        rw [mset_same] at e
        cases e
        exact ⟨vs,f.at_,fr.mono sm⟩
      · rw [mset_ne z] at e
        exact (R.cells.at_ a t' e).mono vis (f.own a (by simp [(R.cells.on a).mpr (by rw [e];intro z;cases z)]))
   exact k _ _ (D::L) _ H' R' vis (.ref D) (q D mD)
 · rw [S_nons] at r
   exact e cls dd x L M H' (R.le l) l.vis4 r q
def app4 (o e:E4):E4:=fun σ M Q X=>o σ M (fun d M1=>ob (asR d) fun a=>ob (cellL M1 a) fun _=>e σ M1 (fun y M2=>ob (cellL M2 a) fun xs=>xs.length<sizeLine∧Q .non (mset M2 a (some (.lst (xs++[y]))))) X) X
theorem lift_app4 {to te:TE} {o e:E4} (ho:Lift4 K c W to o) (he:Lift4 K c W te e):Lift4 K c W (tBM K "list" rAppend to (tCons te tNil)) (app4 o e):=by
 intro σ3 M Q4 X h Hb G L0 L σ H Q R k ex
 refine ho _ _ _ _ h Hb G L0 L σ H _ R (fun v d L1 M1 H1 R1 s1 r q=> ?_) ex
 obtain ⟨a,ea,qa⟩:=ob_iff.mp q
 obtain ⟨xs,e1,qb⟩:=ob_iff.mp qa
 cases asR_is ea
 cases r.refI
 obtain ⟨_,vs,h1,_⟩:=R1.atL (cellL_is e1)
 refine ⟨.inl ⟨rfl,vs,SqL.of h1⟩, ?_⟩
 refine he _ _ _ _ qb Hb G L0 L1 σ H1 _ R1 (fun u y L2 M2 H2 R2 s2 ru q2=> ?_) (fun cls dd x L' M' H' R' s'=>ex cls dd x L' M' H' R' (Same.trans s1 s'))
 obtain ⟨ys,e2,hl,q3⟩:=ob_iff.mp q2
 obtain ⟨m2,ws,h2,r2⟩:=R2.atL (cellL_is e2)
 refine ⟨a,ws,u,rfl,rfl,h2,by rw [r2.length];exact hl, ?_⟩
 have hv:vs4 c G L2 (upd H2 a (.lst (ws++[u])))=vs4 c G L2 H2:=hid_upd_in (by simp [m2])
 exact k _ _ L2 _ _ (R2.put (t:=.lst (ys++[y])) m2 (fun φ z=>by cases z) ⟨ws++[u],upd_same,r2.append (.cons ru .nil)⟩) (Same.trans (Same.trans s1 s2) (by rw [hv];exact Same.refl _)) .non q3
end
end M3
namespace M3
open PySem L2
section
variable {K:PySem.W.Frag} {c:Cf} {Hb H H':Hp} {G L0 L L':List Addr} {M M':Mem} {σ3:List Sl} {σ:St} {W:WX}
theorem R4.noOwn (r:R4 K c Hb G L0 L M σ3 σ H) (vs:List Nat):noOwn σ3 vs:=fun i _ t e=>by
 have hl:i<σ3.length:=(List.getElem?_eq_some_iff.mp e).1
 have h1:(nons σ3.length)[i]? =some none:=by simp [hl]
 have h2:i<σ.length:=by rw [r.r3.l2];exact hl
 obtain ⟨a,z,_⟩:=r.r3.at_ i _ _ _ e h1 (List.getElem?_eq_getElem h2)
 cases z
theorem R4.hide (r:R4 K c Hb G L0 L M σ3 σ H) {D:Addr} {o:HO} (hD:H D=none) (ho:vis o=true):R4 K c (upd H D o) (D::G) L L M σ3 σ (upd H D o)∧Same (vs4 c G L H) (vs4 c (D::G) L (upd H D o)):=by
 have nD:D ∉ c.S0++G++L:=fun z=>r.r3.there (by rw [S_nons];exact z) hD
 have l:=r.r3.new (o:=o) hD
 have eS:∀a,a∈c.S0++(D::G)++L↔a=D∨a∈c.S0++G++L:=fun a=>by
  simp only [List.mem_cons,List.mem_append]
  exact ⟨fun h=>by rcases h with (h | h | h) | h<;>simp [h],fun h=>by rcases h with h | (h | h) | h<;>simp [h]⟩
 have hv:Same (vs4 c G L H) (vs4 c (D::G) L (upd H D o)):=fun a u z=>by
  obtain ⟨z1,z2⟩:=hid_some z
  have na:a≠D:=fun y=>by rw [y,hD] at z1;cases z1
  exact hid_mk (by rw [upd_ne na];exact z1) (fun y=>((eS a).mp y).elim na z2) (hid_vis z)
 have e0:∀n,hid (c.S (G++L) (nons n)) H=vs4 c G L H:=fun n=>by rw [S_nons]
 refine ⟨⟨⟨l.inv, ?_,fun a h=>⟨rfl, ?_⟩,fun a h u e=> ?_,by rw [addrs_nons];exact List.nodup_nil,(by rw [addrs_nons];intro a h;cases h),r.r3.l1,r.r3.l2, ?_⟩,Same.refl _,fun _ _=>rfl,⟨r.cells.on,fun a h z=> ?_,fun a t e=> ?_⟩⟩,hv⟩
 · rw [S_nons, ←List.append_assoc]
   exact Same.refl _
 · by_cases z:a=D
   · subst z
     exact ⟨(by rw [upd_same];intro y;cases y),fun y=>nD (by simp [y])⟩
   · have hm:a∈G++L:=by
      rcases List.mem_append.mp h with h | h
      · exact List.mem_append.mpr (.inl ((List.mem_cons.mp h).resolve_left z))
      · exact List.mem_append.mpr (.inr h)
     rw [upd_ne z]
     exact (r.r3.gk a hm).2
 · by_cases z:a=D
   · subst z
     rw [upd_same] at e
     cases e
     exact c.gV _ ho
   · have hm:a∈G++L:=by
      rcases List.mem_append.mp h with h | h
      · exact List.mem_append.mpr (.inl ((List.mem_cons.mp h).resolve_left z))
      · exact List.mem_append.mpr (.inr h)
     rw [upd_ne z] at e
     exact r.r3.gv a hm u e
 · intro i s o' x h1 h2 h3
   have z:=r.r3.at_ i s o' x h1 h2 h3
   rw [e0] at z
   rw [S_nons]
   cases s with
   | no=>exact z
   | val t=>obtain ⟨e,v,e2,q⟩:=z;exact ⟨e,v,e2,q.mono hv⟩
   | own t=>
     obtain ⟨a,e,_⟩:=z
     have:=(List.mem_replicate.mp (List.mem_of_getElem? h2)).2
     rw [this] at e
     cases e
 · have:=r.cells.off a h
   rcases List.mem_append.mp z with z | z
   · exact this (by simp [z])
   · rcases List.mem_cons.mp z with z | z
     · subst z;exact nD (by simp [h])
     · exact this (by simp [z])
 · have na:a≠D:=fun y=>by
    subst y
    exact nD (by simp [(r.cells.on a).mpr (by rw [e];intro z;cases z)])
   exact (r.cells.at_ a t e).mono hv (upd_ne na)
theorem R4.show_ {D:Addr} {Hx:Hp} {Lx:List Addr} (r:R4 K c Hx (D::G) Lx L M σ3 σ H) (nG:D ∉ c.S0++G):R4 K c H G L L M σ3 σ H∧Same (vs4 c (D::G) L H) (vs4 c G L H):=by
 have hv:Same (vs4 c (D::G) L H) (vs4 c G L H):=hid_mono fun a h=>by
  simp only [List.mem_cons,List.mem_append] at h ⊢
  rcases h with (h | h) | h<;>simp [h]
 have e0:∀n,hid (c.S (D::G++L) (nons n)) H=vs4 c (D::G) L H:=fun n=>by rw [S_nons]
 refine ⟨⟨⟨r.r3.inv, ?_,fun a h=>⟨rfl,(r.r3.gk a ?_).2⟩,fun a h u e=>r.r3.gv a ?_ u e,by rw [addrs_nons];exact List.nodup_nil,(by rw [addrs_nons];intro a h;cases h),r.r3.l1,r.r3.l2, ?_⟩,Same.refl _,fun _ _=>rfl,⟨r.cells.on,fun a h z=> ?_,fun a t e=>(r.cells.at_ a t e).mono hv rfl⟩⟩,hv⟩
 · rw [S_nons, ←List.append_assoc]
   exact Same.refl _
 · rcases List.mem_append.mp h with h | h<;>simp [h]
 · rcases List.mem_append.mp h with h | h<;>simp [h]
 · intro i s o' x h1 h2 h3
   have z:=r.r3.at_ i s o' x h1 h2 h3
   rw [e0] at z
   rw [S_nons]
   cases s with
   | no=>exact z
   | val t=>obtain ⟨e,v,e2,q⟩:=z;exact ⟨e,v,e2,q.mono hv⟩
   | own t=>
     obtain ⟨a,e,_⟩:=z
     have:=(List.mem_replicate.mp (List.mem_of_getElem? h2)).2
     rw [this] at e
     cases e
 · exact r.cells.off a h (by rcases List.mem_append.mp z with z | z<;>simp [z])
theorem R4.hidPut (r:R4 K c Hb G L0 L M σ3 σ H) {D:Addr} {o:HO} (hD:D∈G) (h0:∀φ,H D≠some (.ext φ)) (ho:vis o=true):R4 K c (upd H D o) G L L M σ3 σ (upd H D o)∧vs4 c G L (upd H D o)=vs4 c G L H:=by
 have hv:vs4 c G L (upd H D o)=vs4 c G L H:=hid_upd_in (by simp [hD])
 have nD:D ∉ c.S0:=(r.r3.gk D (by simp [hD])).2.2
 have e0:∀n,hid (c.S (G++L) (nons n)) H=vs4 c G L H:=fun n=>by rw [S_nons]
 have inv:c.I (upd H D o):=c.st H _ (fun b hb=>upd_ne (fun z=>nD (by rw [←z];exact hb))) (fun b φ e=>by
  have:b≠D:=fun z=>h0 _ ((congrArg H z).symm.trans e)
  rw [upd_ne this];exact e) r.r3.inv
 refine ⟨⟨⟨inv, ?_,fun a h=>⟨rfl, ?_⟩,fun a h u e=> ?_,by rw [addrs_nons];exact List.nodup_nil,(by rw [addrs_nons];intro a h;cases h),r.r3.l1,r.r3.l2, ?_⟩,Same.refl _,fun _ _=>rfl,⟨r.cells.on,r.cells.off,fun a t e=> ?_⟩⟩,hv⟩
 · rw [S_nons, ←List.append_assoc]
   exact Same.refl _
 · by_cases z:a=D
   · subst z
     exact ⟨(by rw [upd_same];intro y;cases y),nD⟩
   · rw [upd_ne z]
     exact (r.r3.gk a h).2
 · by_cases z:a=D
   · subst z
     rw [upd_same] at e
     cases e
     exact c.gV _ ho
   · rw [upd_ne z] at e
     exact r.r3.gv a h u e
 · intro i s o' x h1 h2 h3
   have z:=r.r3.at_ i s o' x h1 h2 h3
   rw [e0] at z
   rw [S_nons]
   show SlRep K (vs4 c G L (upd H D o)) (upd H D o) s o' x
   rw [hv]
   cases s with
   | no=>exact z
   | val t=>exact z
   | own t=>
     obtain ⟨a,e,_⟩:=z
     have:=(List.mem_replicate.mp (List.mem_of_getElem? h2)).2
     rw [this] at e
     cases e
 · show CellRep K (vs4 c G L (upd H D o)) (upd H D o) a t
   rw [hv]
   refine (r.cells.at_ a t e).mono (Same.refl _) (upd_ne fun z=> ?_)
   exact r.cells.off a ((r.cells.on a).mpr (by rw [e];intro z;cases z)) (by rw [z];simp [hD])
def comp4 (g:TG3) (tt:B3) (te:E4) (σ:List Sl) (X:XM) (Q:List T→Mem→Prop):List T→List T→Mem→Prop
 | [],acc,M=>Q acc M
 | x::r,acc,M=>g x σ fun σ'=>tt σ' (fun b=>if b=true then te σ' M (fun y M1=>acc.length<sizeLine∧comp4 g tt te σ X Q r (acc++[y]) M1) X else comp4 g tt te σ X Q r acc M) (fun x=>X x M)
def lc4 (s:A3) (g:TG3) (tt:B3) (te:E4) (vs:List Nat):E4:=fun σ M Q X=>s σ (fun ds=>comp4 g tt te (wipe3 σ vs) X (fun ys M1=>Q (.lst ys) M1) ds [] M) (fun x=>X x M)
theorem lift_lc4 {wk:Bool} {vs:List Nat} {wi:TI} {s:A3} {g:TG} {g3:TG3} {tt:TT} {b:B3} {te:TE} {e4:E4} (hi:LiftIB K c wk W wi s) (hg:LiftTgB K c wk vs g g3) (ht:LiftT K c W tt b) (he:Lift4 K c W te e4)
 (hW:∀cls dd σ σ' H,W cls dd σ H→W cls dd σ' H):Lift4 K c W (tLc wi g tt te vs) (lc4 s g3 b e4 vs):=by
 intro σ3 M Q4 X h Hb G L0 L σ H Q R k e
 refine hi _ _ _ h H (G++L) (nons σ3.length) σ H _ R.r3 (fun J ds H1 l1 w q=> ?_) (fun cls dd x H' l r q=> ?_)
 rotate_left
 · rw [S_nons] at r
   exact e cls dd x L M H' (R.le l) l.vis4 r q
 have R1:=R.le l1
 rw [S_nons] at w
 intro D hD
 have nG:D ∉ c.S0++G:=fun z=>R1.r3.there (by rw [S_nons];simp only [List.mem_append] at z ⊢;rcases z with z | z<;>simp [z]) hD
 have RW:R4 K c Hb G L0 L M (wipe3 σ3 vs) (wipe σ vs) H1:=R1.slots (R1.r3.wiped (vs:=vs) (R1.noOwn vs)) (by intro a h;rw [addrs_nons] at h;cases h)
 obtain ⟨RD,vD⟩:=RW.hide (o:=.lst []) hD rfl
 have fin:∀L' M' H',R4 K c H' (D::G) L' L' M' (wipe3 σ3 vs) (wipe σ vs) H'→Same (vs4 c G L H1) (vs4 c (D::G) L' H')→(∀a∈G,H' a=H1 a)→R4 K c Hb G L0 L' M' σ3 σ H'∧Same (vs4 c G L H1) (vs4 c G L' H')∧Same (vs4 c (D::G) L' H') (vs4 c G L' H'):=by
  intro L' M' H' R' v' g'
  obtain ⟨RS,vS⟩:=R'.show_ nG
  exact ⟨R1.step RS.r3.inv (Same.trans v' vS) g' RS.cells,Same.trans v' vS,vS⟩
 refine ⟨fun i m H'=>m=ds.length-i∧i≤ds.length∧∃accV acc L' M',H' D=some (.lst accV)∧R4 K c H' (D::G) L' L' M' (wipe3 σ3 vs) (wipe σ vs) H'∧RepL K (vs4 c (D::G) L' H') accV acc∧comp4 g3 b e4 (wipe3 σ3 vs) X (fun ys M1=>Q4 (.lst ys) M1) (ds.drop i) acc M'∧
  Same (vs4 c G L H1) (vs4 c (D::G) L' H')∧(∀a∈G,H' a=H1 a),⟨ds.length,rfl,Nat.zero_le _,[],[],L,M,upd_same,RD,.nil,by simpa using q,vD,fun a h=>upd_ne (fun z=>nG (by rw [←z];simp [h]))⟩, ?_⟩
 rintro i m H2 ⟨rfl,hi,accV,acc,L2,M2,hd2,R2,racc,q2,vis,gk2⟩
 obtain ⟨F1,F2,F3⟩:=fin L2 M2 H2 R2 vis gk2
 by_cases hl:i=ds.length
 · subst hl
   left
   refine ⟨w.stop _ _ F2, ?_⟩
   have e':ds.drop ds.length=[]:=List.drop_length
   rw [e'] at q2
   have nD2:D ∉ c.S0++G++L2:=fun z=>by
    rcases List.mem_append.mp z with z | z
    · exact nG z
    · exact R2.cells.off D z (by simp)
   exact k _ _ L2 M2 H2 F1 (Same.trans l1.vis4 F2) (.mkL (hid_mk hd2 nD2) (racc.mono F3)) q2
 · right
   have hlt:i<ds.length:=Nat.lt_of_le_of_ne hi hl
   have hdd:ds[i]? =some ds[i]:=List.getElem?_eq_getElem hlt
   rw [List.drop_eq_getElem_cons hlt] at q2
   refine ⟨w.go i _ _ _ hdd F2,fun H3=>∃accV acc L' M',H3 D=some (.lst accV)∧R4 K c H3 (D::G) L' L' M' (wipe3 σ3 vs) (wipe σ vs) H3∧RepL K (vs4 c (D::G) L' H3) accV acc∧comp4 g3 b e4 (wipe3 σ3 vs) X (fun ys M1=>Q4 (.lst ys) M1) (ds.drop (i+1)) acc M'∧
    Same (vs4 c G L H1) (vs4 c (D::G) L' H3)∧(∀a∈G,H3 a=H1 a), ?_, ?_⟩
   · rintro H3 ⟨accV,acc,z⟩
     exact ⟨ds.length-(i+1),by omega,rfl,hlt,accV,acc,z⟩
   · intro x H3 y
     obtain ⟨hn,rx⟩:=w.yld i _ (c.S0++(D::G)++L2) _ x H3 hdd vis (fun a h=>R2.r3.there (by rw [S_nons];exact h)) y
     have l3:Le c (D::G++L2) (nons (wipe3 σ3 vs).length) H2 H3:=by
      rcases hn with rfl | ⟨p,o,hp,rfl⟩
      · exact Le.refl R2.r3.inv
      · exact R2.r3.new hp
     have R3':=R2.le l3
     have exn:∀(σ':St) cls dd x L' M' (σx:List Sl) H',R4 K c H2 (D::G) L2 L' M' σx σ' H'→XRep K (vs4 c (D::G) L' H') cls dd x→X x M'→W cls dd σ' H':=fun σ' cls dd x L' M' σx H' R' r hx=>by
      have R5:R4 K c H2 (D::G) L2 L' M' (wipe3 σ3 vs) (wipe σ vs) H':=R2.step R'.r3.inv R'.base R'.gk R'.cells
      obtain ⟨f1,f2,f3⟩:=fin L' M' H' R5.rebase (Same.trans vis R5.base) (fun a h=>(R5.gk a (by simp [h])).trans (gk2 a h))
      refine hW cls dd σ σ' H' (e cls dd x L' M' H' f1 (Same.trans l1.vis4 f2) ?_ hx)
      obtain ⟨r1,r2⟩:=r
      refine ⟨r1, ?_⟩
      cases dd with
      | none=>exact r2
      | some d=>
        obtain ⟨fs,g1,g2,g3⟩:=r2
        exact ⟨fs,f3 _ _ g1,g2,g3.mono f3⟩
     refine hg _ _ _ q2 H3 (D::G++L2) (nons (wipe3 σ3 vs).length) (wipe σ vs) H3 x _ R3'.r3 (by rw [S_nons];exact rx) (fun A4 σ4 σ4' H4 R4a e4' st q4=> ?_)
     subst e4'
     have hA4:∀a,a ∉ addrs A4:=fun a h=>by
      have:=st.2.2 a h
      rw [addrs_nons] at this
      cases this
     refine ⟨?_, ?_⟩
     · rw [wipe_eq st.1 (fun j hj=>(st.2.1 j hj).1),wipe_wipe]
     have R4b:=R3'.slots R4a hA4
     refine ht _ _ _ q4 H4 (D::G++L2) (nons σ4.length) σ4' H4 _ R4b.r3 (fun v d H5 l5 r5 q5=> ?_) (fun cls dd x H5 l5 r5 q5=> ?_)
     rotate_left
     · rw [S_nons] at r5
       exact exn σ4' cls dd x L2 M2 σ4 H5 (R4b.le l5) r5 q5
     subst r5
     have R5:R4 K c H2 (D::G) L2 L2 M2 σ4 σ4' H5:=R4b.le l5
     cases v with
     | false=>
       rw [if_neg (by decide)]
       have q5':comp4 g3 b e4 (wipe3 σ3 vs) X (fun ys M1=>Q4 (.lst ys) M1) (ds.drop (i+1)) acc M2:=by simpa using q5
       have R6:R4 K c H2 (D::G) L2 L2 M2 (wipe3 σ3 vs) (wipe σ vs) H5:=R2.step R5.r3.inv R5.base R5.gk R5.cells
       exact ⟨accV,acc,L2,M2,(R6.gk D (by simp)).trans hd2,R6.rebase,racc.mono R6.base,q5',Same.trans vis R6.base,fun a h=>(R6.gk a (by simp [h])).trans (gk2 a h)⟩
     | true=>
       rw [if_pos rfl]
       have q5':e4 σ4 M2 (fun y M1=>acc.length<sizeLine∧comp4 g3 b e4 (wipe3 σ3 vs) X (fun ys M1=>Q4 (.lst ys) M1) (ds.drop (i+1)) (acc++[y]) M1) X:=by simpa using q5
       refine he _ _ _ _ q5' H2 (D::G) L2 L2 σ4' H5 _ R5 (fun v d L6 M6 H6 R6 s6 r6 q6=> ?_) (fun cls dd x L6 M6 H6 R6 s6 r6 q6=>exn σ4' cls dd x L6 M6 σ4 H6 R6 r6 q6)
       have R7:R4 K c H2 (D::G) L2 L6 M6 (wipe3 σ3 vs) (wipe σ vs) H6:=R2.step R6.r3.inv R6.base R6.gk R6.cells
       have hd6:H6 D=some (.lst accV):=(R7.gk D (by simp)).trans hd2
       obtain ⟨R8,v8⟩:=R7.hidPut (D:=D) (o:=.lst (accV++[v])) (by simp) (fun φ z=>by rw [hd6] at z;cases z) rfl
       refine ⟨accV,hd6,by rw [racc.length];exact q6.1,accV++[v],acc++[d],L6,M6,upd_same,R8, ?_,q6.2, ?_,fun a h=> ?_⟩
       · rw [v8]
         exact (racc.mono R7.base).append (.cons r6 .nil)
       · rw [v8]
         exact Same.trans vis R7.base
       · rw [upd_ne (fun z=>nG (by rw [←z];simp [h]))]
         exact (R7.gk a (by simp [h])).trans (gk2 a h)
end
end M3
namespace M3
open PySem L2
section
variable {K:PySem.W.Frag} {c:Cf} {Hb H H':Hp} {G L0 L L':List Addr} {M M':Mem} {σ3:List Sl} {σ:St} {W:WX}
theorem set_same {α:Type} {l:List α} {i:Nat} {x:α} (h:l[i]? =some x):l.set i x=l:=by
 apply List.ext_getElem?
 intro j
 by_cases e:i=j
 · subst e
   rw [List.getElem?_set_self (List.getElem?_eq_some_iff.mp h).1,h]
 · rw [List.getElem?_set_ne e]
theorem nons_set {n i:Nat}:(nons n).set i none=nons n:=by
 apply List.ext_getElem?
 intro j
 by_cases e:i=j
 · subst e
   by_cases hl:i<n
   · rw [List.getElem?_set_self (by simpa using hl)]
     simp [hl]
   · rw [List.getElem?_eq_none (by simpa using Nat.le_of_not_lt hl),List.getElem?_eq_none (by simpa using Nat.le_of_not_lt hl)]
 · rw [List.getElem?_set_ne e]
def thaw4 (M:Mem) (σ:List Sl) (i:Nat):Option (List Sl×Mem):=match σ[i]? with
 | some (.val (.ref a))=>(cellL M a).map fun xs=>(σ.set i (.val (.lst xs)),mset M a none)
 | _=>none
def frz4 (i:Nat) (x:S4):S4:=fun N σ M=>ob (thaw4 M σ i) fun p=>x N p.1 p.2
theorem R4.thaw (r:R4 K c Hb G L0 L M σ3 σ H) {i:Nat} {p:List Sl×Mem} (h:thaw4 M σ3 i=some p):∃L',R4 K c Hb G L0 L' p.2 p.1 σ H:=by
 unfold thaw4 at h
 split at h
 · rename_i a ea
   cases ex:cellL M a with
   | none=>rw [ex] at h;cases h
   | some xs=>
     rw [ex] at h
     cases h
     obtain ⟨ma,vs,h1,h2⟩:=r.atL (cellL_is ex)
     have sub:∀b∈L.filter (fun b=>decide (b≠a)),b∈L:=fun b hb=>(List.mem_filter.mp hb).1
     have hv:Same (vs4 c G L H) (vs4 c G (L.filter fun b=>decide (b≠a)) H):=hid_mono fun b hb=>by
      rcases List.mem_append.mp hb with hb | hb
      · exact List.mem_append.mpr (.inl hb)
      · exact List.mem_append.mpr (.inr (sub b hb))
     have R1:R4 K c Hb G L0 (L.filter fun b=>decide (b≠a)) (mset M a none) σ3 σ H:=by
      refine r.step r.r3.inv hv (fun _ _=>rfl) ⟨fun b=> ?_,fun b hb=>r.cells.off b (sub b hb),fun b t e=> ?_⟩
      · by_cases z:b=a
        · subst z;simp
        · rw [mset_ne z,List.mem_filter]
          simp [z,r.cells.on b]
      · by_cases z:b=a
        · subst z;rw [mset_same] at e;cases e
        · rw [mset_ne z] at e
          exact (r.cells.at_ b t e).mono hv rfl
     refine ⟨L.filter fun b=>decide (b≠a), ?_⟩
     obtain ⟨v,hσ,rv⟩:=R1.r3.get ea
     cases rv.refI
     have nS:a ∉ c.S0++G++L.filter fun b=>decide (b≠a):=fun z=>by
      rcases List.mem_append.mp z with z | z
      · exact r.cells.off a ma z
      · simpa using (List.mem_filter.mp z).2
     have rl:Rep K (hid (c.S (G++L.filter fun b=>decide (b≠a)) (nons σ3.length)) H) (.ref a) (.lst xs):=by
      rw [S_nons]
      exact .mkL (hid_mk h1 nS) (h2.mono hv)
     have q:=R1.r3.set i rl
     rw [set_same hσ,nons_set] at q
     exact R1.slots q (by intro b hb;rw [addrs_nons] at hb;cases hb)
 · cases h
theorem lift_frz4 {i:Nat} {ts:TS} {x:S4} (h:LiftS4 K c W ts x):LiftS4 K c W ts (frz4 i x):=by
 intro N σ3 M hh Hb G L0 L σ H D R Z
 obtain ⟨p,ep,q⟩:=ob_iff.mp hh
 obtain ⟨L',R'⟩:=R.thaw ep
 exact h _ _ _ q Hb G L0 L' σ H D R' Z
end
end M3
namespace M3
open PySem L2
theorem law_rest4 {K:PySem.W.Frag} {p cc:Addr} {Ts:List (Addr×Str)} {W:WX} {t:TS} {x:S4} {H:Hp} {Q:VK} {a:Addr} (m:Nat) (lt:LiftS4 K (potT p cc Ts) W t x) (hp:PotAt p cc H) (ht:LamX.Tabs Ts H) (hQ:∀H',Q (.bl true) H')
 (hx:x {nx:=fun _ _=>False,rt:=fun d _=>d= .bl true} (Sl.no::Sl.val (.ref p)::List.replicate m Sl.no) (fun _=>none)):t {nx:=fun _ H'=>Q .non H',rt:=Q} (some (V.ref a)::some (V.ref p)::List.replicate m none) H:=by
 have r:=r3_pot (K:=K) (Ts:=Ts) m a hp ht
 have hA:=nons_of (A:=_) (fun b (hb:b∈addrs _)=>by
  have:=r.ns b hb
  exact absurd hb (by
   intro z
   have h2:=mem_addrs.mp z
   simp at h2))
 rw [r.l1] at hA
 rw [hA] at r
 have R0:R4 K (potT p cc Ts) H [] [] [] (fun _=>none) (Sl.no::Sl.val (.ref p)::List.replicate m Sl.no) (some (V.ref a)::some (V.ref p)::List.replicate m none) H:=
  ⟨r.re,Same.refl _,fun _ h=>(by cases h),⟨fun b=>by simp,fun b h=>(by cases h),fun b t e=>by cases e⟩⟩
 refine lt _ _ _ hx H [] [] [] _ H _ R0 ⟨fun _ _ _ _ _ _ z=>z.elim,fun v d L' M' H' _ rv e=> ?_,fun _ _ _ _ _ _ z=>z.elim,fun _ _ _ _ _ _ z=>z.elim,fun _ _ _ _ _ _ _ _ _ _ z=>z.elim⟩
 subst e
 rw [rv.blI]
 exact hQ H'
end M3
namespace M3
open PySem L2
def tFzD (te:TE):TE:=fun σ H Q=>te σ H fun x H1=>∃p kvs,x= .ref p∧H1 p=some (.dK kvs)∧∀o,Q x (upd H1 p (.frz o (.dK kvs)))
theorem pe_fzD {X:Cx} {e:Expr} {te:TE} (h:PE X e te):PE X e (tFzD te):=by
 constructor
 intro pins s σ H Q I hq
 refine thn (h.run pins s σ H _ I hq) ?_
 rintro v s1 ⟨x,H1,I1,r1,p,kvs,rfl,hp,q⟩
 have ok:=I1.hok p _ hp
 obtain ⟨z,y,vs,rel,o,es,ep,eo,ro⟩:=id ok
 refine ⟨.ref p,upd H1 p (.frz o (.dK kvs)), ?_,r1,q o⟩
 have:=I1.write (x:=p) (e:=p) (o:=.frz o (.dK kvs)) (h':=s1.heap) (t':=s1.toks) (by rw [hp];exact trivial) (.inl rfl) (fun b u _ e=>e) ⟨o,eo⟩ ⟨eo,z,y,vs,rel,o,es,ep,eo,ro⟩
 exact this
structure FrK (K:PySem.W.Frag) (c:Cf) (G:List Addr) (A:List (Option Addr)) (H H':Hp) (D:Addr) (kvs:List (Key×V)) (ts:List (Key×T)):Prop where
 nD:D ∉ c.S G A
 vis:Same (hid (c.S G A) H) (hid (D::c.S G A) H')
 own:∀a∈G++addrs A,H' a=H a
 inv:c.I H'
 at_:H' D=some (.dK kvs)
 key:kvs.map (·.1)=ts.map (·.1)
 rep:RepL K (hid (D::c.S G A) H') (kvs.map (·.2)) (ts.map (·.2))
def LiftFrK (K:PySem.W.Frag) (c:Cf) (W:WX) (te:TE) (t:E3):Prop:=
 ∀σ3 Q3 X,t σ3 Q3 X→∀Hb G A σ H Q,R3 K c Hb G A σ3 σ H→
  (∀D kvs ts H',FrK K c G A H H' D kvs ts→Q3 (.dic ts)→Q (.ref D) H')→
  (∀cls dd x H',Le c G A H H'→XRep K (hid (c.S G A) H') cls dd x→X x→W cls dd σ H')→te σ H Q
section
variable {K:PySem.W.Frag} {c:Cf} {W:WX} {te:TE} {t:E3} {Hb H H':Hp} {G:List Addr} {A:List (Option Addr)} {σ3:List Sl} {σ:St}
theorem rep_dic {Hv:Hp} {a:Addr} {o:Obj} {kvs:List (Key×V)} {ts:List (Key×T)} (h:Hv a=some (.frz o (.dK kvs))) (hk:kvs.map (·.1)=ts.map (·.1)) (r:RepL K Hv (kvs.map (·.2)) (ts.map (·.2))):Rep K Hv (.ref a) (.dic ts):=.dic ⟨o,h⟩ hk fun i v t e1 e2=>r.at e1 e2
theorem lift_fzD (h:LiftFrK K c W te t):Lift K c W (tFzD te) t:=by
 intro σ3 Q3 X ht Hb G A σ H Q R k e
 refine h _ _ _ ht Hb G A σ H _ R (fun D kvs ts H' f q=>⟨D,kvs,rfl,f.at_,fun o=> ?_⟩) e
 have sm:Same (hid (D::c.S G A) H') (hid (c.S G A) (upd H' D (.frz o (.dK kvs)))):=fun a u z=>by
  obtain ⟨z1,z2⟩:=hid_some z
  have na:a≠D:=fun y=>z2 (by rw [y];exact List.mem_cons_self ..)
  exact hid_mk (by rw [upd_ne na];exact z1) (fun y=>z2 (List.mem_cons_of_mem _ y)) (hid_vis z)
 have l:Le c G A H (upd H' D (.frz o (.dK kvs))):=by
  refine ⟨Same.trans f.vis sm,fun a ha=> ?_,c.st H' _ (fun a ha=>upd_ne fun z=>f.nD (mem_S.mpr (.inl (by rw [←z];exact ha)))) (fun a φ z=> ?_) f.inv⟩
  · rw [upd_ne fun z=>f.nD (mem_S.mpr (by rw [←z];rcases List.mem_append.mp ha with z | z;exact .inr (.inl z);exact .inr (.inr z)))]
    exact f.own a ha
  · rw [upd_ne fun y=>by rw [y,f.at_] at z;cases z];exact z
 exact k _ _ _ l (rep_dic (hid_mk upd_same f.nD) f.key (f.rep.mono sm)) q
inductive PsR (K:PySem.W.Frag) (c:Cf) (W:WX):List (TE×TE)→List (Str×E3)→Prop
 | nil:PsR K c W [] []
 | cons {k:Str} {te:TE} {e:E3} {ps:List (TE×TE)} {es:List (Str×E3)} (h:Lift K c W te e) (q:PsR K c W ps es):PsR K c W ((tC (.str k),te)::ps) ((k,e)::es)
def vals3:List (Str×E3)→A3
 | []=>nil3
 | (_,e)::es=>cons3 e (vals3 es)
def disp3 (es:List (Str×E3)):E3:=fun σ Q X=>vals3 es σ (fun ds=>es.length≤15∧Q (.dic (mrgT [] (((es.map (·.1)).zip ds).map fun p=>(.inr p.1,p.2))))) X
theorem zipK {Hv:Hp}:∀ {ks:List Str} {vs:List V} {ds:List T},ks.length=ds.length→RepL K Hv vs ds→RepD K Hv ((ks.zip vs).map fun p=>(.inr p.1,p.2)) ((ks.zip ds).map fun p=>(.inr p.1,p.2))
 | [],_,_,_,_=>by simp;exact .nil
 | _::_,_,[],h,_=>by simp at h
 | _::ks,_,_::ds,h,.cons r rs=>.cons ⟨rfl,r⟩ (zipK (by simpa using h) rs)
theorem rep_off {S:List Addr} {Hx:Hp} {p:Addr} {kvs:List (Key×V)} (hp:Hx p=some (.dK kvs)) {v:V} {d:T} (r:Rep K (hid S Hx) v d):Rep K (hid (p::S) Hx) v d:=by
 have off:∀a o,hid S Hx a=some o→(∀k,o≠ .dK k)→hid (p::S) Hx a=some o:=fun a o z n=>by
  obtain ⟨z1,z2⟩:=hid_some z
  exact hid_mk z1 (fun y=>by
   rcases List.mem_cons.mp y with y | y
   · rw [y,hp] at z1;cases z1;exact n _ rfl
   · exact z2 y) (hid_vis z)
 induction r with
 | non=>exact .non
 | bl b=>exact .bl b
 | int i=>exact .int i
 | str x=>exact .str x
 | ty n=>exact .ty n
 | ref a=>exact .ref a
 | tup h hl _ ih=>
   refine .tup ?_ hl ih
   rcases h with ⟨o,d,e⟩ | h
   · exact .inl ⟨o,d,off _ _ e fun k z=>by cases z⟩
   · exact .inr h
 | lst h hl _ ih=>exact .lst (off _ _ h fun k z=>by cases z) hl ih
 | dic h hk _ ih=>exact .dic (let ⟨o,q⟩:=h; ⟨o,off _ _ q fun k z=>by cases z⟩) hk ih
 | ins h hk _ ih=>exact .ins (off _ _ h fun k z=>by cases z) hk ih
theorem lift_frDisp {ps:List (TE×TE)} {es:List (Str×E3)} (h:PsR K c W ps es):LiftFrK K c W (tDisp ps) (disp3 es):=by
 intro σ3 Q3 X hq Hb G A σ H Q R k e p hp
 have L0:=R.new (o:=.dK []) hp
 have R0:=R.le L0
 have nP:p ∉ c.S G A:=R.free hp
 have go:∀ {ps:List (TE×TE)} {es:List (Str×E3)},PsR K c W ps es→∀(Q3:List T→Prop) (H1:Hp),Le c G A (upd H p (.dK [])) H1→vals3 es σ3 Q3 X→∀(Q:List (V×V)→Hp→Prop),
  (∀vs ds H',Le c G A H1 H'→RepL K (hid (c.S G A) H') vs ds→ds.length=es.length→Q3 ds→Q (((es.map (·.1)).zip vs).map fun q=>(.str q.1,q.2)) H')→tPairs ps σ H1 Q:=by
  intro ps es hps
  induction hps with
  | nil=>intro Q3 H1 l hq Q kk;exact kk [] [] H1 (Le.refl l.inv) .nil rfl hq
  | @cons kx te ex ps es hx hps ih=>
    intro Q3 H1 l hq Q kk
    show te σ H1 _
    refine hx _ _ _ hq Hb G A σ H1 _ (R0.le l) (fun v d H2 l2 rv q2=> ?_) (fun cls dd x H' l' r q=>e cls dd x H' ((L0.trans l).trans l') r q)
    refine ih _ H2 (l.trans l2) q2 _ (fun vs ds H3 l3 rs hl q3=> ?_)
    exact kk (v::vs) (d::ds) H3 (l2.trans l3) (.cons (rv.mono l3.vis) rs) (by simp [hl]) q3
 refine go h _ _ (Le.refl L0.inv) hq _ (fun vs ds H' l rs hl q=> ?_)
 have at1:H' p=some (.dK []):=(hid_some (l.vis _ _ (R.newAt (o:=.dK []) hp))).1
 have kl:(es.map (·.1)).length=ds.length:=by rw [List.length_map,hl]
 have lv:=rs.length
 refine ⟨at1,((es.map (·.1)).zip vs).map fun q=>(.inr q.1,q.2),by rw [List.map_map];rfl,by simp;omega, ?_⟩
 have sm:Same (hid (c.S G A) H) (hid (p::c.S G A) (upd H' p (.dK (mergeK [] (((es.map (·.1)).zip vs).map fun q=>(.inr q.1,q.2)))))):=by
  rw [hid_upd_in (List.mem_cons_self ..)]
  intro a u z
  obtain ⟨z1,z2⟩:=hid_some z
  have na:a≠p:=fun y=>by rw [y,hp] at z1;cases z1
  have:=(hid_some (l.vis _ _ (L0.vis _ _ z))).1
  exact hid_mk this (fun y=>by
   rcases List.mem_cons.mp y with y | y
   · exact na y
   · exact z2 y) (hid_vis z)
 have hv:hid (p::c.S G A) (upd H' p (.dK (mergeK [] (((es.map (·.1)).zip vs).map fun q=>(.inr q.1,q.2)))))=hid (p::c.S G A) H':=hid_upd_in (List.mem_cons_self ..)
 have rs2:RepL K (hid (p::c.S G A) H') vs ds:=Paired.mapP rs fun _ _ z=>rep_off at1 z
 have rd:RepD K (hid (p::c.S G A) H') (mergeK [] (((es.map (·.1)).zip vs).map fun q=>(.inr q.1,q.2))) (mrgT [] (((es.map (·.1)).zip ds).map fun q=>(.inr q.1,q.2))):=RepD.mrg (zipK kl rs2) .nil
 refine k p _ _ _ ⟨nP,sm,fun a ha=> ?_,c.st H' _ (fun a ha=>upd_ne fun z=>nP (mem_S.mpr (.inl (by rw [←z];exact ha)))) (fun a φ z=> ?_) l.inv,upd_same,rd.keys, ?_⟩ q.2
 · rw [upd_ne fun z=>nP (mem_S.mpr (by rw [←z];rcases List.mem_append.mp ha with z | z;exact .inr (.inl z);exact .inr (.inr z)))]
   exact ((L0.trans l).own a ha)
 · rw [upd_ne fun y=>by rw [y,at1] at z;cases z];exact z
 · rw [hv]
   exact repL_mk (by have:=congrArg List.length rd.keys;simpa using this) rd.at
theorem RepD.valN {Hv:Hp} {kvs:List (Key×V)} {ts:List (Key×T)} (r:RepD K Hv kvs ts) {k:Key} (h:valT ts k=none):valV kvs k=none:=by
 unfold valT at h
 unfold valV
 have:=r.any k
 cases e:kvs.find? fun kv=>decide (kv.1=k) with
 | none=>rfl
 | some q=>
   have h1:(kvs.any fun kv=>decide (kv.1=k))=true:=List.any_eq_true.mpr ⟨q,List.mem_of_find?_eq_some e,by simpa using List.find?_some e⟩
   rw [this] at h1
   obtain ⟨p,hp,hk⟩:=List.any_eq_true.mp h1
   have h2:ts.find? (fun kv=>decide (kv.1=k))=none:=by simpa using h
   exact absurd hk (by simpa using List.find?_eq_none.mp h2 p hp)
end
end M3
namespace PySem.SeqAt
open AutoSeq1 (wpAny_loadPart')
open MeetsSeq MeetsSeq2 MeetsSeq3 SeqRoads2
end PySem.SeqAt
namespace M3
open PySem L2
section
variable {X:Cx} {pins:List (Addr×Obj)} {σ:St} {H:Hp} {s:Shared} {S:List Addr}
theorem vals_at {vs:List V} {us:List Value} (r:Vals vs us) {i:Nat} {u:Value} (h:us[i]? =some u):∃v,vs[i]? =some v∧RelV v u:=by
 rcases vals_get (i:=i) r with ⟨v,w,e1,e2,q⟩ | ⟨_,e2⟩
 · rw [h] at e2;cases e2;exact ⟨v,e1,q⟩
 · rw [h] at e2;cases e2
theorem paired_i {α β:Type} {F:α→β→Prop}:∀ {xs:List α} {ys:List β} {i:Nat} {x:α} {y:β},Paired F xs ys→xs[i]? =some x→ys[i]? =some y→F x y
 | _,_,_,_,_,.nil,e,_=>by simp at e
 | _,_,0,_,_,.cons r _,e,f=>by simp at e f;subst e;subst f;exact r
 | _,_,i+1,_,_,.cons _ q,e,f=>paired_i (i:=i) q (by simpa using e) (by simpa using f)
end
end M3
namespace M3
open PySem L2
theorem Room.units200 {k:Nat} {A:Around} (r:Room k A):A.units+200<cLine:=by have:=r.un;omega
end M3
namespace M3
open PySem L2
end M3
namespace M3
open PySem L2
end M3
namespace M3
open PySem L2 PySem.Froz PyProof.Rows
end M3
namespace M3
open PySem L2 PySem.Froz PyProof.Rows
end M3
namespace M3
open PySem L2 PySem.Froz PyProof.Rows
end M3
namespace M3
open PySem L2 PySem.Froz PyProof.Rows PySem.Spec
end M3
namespace M3
open PySem L2 PySem.Froz PyProof.Rows
end M3
namespace M3
open PySem PySem.Spec PySem.Froz PyProof.Rows L2
end M3
namespace M3
open PySem L2
end M3
namespace M3
open PySem PySem.Spec PyProof.Rows L2
end M3
namespace M3
open PySem PySem.Spec PyProof.Rows L2
end M3
set_option maxHeartbeats 1000000
namespace M3
open PySem PySem.Spec PyProof.Rows L2 LamX
structure LamP (sc scope:Scope) (b:Str):Prop where
 kind:scope.kind= .function
 co:scope.isCoroutine=false
 gen:scope.isGenerator=false
 own:∀y∈scope.names,(y.2= .local→y.1=b)∧y.2≠ .cell
 lb:scope.names.lookup b=some .local
 free:∀y∈scope.names,y.2= .free→sc.names.lookup y.1=some .cell∨sc.names.lookup y.1=some .free
 nn:∀y∈scope.names,y.1≠Str.empty
theorem LamP.has {X:Cx} {scope:Scope} {b:Str} (L:LamP X.env.scope scope b) (ok:X.Ok):∀y∈scope.names,y.2= .free→∃c,X.env.cells.lookup y.1=some c:=fun y hy e=>by
 rcases L.free y hy e with k | k
 · exact ok.has _ (.inl k)
 · exact ok.has _ (.inr k)
end M3
set_option maxHeartbeats 1000000
namespace M3
open PySem PySem.Spec PyProof.Rows L2 LamX PySem.W PySem.Calls
theorem Un.untracked {fs ex:List Addr} {H H1:Hp} {h h1 h2:Heap} {x:Addr} (u:Un fs ex H H1 h h1) (k:∀b o,b≠x→h1.get? b=some o→h2.get? b=some o) (hx:h.get? x=none):Un fs ex H H1 h h2:=by
 have ne:∀ {b:Addr} {o:Obj},h.get? b=some o→b≠x:=fun {b o} e z=>by rw [z,hx] at e;cases e
 exact ⟨fun b o e n h1 h2=>k b o (ne e) (u.keep b o e n h1 h2),fun b o e n h1 h2=>by
  obtain ⟨sl,q⟩:=u.slot b o e n h1 h2
  exact ⟨sl,k b _ (ne e) q⟩,u.free,fun b o e hb=>by
  obtain ⟨o',q⟩:=u.there b o e hb
  exact ⟨o',k b _ (ne e) q⟩,u.tups,u.frzs,u.tbls⟩
theorem HOk.untracked {P:Program} {w:World} {H:Hp} {h h':Heap} {x:Addr} (z:HOk P w H h) (hx:H x=none) (k:∀b o,b≠x→h.get? b=some o→h'.get? b=some o):HOk P w H h':=fun a o e=>
 (z a o e).stay (fun b u hb q=>k b u (fun y=>by
   subst y
   rcases hb with hb | hb
   · subst hb;rw [hx] at e;cases e
   · rw [hx] at hb;cases hb) q) (fun _ q=>q) fun _ _ q=>q
section
variable {X:Cx} {pins:List (Addr×Obj)} {σ:L2.St} {H0:Hp} {s0 s:Shared} {a kS f c':Addr} {k:Nat} {b:Str} {tb:TE} {params:Arguments} {body:Expr} {scope:Scope} {pm ctv:Value} {Qk:List V→Hp→Prop} {P:PySem.Fin→Shared→Prop} {E:Value→Shared→Prop} {A:Around} {e1:Nat}
structure KSt (X:Cx) (H0 H:Hp) (s0 s:Shared) (a kS:Addr) (e1:Nat) (ks:List V):Prop where
 os:s.os=s0.os
 bare:AllBare s.gens
 un:Un (frs X.stack) [] H0 H s0.heap s.heap
 hok:HOk X.prog X.w H s.heap
 nk:∃kA e,s.heap.get? kS=some (seqObj "list" kA e)∧Vals ks kA.toList
 na:s.heap.get? a=some (seqObj "list" #[] e1)
 fk:H kS=none
 fa:H a=none
theorem KSt.inv (z:KSt X H0 H s0 s a kS e1 ks) (I0:Inv X pins σ H0 s0):Inv X pins σ H s:=I0.call' (ch:=[]) z.os z.un z.hok z.bare fun b hb=>absurd hb (by simp)
theorem KSt.push (z:KSt X H0 H s0 s a kS e1 ks) (hk0:s0.heap.get? kS=none) (hka:kS≠a) (nfk:kS ∉ frs X.stack) (nfa:a ∉ frs X.stack) {H1:Hp} {s1:Shared} {v:V} {u:Value} (os:s1.os=s.os) (bare:AllBare s1.gens) (un:Un (frs X.stack) [] H H1 s.heap s1.heap) (hok:HOk X.prog X.w H1 s1.heap) (r:RelV v u)
 {g:Shared} (hg:g={s1 with heap:=s1.heap.update kS (Obj.mapSeq (·.push u))}):KSt X H0 H1 s0 g a kS e1 (ks++[v]):=by
 obtain ⟨kA,e,nk,hv⟩:=z.nk
 have nk2:s1.heap.get? kS=some (seqObj "list" kA e):=un.keep kS _ nk z.fk nfk (by simp)
 have na2:s1.heap.get? a=some (seqObj "list" #[] e1):=un.keep a _ z.na z.fa nfa (by simp)
 have fk2:H1 kS=none:=un.free kS _ nk z.fk (by simp)
 have fa2:H1 a=none:=un.free a _ z.na z.fa (by simp)
 have sb:=Heap.SameBut.update s1.heap kS (Obj.mapSeq (·.push u))
 obtain ⟨c2,hc2⟩:∃c2,(s1.heap.update kS (Obj.mapSeq (·.push u))).get? kS=some (seqObj "list" (kA.push u) c2):=⟨_,get?_update_seq nk2 (·.push u)⟩
 have kk:∀b o,b≠kS→s1.heap.get? b=some o→(s1.heap.update kS (Obj.mapSeq (·.push u))).get? b=some o:=fun b o hb e=>(sb.2 b hb).trans e
 subst hg
 refine ⟨os.trans z.os,bare,Un.untracked (z.un.trans un) kk hk0,HOk.untracked hok fk2 kk,⟨_,_,hc2, ?_⟩,(sb.2 a hka.symm).trans na2,fk2,fa2⟩
 rw [Array.toList_push]
 exact hv.append (.cons r .nil)
end
end M3
set_option maxHeartbeats 1000000
namespace M3
open PySem PySem.Spec PyProof.Rows L2 LamX PySem.W PySem.Calls
end M3
set_option maxHeartbeats 1000000
namespace M3
open PySem PySem.Spec PyProof.Rows L2 LamX PySem.W PySem.Calls
end M3
set_option maxHeartbeats 1000000
namespace M3
open PySem PySem.Spec PyProof.Rows L2
theorem RepL.rep {K:PySem.W.Frag} {H:Hp} {vs:List V} {ts:List T} (r:RepL K H vs ts):∀n:Nat,RepL K H (List.replicate n vs).flatten (List.replicate n ts).flatten
 | 0=>.nil
 | n+1=>by
   rw [List.replicate_succ,List.replicate_succ,List.flatten_cons,List.flatten_cons]
   exact r.append (RepL.rep r n)
end M3
namespace M3
open PySem PySem.Spec PySem.Froz PyProof.Rows L2
end M3
set_option maxHeartbeats 1000000
namespace M3
open PySem L2
def plainT:T→Bool
 | .non=>true
 | .bl _=>true
 | .int _=>true
 | .str _=>true
 | _=>false
section
variable {K:PySem.W.Frag} {c:Cf} {W:WX} {te:TE} {t:E3} {i:Nat}
theorem Rep.plain {Hv Hv':Hp} {v:V} {d:T} (r:Rep K Hv v d) (h:plainT d=true):Rep K Hv' v d:=by
 cases d with
 | non=>cases r;exact .non
 | bl b=>cases r;exact .bl b
 | int n=>cases r;exact .int n
 | str z=>cases r;exact .str z
 | _=>cases h
end
end M3
set_option maxHeartbeats 1000000
namespace M3
open PySem L2
end M3
set_option maxHeartbeats 1000000
namespace M3
open PySem PySem.Spec PyProof.Rows L2
def SideO (K:PySem.W.Frag) (C:Addr) (y:V) (H:Hp):Prop:=(∃b dy gs,y= .ref b∧H b=some (.ins C dy gs))∨∃n,TyX K H y (.type n)∧PySem.W.notFirst K C (.type n)=true
theorem SideO.look {X:Cx} {pins:List (Addr×Obj)} {s:Shared} {σ:L2.St} {H:Hp} {C:Addr} {y:V} {v:Value} (h:SideO X.K C y H) (I:Inv X pins σ H s) (ry:RelV y v):∃tb,(∀M:Model,PySem.W.Looks M s.heap (typeOf v) tb)∧PySem.W.notFirst X.K C tb=true:=by
 rcases h with ⟨b,dy,gs,rfl,hb⟩ | ⟨n,ty,hn⟩
 · cases ry
   obtain ⟨mB,J',_⟩:=ins_get I.hok hb
   obtain ⟨od',J',_⟩:=J'.look
   exact ⟨.ref C,fun M=>J'.type,by simp [PySem.W.notFirst]⟩
 · obtain ⟨P,Z,p,_⟩:=kit_of I ry ty
   exact ⟨_,fun M=>Z.ty M s.heap I.kIn p,hn⟩
def rEqO (K:PySem.W.Frag) (C:Addr) (sp:Sp) (E:XK):R2:=fun x y H Q=>∃a dx fs,x= .ref a∧H a=some (.ins C dx fs)∧SideO K C y H∧sp [x,y] H (fun v H'=>∃b,v= .bl b∧Q v H') E
section
variable {X:Cx} {CX:CXT} {C:Addr} {k:Nat} {sp:Sp} {E:XK}
theorem op_eqOwn (M:ClM X.prog X.w X.K X.mg X.base CX C "__eq__" k [] sp) (hr:Room k X.A) (hx:Passes CX X E):OpR X (compareOp .Eq) (rEqO X.K C sp E):=by
 obtain ⟨f,fd,ps,ds,F,hm,hb,hd⟩:=M.ex
 cases hd
 intro pins s σ H x y u v Q I rx ry h
 obtain ⟨a,dx,fs,rfl,ha,hy,hsp⟩:=h
 obtain ⟨tb,lk,nf⟩:=hy.look I ry
 cases rx
 obtain ⟨mA,J,_⟩:=ins_get I.hok ha
 obtain ⟨od,J,_⟩:=J.look
 obtain ⟨m,hF⟩:=I.fr
 show wpAny (model X.prog X.w) X.A (richCompare .Eq (.ref a) v) (EP X pins σ Q) X.xe s
 refine PySem.W.cmp_K (op:=.Eq) (tb:=tb) hr.units0 hF I.ok.mod.kin J (lk _) nf hm.at_ hm.fn ?_
 have hl:=F.len _ _ _ _ hsp
 have r2:Vals [V.ref a,y] [Value.ref a,v]:=.cons rfl (.cons ry .nil)
 refine wpAny_call (codeAny_mono (F.run X.A X.stack s H ⟨[.ref a,v],[]⟩ [.ref a,v] [.ref a,y] _ E hr I.env0 (by
  have:=hb s [.ref a,v] I.kIn (by simpa using hl)
  simpa using this) r2 hsp) fun r s' hq=> ?_)
 cases r with
 | error e=>exact hx pins σ H s e s' I hq
 | ok fl=>
   cases fl with
   | ret w=>
     obtain ⟨z,H',I',rz,b,ez,q⟩:=I.after hq
     subst ez
     cases rz
     exact ⟨.bl b,H',I',rfl,q⟩
   | next=>exact False.elim hq
   | brk=>exact False.elim hq
   | cont=>exact False.elim hq
end
theorem op_eqOwnK {X:Cx} {K:PySem.W.Frag} {CX:CXT} {C:Addr} {k:Nat} {sp:Sp} {E:XK} {dvs:List V} (hK:X.K=K) (M:ClM X.prog X.w X.K X.mg X.base CX C "__eq__" k dvs sp) (hd:∀H,RepL K H dvs []) (hr:Room k X.A) (hx:Passes CX X E):OpR X (compareOp .Eq) (rEqO K C sp E):=by
 have e:=hd fun _=>none
 cases e
 subst hK
 exact op_eqOwn M hr hx
structure NfO (K:PySem.W.Frag) (C:Addr):Prop where
 no:∀n∈["NoneType","bool","int","str","list","tuple","dict"],PySem.W.notFirst K C (.type n)=true
def sideT (C:Addr):T→Bool
 | .ins C' _=>decide (C'=C)
 | y=>(tyn y).isSome
theorem tyn_in {d:T} {n:String} (h:tyn d=some n):n∈["NoneType","bool","int","str","list","tuple","dict"]:=by
 cases d<;>simp [tyn] at h<;>subst h<;>simp
theorem side_of {K:PySem.W.Frag} {C:Addr} (nf:NfO K C) {Hv H:Hp} (e:Same Hv H) {y:T} {v:V} (r:Rep K Hv v y) (h:sideT C y=true):SideO K C v H:=by
 cases en:tyn y with
 | some n=>exact .inr ⟨n,TyX.mono e (r.ty_ en),nf.no n (tyn_in en)⟩
 | none=>
   cases y with
   | ins C' ts=>
     have hc:C'=C:=of_decide_eq_true h
     subst hc
     obtain ⟨b,dy,gs,rfl,hb,_,_⟩:=r.insI
     exact .inl ⟨b,dy,gs,rfl,e _ _ hb⟩
   | _=>first | (simp [tyn] at en;done) | (simp [sideT,tyn] at h;done)
def eqO3 (C:Addr) (f:F3):T→T→(T→Prop)→Prop:=fun x y Q=>ob (asIns x) fun p=>p.1=C∧sideT C y=true∧f [x,y] (fun v=>ob (asB v) fun b=>Q (.bl b)) (fun _=>False)
theorem rl_eqO {K:PySem.W.Frag} {C:Addr} {f:F3} {E:XK} (nf:NfO K C):RL2 K (rEqO K C (sp3 K 2 f) E) (eqO3 C f):=by
 intro c x y Q3 hh Hb G A σ3 σ H vx vy Q R rx ry k
 obtain ⟨⟨C1,ts⟩,e1,p1,p2,h2⟩:=ob_iff.mp hh
 cases asIns_is e1
 cases p1
 obtain ⟨a,dx,fs,rfl,ha,_,_⟩:=id rx.insI
 refine ⟨a,dx,fs,rfl,hid_same _ _ ha,side_of nf hid_same ry p2, ?_⟩
 refine sp3_call R (.cons rx (.cons ry .nil)) rfl h2 (fun v d H' L r q=> ?_) (fun cls dd x H' L r q=>q.elim)
 obtain ⟨b,eb,q⟩:=ob_iff.mp q
 cases d<;>cases eb
 cases r
 exact ⟨b,rfl,k _ _ H' L (.bl b) q⟩
end M3
set_option maxHeartbeats 1000000
namespace M3
open PySem PySem.Spec PyProof.Rows L2
structure KitO (K:PySem.W.Frag) (C:Addr):Prop where
 cl:Cls K C
 ha:PySem.W.findIn K (.ref C) "__class__"=some (some (.builtin "object.__class__"))
 hn:PySem.W.specialIn K (.builtin "object.__class__") "__get__"=some (some (.builtin "getset_descriptor.__get__"))
 htk:PySem.W.takesIn K (.builtin "object.__class__")=some true
 hm:PySem.W.mroIn K C (.type "object")=some true
 self:PySem.W.kitOne K (.ref C) (.ref C)=some true
 no:∀a∈["NoneType","bool","int","str","list","tuple","dict"],PySem.W.kitOne K (.type a) (.ref C)=some false
def kindO (C:Addr):T→Option Bool
 | .ins C' _=>if C'=C then some true else none
 | .non=>some false
 | .bl _=>some false
 | .int _=>some false
 | .str _=>some false
 | .lst _=>some false
 | .tup _=>some false
 | .dic _=>some false
 | _=>none
def isiO3 (C:Addr) (a:E3):E3:=fun σ Q X=>a σ (fun d=>ob (kindO C d) fun b=>Q (.bl b)) X
section
variable {K:PySem.W.Frag} {c:Cf} {W:WX} {C:Addr} {te:TE} {a:E3}
theorem lift_isiO (hk:KitO K C) (ha:Lift K c W te a):Lift K c W (tCB (rIsi K) (tCons te (tCons (tC (.ref C)) tNil))) (isiO3 C a):=by
 intro σ3 Q3 X h Hb G A σ H Q R k e
 refine ha _ _ _ h Hb G A σ H _ R (fun v d H1 L1 r q=> ?_) e
 obtain ⟨b,eb,q1⟩:=ob_iff.mp q
 have fin:=k (.bl b) (.bl b) H1 L1 (.bl b) q1
 cases en:tyn d with
 | some n=>
   have e1:b=false:=by
    cases d<;>simp [tyn] at en<;>simp [kindO] at eb<;>exact eb
   subst e1
   exact ⟨v,.ref C,_,.ref C,false,rfl,.own C,TyX.mono hid_same (r.ty_ en),hk.no _ (tyn_in en),fin⟩
 | none=>
   cases d with
   | ins C' ts=>
     have eb:(if C'=C then some true else none)=some b:=eb
     by_cases hc:C'=C
     · rw [if_pos hc] at eb
       cases eb
       subst hc
       obtain ⟨p,dx,fs,rfl,hp,_,_⟩:=r.insI
       exact ⟨.ref p,.ref C',_,.ref C',true,rfl,.own C',.base (.ins (hid_same _ _ hp) hk.cl hk.ha hk.hn hk.htk hk.hm),hk.self,fin⟩
     · rw [if_neg hc] at eb
       cases eb
   | _=>simp [tyn] at en<;>simp [kindO] at eb
end
end M3
set_option maxHeartbeats 1000000
namespace M3
open PySem PySem.Spec PyProof.Rows L2 PySem.W
theorem ne_bind (self:Value):bindSpecial (.builtin "object.__ne__") self=pure (.builtin "object.__ne__",[self]):=F.cmp_object.ne.bind self
section
variable {prog:Program} {w:World} {A:Around} {E:Value→Shared→Prop} {s:Shared} {K:Frag} {x C L f:Addr} {h₀:Heap} {m:Str→Option Value} {ox:Obj} {od:Option Obj} {b tb:Value}
theorem ifBoundNe_K {M:Model} {args:List Value} {Q:Option Value→Shared→Prop} (X:K.In s.heap) (I:InstAt s.heap x ox C od) (hs:findIn K (.ref C) "__ne__"=some (some (.builtin "object.__ne__")))
 (h:wpAny M A (call (.builtin "object.__ne__") (.ref x::args)) (fun v=>Q (some v)) E s):wpAny M A (callSpecialIfBound? (.ref x) "__ne__" args) Q E s:=by
 simp only [callSpecialIfBound?,bindSpecialIfBound?]
 refine wpAny_holding (wpAny_bind (wpAny_bind (wpAny_bind (I.type.here ((looks_findIn X hs).here ?_)))))
 refine wpAny_bind (wpAny_askSetting (wpAny_ite ?_))
 have fin:wpAny M A (call (.builtin "object.__ne__") ([.ref x]++args) >>= fun v=>pure (some v)) Q E s:=wpAny_bind (wpAny_mono h (fun v s' h'=>wpAny_pure h') fun _ _ h'=>h')
 rw [ne_bind]
 split
 · exact wpAny_bind (wpAny_pure (wpAny_pure (by exact fin)))
 · exact wpAny_tryCatch (wpAny_bind (wpAny_pure (wpAny_pure (by exact fin))))
theorem cmpNe_K {R:Value→Shared→Prop} (hu:A.units+1<cLine) (FF:Fr h₀ L s.heap m) (X₀:K.In h₀) (I:InstAt s.heap x ox C od) (hb:Looks (model prog w) s.heap (typeOf b) tb) (hn:notFirst K C tb=true)
 (hs:findIn K (.ref C) "__ne__"=some (some (.builtin "object.__ne__"))) (he:findIn K (.ref C) "__eq__"=some (some (.ref f))) (hf:isFn K (.ref f)=true) (hm:subIn K (.ref C) (.type "object")=some true)
 (h:wpAny (model prog w) A.in1 (call (.ref f) [.ref x,b]) (fun v s'=>∃r,v= .bool r∧R (.bool (!r)) s') E s):wpAny (model prog w) A (richCompare .NotEq (.ref x) b) R E s:=by
 have X:=X₀.keeps FF.keep
 have run:wpAny (model prog w) A.in1 (Builtin.«object.__ne__» ⟨[.ref x,b],[]⟩) (fun f s'=>∃r:Bool,f= .done (.ret (.bool (!r)))∧R (.bool (!r)) s') E s:=by
  unfold Builtin.«object.__ne__»
  refine wpAny_bind (m:=slotArgs "__ne__" 1 _) (wpAny_pure ?_)
  refine wpAny_bind (wpAny_cRoomFor (by show A.units+1<cLine;exact hu) ?_)
  refine wpAny_bind (ifBound_K X I he hf (wpAny_mono h (fun v s' z=> ?_) fun _ _ e=>e))
  obtain ⟨r,rfl,z⟩:=z
  refine wpAny_bind (wpAny_truthy_bool ?_)
  exact wpAny_pure ⟨r,rfl,z⟩
 have one:wpAny (model prog w) A (tryCompare (.ref x) "__ne__" b) (fun r s'=>∃v,r=some v∧R v s') E s:=by
  unfold tryCompare
  refine wpAny_bind (ifBoundNe_K X I hs (wpAny_call (codeAny_call_builtin F.cmp_object.ne.plain F.cmpEntry_ne (check_slot F.cmpKind_ne F.cmpSplit_ne (I.type.andThen (looks_subIn X hm)) (F.cmpArgs_ne _ _) (wpAny_mono run (fun fin s' z=> ?_) fun _ _ e=>e)))))
  obtain ⟨r,rfl,z⟩:=z
  exact wpAny_pure ⟨_,rfl,z⟩
 unfold richCompare
 simp only [oneThing_ref]
 refine wpAny_holding (wpAny_bind (wpAny_cRoomFor (by omega) ?_))
 refine wpAny_bind (I.type.here (wpAny_bind (hb.here ?_)))
 split
 · rename_i q
   have e:subIn K tb (.ref C)=some false:=by
    rcases Bool.or_eq_true_iff.mp hn with e | e
    · rw [beq_iff_eq.mp e] at q;simp at q
    · exact beq_iff_eq.mp e
   refine wpAny_bind ((looks_subIn X e).here ?_)
   simp only [Bool.false_eq_true,if_false]
   refine wpAny_bind (wpAny_mono one (fun r s' z=> ?_) fun _ _ e=>e)
   obtain ⟨v,rfl,hq⟩:=z
   exact wpAny_pure hq
 · refine wpAny_bind (wpAny_pure ?_)
   simp only [Bool.false_eq_true,if_false]
   refine wpAny_bind (wpAny_mono one (fun r s' z=> ?_) fun _ _ e=>e)
   obtain ⟨v,rfl,hq⟩:=z
   exact wpAny_pure hq
end
def rNeO (K:PySem.W.Frag) (C:Addr) (sp:Sp) (E:XK):R2:=fun x y H Q=>∃a dx fs,x= .ref a∧H a=some (.ins C dx fs)∧SideO K C y H∧sp [x,y] H (fun v H'=>∃b,v= .bl b∧Q (.bl (!b)) H') E
structure NeO (K:PySem.W.Frag) (C:Addr):Prop where
 ne:PySem.W.findIn K (.ref C) "__ne__"=some (some (.builtin "object.__ne__"))
 hm:PySem.W.subIn K (.ref C) (.type "object")=some true
section
variable {X:Cx} {CX:CXT} {C:Addr} {k:Nat} {sp:Sp} {E:XK}
theorem op_neOwn (n:NeO X.K C) (M:ClM X.prog X.w X.K X.mg X.base CX C "__eq__" k [] sp) (hr:Room (k+1) X.A) (hx:Passes CX X E):OpR X (compareOp .NotEq) (rNeO X.K C sp E):=by
 obtain ⟨f,fd,ps,ds,F,hm,hb,hd⟩:=M.ex
 cases hd
 intro pins s σ H x y u v Q I rx ry h
 obtain ⟨a,dx,fs,rfl,ha,hy,hsp⟩:=h
 obtain ⟨tb,lk,nf⟩:=hy.look I ry
 cases rx
 obtain ⟨mA,J,_⟩:=ins_get I.hok ha
 obtain ⟨od,J,_⟩:=J.look
 obtain ⟨m,hF⟩:=I.fr
 show wpAny (model X.prog X.w) X.A (richCompare .NotEq (.ref a) v) (EP X pins σ Q) X.xe s
 refine cmpNe_K (tb:=tb) (by have:=hr.un;omega) hF I.ok.mod.kin J (lk _) nf n.ne hm.at_ hm.fn n.hm ?_
 have hl:=F.len _ _ _ _ hsp
 have r2:Vals [V.ref a,y] [Value.ref a,v]:=.cons rfl (.cons ry .nil)
 refine wpAny_call (codeAny_mono (F.run X.A.in1 X.stack s H ⟨[.ref a,v],[]⟩ [.ref a,v] [.ref a,y] _ E hr.in1 I.env0.in1 (by
  have:=hb s [.ref a,v] I.kIn (by simpa using hl)
  simpa using this) r2 hsp) fun r s' hq=> ?_)
 cases r with
 | error e=>exact hx pins σ H s e s' I hq
 | ok fl=>
   cases fl with
   | ret w=>
     obtain ⟨z,H',I',rz,b,ez,q⟩:=I.after hq
     subst ez
     cases rz
     exact ⟨b,rfl,.bl (!b),H',I',rfl,q⟩
   | next=>exact False.elim hq
   | brk=>exact False.elim hq
   | cont=>exact False.elim hq
theorem op_neOwnK {K:PySem.W.Frag} {dvs:List V} (hK:X.K=K) (n:NeO K C) (M:ClM X.prog X.w X.K X.mg X.base CX C "__eq__" k dvs sp) (hd:∀H,RepL K H dvs []) (hr:Room (k+1) X.A) (hx:Passes CX X E):OpR X (compareOp .NotEq) (rNeO K C sp E):=by
 have e:=hd fun _=>none
 cases e
 subst hK
 exact op_neOwn n M hr hx
end
def neO3 (C:Addr) (f:F3):T→T→(T→Prop)→Prop:=fun x y Q=>ob (asIns x) fun p=>p.1=C∧sideT C y=true∧f [x,y] (fun v=>ob (asB v) fun b=>Q (.bl (!b))) (fun _=>False)
theorem rl_neO {K:PySem.W.Frag} {C:Addr} {f:F3} {E:XK} (nf:NfO K C):RL2 K (rNeO K C (sp3 K 2 f) E) (neO3 C f):=by
 intro c x y Q3 hh Hb G A σ3 σ H vx vy Q R rx ry k
 obtain ⟨⟨C1,ts⟩,e1,p1,p2,h2⟩:=ob_iff.mp hh
 cases asIns_is e1
 cases p1
 obtain ⟨a,dx,fs,rfl,ha,_,_⟩:=id rx.insI
 refine ⟨a,dx,fs,rfl,hid_same _ _ ha,side_of nf hid_same ry p2, ?_⟩
 refine sp3_call R (.cons rx (.cons ry .nil)) rfl h2 (fun v d H' L r q=> ?_) (fun cls dd x H' L r q=>q.elim)
 obtain ⟨b,eb,q⟩:=ob_iff.mp q
 cases d<;>cases eb
 cases r
 exact ⟨b,rfl,k _ _ H' L (.bl (!b)) q⟩
end M3
set_option maxHeartbeats 1000000
namespace M3
open PySem PySem.Spec PyProof.Rows L2 LamX PySem.W PySem.Calls
end M3
set_option maxHeartbeats 1000000
namespace M3
open PySem PySem.Spec PyProof.Rows L2 LamX PySem.W PySem.Calls
end M3
set_option maxHeartbeats 1000000
namespace M3
open PySem PySem.Spec PyProof.Rows L2
end M3
set_option maxHeartbeats 1000000
namespace M3
open PySem L2
structure FrO (K:PySem.W.Frag) (c:Cf) (G:List Addr) (A:List (Option Addr)) (H H':Hp) (D:Addr) (d:T):Prop where
 nD:D ∉ c.S G A
 vis:Same (hid (c.S G A) H) (hid (D::c.S G A) H')
 own:∀a∈G++addrs A,H' a=H a
 inv:c.I H'
 rep:OwnRep K (hid (D::c.S G A) H') H' D d
def LiftFrO (K:PySem.W.Frag) (c:Cf) (W:WX) (te:TE) (t:E3):Prop:=
 ∀σ3 Q3 X,t σ3 Q3 X→∀Hb G A σ H Q,R3 K c Hb G A σ3 σ H→
  (∀D d H',FrO K c G A H H' D d→Q3 d→Q (.ref D) H')→
  (∀cls dd x H',Le c G A H H'→XRep K (hid (c.S G A) H') cls dd x→X x→W cls dd σ H')→te σ H Q
section
variable {K:PySem.W.Frag} {c:Cf} {W:WX} {te:TE} {t:E3} {i:Nat} {Hb H H':Hp} {G:List Addr} {A:List (Option Addr)} {σ3:List Sl} {σ:St} {D:Addr} {d:T}
theorem FrO.le (f:FrO K c G A H H' D d):Le c G A H H':=⟨Same.trans f.vis (hid_mono fun a h=>List.mem_cons_of_mem _ h),f.own,f.inv⟩
def ofL3 (t:E3):E3:=fun σ Q X=>t σ (fun d=>ob (asL d) fun xs=>Q (.lst xs)) X
end
section
variable {K:PySem.W.Frag} {c:Cf} {W:WX} {i:Nat} {Hb H:Hp} {G:List Addr} {A:List (Option Addr)} {σ3:List Sl} {σ:St}
def isSelf:T→Bool
 | .tup _=>true
 | _=>false
theorem OwnRep.ty_ {Hv:Hp} {a:Addr} {d:T} {n:String} (r:OwnRep K Hv H a d) (h:tyn d=some n) (hn:isSelf d=false):TyX K H (.ref a) (.type n):=by
 cases d with
 | lst xs=>cases h;obtain ⟨vs,h1,_⟩:=r;exact .base (.lst h1)
 | dic ts=>cases h;obtain ⟨vs,h1,_⟩:=r;exact .base (.dK h1)
 | tup xs=>cases hn
 | kd w es=>cases h
 | _=>exact r.elim
end
end M3
set_option maxHeartbeats 1000000
namespace PySem
end PySem
namespace M3
open PySem PySem.Spec PyProof.Rows L2
def Kd.seq:Kd→Prop
 | .s _=>False
 | _=>True
end M3
set_option maxHeartbeats 1000000
namespace M3
open PySem L2
theorem kit_self {K:PySem.W.Frag} {C:Addr}:PySem.W.kitOne K (.ref C) (.ref C)=some true:=by
 unfold PySem.W.kitOne
 rw [if_pos (by simp)]
theorem kit_not {K:PySem.W.Frag} {C:Addr} {n:String} (h1:PySem.W.isClsIn K C=true) (h2:PySem.W.typeIn K (.ref C)=some (.type "type")) (h3:PySem.W.subIn K (.type n) (.ref C)=some false):PySem.W.kitOne K (.type n) (.ref C)=some false:=by
 unfold PySem.W.kitOne
 rw [if_neg (by simp)]
 unfold PySem.W.kitCls
 have e:(PySem.W.clsIn K C).isSome=true:=by
  unfold PySem.W.isClsIn at h1
  first | exact h1 | (split at h1<;>first | (rename_i e;rw [e];rfl) | cases h1)
 simp only [e,h2]
 rw [if_pos (by simp)]
 exact h3
end M3
set_option maxHeartbeats 1000000
namespace M3
open PySem L2
structure TabD (K:PySem.W.Frag) (mg:Str→Option Value) (base:Heap) (nm:Str) (st:Stmt) (ps:List Str) (Ts:List (Addr×Str)):Prop where
 ex:∃(f cL PL:Addr) (kV doc pm ct oc:Value) (an od:Option Addr) (osl:Array (Option Value)),K.lookup f=some ⟨oc,od,.func (PySem.W.fnOf nm nm (defArgs st) (defBody st) (defScope st) .none kV doc pm an (.ref cL) ct),osl⟩∧PySem.W.codeIn K (.ref cL) nm=true∧LamX.TabB base mg cL PL∧
  (PL,(nm++".<locals>.":Str)++"<lambda>")∈Ts∧(∀p∈Ts,p.1=PL→p.2=(nm++".<locals>.":Str)++"<lambda>")∧mg nm=some (.ref f)∧PySem.W.keepIn K (.ref f)=true∧L2.Binds K (PySem.W.fnOf nm nm (defArgs st) (defBody st) (defScope st) .none kV doc pm an (.ref cL) ct) ps []
structure TabM (K:PySem.W.Frag) (mg:Str→Option Value) (base:Heap) (C:Addr) (nm qual:Str) (st:Stmt) (ps:List Str) (Ts:List (Addr×Str)):Prop where
 ex:∃(f cL PL:Addr) (kV doc pm ct oc:Value) (an od:Option Addr) (osl:Array (Option Value)),K.lookup f=some ⟨oc,od,.func (PySem.W.fnOf nm qual (defArgs st) (defBody st) (defScope st) .none kV doc pm an (.ref cL) ct),osl⟩∧PySem.W.codeIn K (.ref cL) qual=true∧LamX.TabB base mg cL PL∧
  (PL,(qual++".<locals>.":Str)++"<lambda>")∈Ts∧(∀p∈Ts,p.1=PL→p.2=(qual++".<locals>.":Str)++"<lambda>")∧PySem.W.findIn K (.ref C) nm=some (some (.ref f))∧PySem.W.isFn K (.ref f)=true∧PySem.W.keepIn K (.ref f)=true∧L2.Binds K (PySem.W.fnOf nm qual (defArgs st) (defBody st) (defScope st) .none kV doc pm an (.ref cL) ct) ps []
end M3
set_option maxHeartbeats 1000000
namespace L2
open PySem PySem.Spec PyProof.Rows
end L2
namespace M3
open PySem L2
theorem RepD.has {K:PySem.W.Frag} {H:Hp} {kvs:List (Key×V)} {ts:List (Key×T)} (r:RepD K H kvs ts) (k:Key):(valV kvs k).isSome=(valT ts k).isSome:=by
 have h:=r.keys
 unfold valV valT
 rw [Option.isSome_map,Option.isSome_map]
 induction r with
 | nil=>rfl
 | cons e _ ih=>
   simp only [List.map_cons,List.cons.injEq] at h
   rw [List.find?_cons,List.find?_cons,h.1]
   generalize decide (_=k)=b
   cases b with
   | true=>rfl
   | false=>exact ih h.2
end M3
set_option maxHeartbeats 1000000
namespace M3
open PySem L2
section
variable {K:PySem.W.Frag} {c:Cf} {W:WX} {te:TE} {t:E3} {i:Nat}
theorem lift_frSl {ta:TE} {a:E3} {tl th:TO} {l h:G3 (Option Int)} (ha:Lift K c W ta a) (hl:LiftO K c W tl l) (hh:LiftO K c W th h):LiftFr K c W (tSl (rSl K) ta tl th) (sl3 cutL3 a l h):=by
 intro σ3 Q3 X hq Hb G A σ H Q R k e
 refine ha _ _ _ hq Hb G A σ H _ R (fun vx x H1 L1 rx hx=> ?_) e
 refine hl _ _ _ hx Hb G A σ H1 _ (R.le L1) (fun lo lo' H2 L2 e2 hy=> ?_) (fun cls dd x H' L=>e cls dd x H' (L1.trans L))
 subst e2
 refine hh _ _ _ hy Hb G A σ H2 _ ((R.le L1).le L2) (fun hi hi' H3 L3 e3 hz=> ?_) (fun cls dd x H' L=>e cls dd x H' ((L1.trans L2).trans L))
 subst e3
 obtain ⟨xs,ex,q⟩:=ob_iff.mp hz
 cases asL_is ex
 obtain ⟨p,vs,rfl,hp,rl⟩:=(rx.mono (Same.trans L2.vis L3.vis)).lstI
 have L:=(L1.trans L2).trans L3
 refine .inl ⟨p,vs,rfl,SqL.of (hid_same _ _ hp),fun D hD=> ?_⟩
 have f:=(R.le L).frD hD (rl.cut lo hi)
 exact k D _ _ _ ⟨f.nD,Same.trans L.vis f.vis,fun a ha=>(f.own a ha).trans (L.own a ha),f.inv,f.at_,f.rep⟩ q
end
end M3
set_option maxHeartbeats 1000000
namespace L2
open PySem PySem.Spec PyProof.Rows
end L2
namespace M3
open PySem PyProof.Rows L2
end M3
set_option maxHeartbeats 1000000
namespace M3
open PySem PySem.Spec PyProof.Rows L2
end M3
set_option maxHeartbeats 1000000
namespace M3
open PySem PySem.Spec PyProof.Rows L2
section
variable {P:Program} {w:World} {K:PySem.W.Frag} {mg:Str→Option Value} {base:Heap} {CX:CXT} {nm qual:Str} {st:Stmt} {ps:List Str} {Ts:List (Addr×Str)} {lv:Nat} {sp:Sp} {C:Addr}
theorem TabD.cl (D:TabD K mg base nm st ps Ts)
 (h:∀(f cL PL:Addr) (kV doc pm ct oc:Value) (an od:Option Addr) (osl:Array (Option Value)),K.lookup f=some ⟨oc,od,.func (PySem.W.fnOf nm nm (defArgs st) (defBody st) (defScope st) .none kV doc pm an (.ref cL) ct),osl⟩→PySem.W.codeIn K (.ref cL) nm=true→LamX.TabB base mg cL PL→
   (PL,(nm++".<locals>.":Str)++"<lambda>")∈Ts→(∀p∈Ts,p.1=PL→p.2=(nm++".<locals>.":Str)++"<lambda>")→FnOk P w K mg base CX lv f (PySem.W.fnOf nm nm (defArgs st) (defBody st) (defScope st) .none kV doc pm an (.ref cL) ct) ps sp):Cl P w K mg base CX nm lv [] sp:=by
 obtain ⟨f,cL,PL,kV,doc,pm,ct,oc,an,od,osl,lk,hcd,TB,hm,hu,hmg,kp,bd⟩:=D.ex
 exact ⟨f,_,ps,[],h f cL PL kV doc pm ct oc an od osl lk hcd TB hm hu,hmg,kp,bd,.nil⟩
theorem TabM.clM (D:TabM K mg base C nm qual st ps Ts)
 (h:∀(f cL PL:Addr) (kV doc pm ct oc:Value) (an od:Option Addr) (osl:Array (Option Value)),K.lookup f=some ⟨oc,od,.func (PySem.W.fnOf nm qual (defArgs st) (defBody st) (defScope st) .none kV doc pm an (.ref cL) ct),osl⟩→PySem.W.codeIn K (.ref cL) qual=true→LamX.TabB base mg cL PL→
   (PL,(qual++".<locals>.":Str)++"<lambda>")∈Ts→(∀p∈Ts,p.1=PL→p.2=(qual++".<locals>.":Str)++"<lambda>")→FnOk P w K mg base CX lv f (PySem.W.fnOf nm qual (defArgs st) (defBody st) (defScope st) .none kV doc pm an (.ref cL) ct) ps sp):ClM P w K mg base CX C nm lv [] sp:=by
 obtain ⟨f,cL,PL,kV,doc,pm,ct,oc,an,od,osl,lk,hcd,TB,hm,hu,hfi,hfn,kp,bd⟩:=D.ex
 exact ⟨f,_,ps,[],h f cL PL kV doc pm ct oc an od osl lk hcd TB hm hu,⟨hfi,hfn,kp⟩,bd,.nil⟩
def spLawU (K:PySem.W.Frag) (Ts:List (Addr×Str)):Sp:=fun vs H Q _=>∃(a:Addr) (ns:List Int),vs=[.ref a]∧SqL K H a (ns.map V.int)∧(∀q∈Ts,H q.1=some (.tbl #[]))∧∀H',Q (.bl true) H'
end
end M3
namespace PySem.HandSPX
open PySem PySem.Spec PyProof.Rows
end PySem.HandSPX
namespace L2
open PySem PySem.Spec PyProof.Rows
end L2
namespace M3
open PySem PySem.Spec PyProof.Rows L2
end M3
set_option maxHeartbeats 1000000
namespace M3
open PySem PySem.Spec PyProof.Rows L2
end M3
set_option maxHeartbeats 1000000
namespace M3
open PySem L2
end M3
namespace PySem
end PySem
namespace L2
open PySem PySem.Spec PyProof.Rows
end L2
namespace M3
open PySem L2
def dcomp3 (g:TG3) (tt:B3) (tk te:E3) (σ:List Sl) (X:X3) (Q:List (Key×T)→Prop):List T→List (Key×T)→Prop
 | [],acc=>Q acc
 | x::r,acc=>g x σ fun σ'=>tt σ' (fun b=>if b=true then tk σ' (fun y=>te σ' (fun z=>ob (asK y) fun k=>acc.length<sizeLine∧dcomp3 g tt tk te σ X Q r (putT acc k z)) X) (fun _=>False) else dcomp3 g tt tk te σ X Q r acc) X
def dc3 (s:A3) (g:TG3) (tt:B3) (tk te:E3) (vs:List Nat):E3:=fun σ Q X=>noOwn σ vs∧s σ (fun ds=>dcomp3 g tt tk te (wipe3 σ vs) X (fun ys=>Q (.dic ys)) ds []) X
end M3
set_option maxHeartbeats 1000000
namespace M3
open PySem L2
section
variable {K:PySem.W.Frag} {c:Cf} {W:WX}
theorem LiftFrO.l {te:TE} {t:E3} (h:LiftFrO K c W te t):LiftFr K c W te (ofL3 t):=by
 intro σ3 Q3 X ht Hb G A σ H Q R k e
 refine h _ _ _ ht Hb G A σ H _ R (fun D d H' f q=> ?_) e
 obtain ⟨xs,ex,q⟩:=ob_iff.mp q
 cases asL_is ex
 obtain ⟨vs,h1,h2⟩:=f.rep
 exact k D vs xs H' ⟨f.nD,f.vis,f.own,f.inv,h1,h2⟩ q
end
end M3
namespace PySem
open Sem (wp)
open AutoSeq1 (wpAny_loadPart')
end PySem
namespace M3
open PySem PySem.Spec PyProof.Rows L2
end M3
set_option maxHeartbeats 1000000
namespace M3
open PySem L2
def KeyAt (K:PySem.W.Frag) (H:Hp) (v:V) (κ:NestedKey):Prop:=κ.depth≤8∧∃t,nkT t=some κ∧Rep K H v t
theorem KeyAt.mono {K:PySem.W.Frag} {H H':Hp} {v:V} {κ:NestedKey} (h:KeyAt K H v κ) (e:Same H H'):KeyAt K H' v κ:=⟨h.1,h.2.choose,h.2.choose_spec.1,h.2.choose_spec.2.mono e⟩
theorem nested_all {h:Heap}:∀ {vs:List V} {ts:List T} {its:List Value} {ks:List NestedKey},(∀(i:Nat) v t,vs[i]? =some v→ts[i]? =some t→∀κ u,nkT t=some κ→RelV v u→NestedIs h κ u)→vs.length=ts.length→Vals vs its→nkTs ts=some ks→NestedAll h ks its
 | [],[],_,_,_,_,r,e=>by cases r;cases e;exact .nil
 | v::vs,t::ts,_,_,f,hl,r,e=>by
   cases r with
   | cons r0 r=>
     simp only [nkTs] at e
     obtain ⟨k,ek,e⟩:=Option.bind_eq_some_iff.mp e
     obtain ⟨ks,eks,rfl⟩:=Option.map_eq_some_iff.mp e
     exact .cons (f 0 v t rfl rfl k _ ek r0) (nested_all (fun i v t h1 h2=>f (i+1) v t (by simpa using h1) (by simpa using h2)) (by simpa using hl) r eks)
 | [],_::_,_,_,_,hl,_,_=>by simp at hl
 | _::_,[],_,_,_,hl,_,_=>by simp at hl
section
variable {X:Cx} {pins:List (Addr×Obj)} {σ:St} {H:Hp} {s:Shared}
theorem nested_of (I:Inv X pins σ H s) {v:V} {t:T} (r:Rep X.K H v t):∀κ u,nkT t=some κ→RelV v u→NestedIs s.heap κ u:=by
 induction r with
 | non=>intro κ u e rv;simp only [nkT] at e;cases e;cases (show u=Value.none from rv);exact .none
 | int i=>intro κ u e rv;simp only [nkT] at e;cases e;obtain ⟨t,rfl⟩:=(show ∃t,u=Value.int i t from rv);exact .int _ _
 | str x=>intro κ u e rv;simp only [nkT] at e;cases e;obtain ⟨t,rfl⟩:=(show ∃t,u=Value.str x t from rv);exact .text _ _
 | tup h hl hr ih=>
   intro κ u e rv
   simp only [nkT] at e
   obtain ⟨ks,eks,rfl⟩:=Option.map_eq_some_iff.mp e
   obtain ⟨its,r,⟨o,g,c,n,d⟩,_⟩:=I.tuple h.sq
   rw [show u=Value.ref _ from rv]
   exact .tup g c d (nested_all ih hl r eks)
 | bl b=>intro κ u e _;simp only [nkT] at e;cases e
 | ty n=>intro κ u e _;simp only [nkT] at e;cases e
 | ref a=>intro κ u e _;simp only [nkT] at e;cases e
 | lst h hl hr ih=>intro κ u e _;simp only [nkT] at e;cases e
 | dic h hk hr ih=>intro κ u e _;simp only [nkT] at e;cases e
 | ins h hk hr ih=>intro κ u e _;simp only [nkT] at e;cases e
theorem KeyAt.is (I:Inv X pins σ H s) {b:Addr} {κ:NestedKey} (h:KeyAt X.K H (.ref b) κ):(nestedKind X.prog X.w).is s.heap κ b:=by
 obtain ⟨d,t,e,r⟩:=h
 exact ⟨nested_of I r κ _ e rfl,d⟩
end
def hasKd (xs:List (NestedKey×Addr×V)) (κ:NestedKey):Bool:=xs.any fun q=>decide (q.1=κ)
def stKd (xs:List (NestedKey×Addr×V)) (κ:NestedKey) (b:Addr) (v:V):List (NestedKey×Addr×V):=if hasKd xs κ=true then xs.map (fun q=>if q.1=κ then (q.1,q.2.1,v) else q) else xs++[(κ,b,v)]
abbrev KPair (xs:List (NestedKey×Addr×V)) (ys:List (NestedKey×Addr×Value)):Prop:=Paired (fun (p:NestedKey×Addr×V) (q:NestedKey×Addr×Value)=>p.1=q.1∧p.2.1=q.2.1∧RelV p.2.2 q.2.2) xs ys
theorem KPair.has {xs:List (NestedKey×Addr×V)} {ys:List (NestedKey×Addr×Value)} (r:KPair xs ys) (κ:NestedKey):(atKey ys κ).isSome=hasKd xs κ:=by
 unfold atKey hasKd
 rw [Option.isSome_map]
 induction r with
 | nil=>rfl
 | cons e _ ih=>
   rw [List.find?_cons,List.any_cons,e.1]
   generalize decide (_=κ)=b
   cases b with
   | true=>rfl
   | false=>simpa using ih
theorem KPair.app {xs:List (NestedKey×Addr×V)} {ys:List (NestedKey×Addr×Value)} {x:NestedKey×Addr×V} {y:NestedKey×Addr×Value} (r:KPair xs ys) (h:x.1=y.1∧x.2.1=y.2.1∧RelV x.2.2 y.2.2):KPair (xs++[x]) (ys++[y]):=by
 induction r with
 | nil=>exact .cons h .nil
 | cons e _ ih=>exact .cons e ih
theorem KPair.put {xs:List (NestedKey×Addr×V)} {ys:List (NestedKey×Addr×Value)} (r:KPair xs ys) {κ:NestedKey} {b:Addr} {v:V} {u:Value} (rv:RelV v u):KPair (stKd xs κ b v) (storedH ys κ b u):=by
 unfold stKd storedH
 rw [KPair.has r κ]
 by_cases z:hasKd xs κ=true
 · rw [if_pos z,if_pos z]
   clear z
   induction r with
   | nil=>exact .nil
   | @cons p y _ _ e _ ih=>
     refine .cons ?_ ih
     show (if p.1=κ then (p.1,p.2.1,v) else p).1=(if y.1=κ then (y.1,y.2.1,u) else y).1∧(if p.1=κ then (p.1,p.2.1,v) else p).2.1=(if y.1=κ then (y.1,y.2.1,u) else y).2.1∧RelV (if p.1=κ then (p.1,p.2.1,v) else p).2.2 (if y.1=κ then (y.1,y.2.1,u) else y).2.2
     by_cases q:y.1=κ
     · rw [if_pos q,if_pos (e.1.trans q)];exact ⟨e.1,e.2.1,rv⟩
     · rw [if_neg q,if_neg (fun z=>q (e.1.symm.trans z))];exact e
 · rw [if_neg z,if_neg z]
   exact KPair.app r ⟨rfl,rfl,rv⟩
end M3
set_option maxHeartbeats 1000000
namespace M3
open PySem L2
end M3
namespace L2
open PySem PySem.Spec PyProof.Rows M3
end L2
namespace M3
open PySem L2
section
variable {X:Cx} {td ty tx:TE} {o e f:Expr} {apos cpos:Pos}
def getKd (xs:List (NestedKey×Addr×V)) (κ:NestedKey):Option V:=(xs.find? fun q=>decide (q.1=κ)).map (·.2.2)
theorem KPair.get {xs:List (NestedKey×Addr×V)} {ys:List (NestedKey×Addr×Value)} (r:KPair xs ys) (κ:NestedKey) {v:V} {u:Value} (rv:RelV v u):RelV ((getKd xs κ).getD v) (((atKey ys κ).map (·.2)).getD u):=by
 unfold atKey getKd
 induction r with
 | nil=>exact rv
 | cons e _ ih=>
   rw [List.find?_cons,List.find?_cons,e.1]
   generalize decide (_=κ)=b
   cases b with
   | true=>exact e.2.2
   | false=>exact ih
end
end M3
set_option maxHeartbeats 1000000
namespace M3
open PySem L2
structure TabF (K:PySem.W.Frag) (mg:Str→Option Value) (base:Heap) (nm:Str) (st:Stmt) (dts:List T) (kns:List Str) (kts:List T) (Ts:List (Addr×Str)):Prop where
 d:DefAt K mg nm nm st dts kns kts
 ex:∃(f cL PL:Addr) (dV kV doc pm ct oc:Value) (an od:Option Addr) (osl:Array (Option Value)),K.lookup f=some ⟨oc,od,.func (PySem.W.fnOf nm nm (defArgs st) (defBody st) (defScope st) dV kV doc pm an (.ref cL) ct),osl⟩∧PySem.W.codeIn K (.ref cL) nm=true∧LamX.TabB base mg cL PL∧
  (PL,(nm++".<locals>.":Str)++"<lambda>")∈Ts∧(∀p∈Ts,p.1=PL→p.2=(nm++".<locals>.":Str)++"<lambda>")∧mg nm=some (.ref f)
theorem TabF.ok {P:Program} {w:World} {K:PySem.W.Frag} {mg:Str→Option Value} {base:Heap} {CX:CXT} {nm:Str} {st:Stmt} {dts kts:List T} {kns:List Str} {Ts:List (Addr×Str)} {k:Nat} {ps:List Str} {sp:Sp} (t:TabF K mg base nm st dts kns kts Ts)
 (h:∀(f cL PL:Addr) (dV kV doc pm ct oc:Value) (an od:Option Addr) (osl:Array (Option Value)),K.lookup f=some ⟨oc,od,.func (PySem.W.fnOf nm nm (defArgs st) (defBody st) (defScope st) dV kV doc pm an (.ref cL) ct),osl⟩→PySem.W.codeIn K (.ref cL) nm=true→LamX.TabB base mg cL PL→
   (PL,(nm++".<locals>.":Str)++"<lambda>")∈Ts→(∀p∈Ts,p.1=PL→p.2=(nm++".<locals>.":Str)++"<lambda>")→FnOk P w K mg base CX k f (PySem.W.fnOf nm nm (defArgs st) (defBody st) (defScope st) dV kV doc pm an (.ref cL) ct) ps sp):OkF P w K mg base CX nm nm st dts kns kts k ps sp:=by
 obtain ⟨f',fd,dvs,kvs,rd,rk,F,hm⟩:=t.d.ex
 obtain ⟨f,cL,PL,dV,kV,doc,pm,ct,oc,an,od,osl,lk,hc,tb,h1,h2,m⟩:=t.ex
 rw [hm] at m
 cases m
 obtain ⟨oc',od',dV',kV',doc',pm',an',cdv',ct',osl',e,lk',_⟩:=F.ex
 rw [lk] at lk'
 have e2:PySem.W.fnOf nm nm (defArgs st) (defBody st) (defScope st) dV kV doc pm an (.ref cL) ct=fd:=by
  injection lk' with z
  injection z with _ _ z _
  injection z
 refine ⟨_,fd,dvs,kvs,rd,rk,F,hm, ?_⟩
 rw [←e2]
 exact h _ cL PL dV kV doc pm ct oc an od osl lk hc tb h1 h2
end M3
set_option maxHeartbeats 1000000
namespace M3
open PySem PySem.Spec PyProof.Rows L2
theorem KPair.at_ {xs:List (NestedKey×Addr×V)} {ys:List (NestedKey×Addr×Value)} (r:KPair xs ys) (κ:NestedKey) {v:V} (h:getKd xs κ=some v):∃p,atKey ys κ=some p∧RelV v p.2:=by
 unfold atKey
 unfold getKd at h
 induction r with
 | nil=>cases h
 | @cons p q _ _ e _ ih=>
   rw [List.find?_cons,e.1] at h
   rw [List.find?_cons]
   by_cases z:q.1=κ
   · rw [decide_eq_true z] at h ⊢
     cases h
     exact ⟨_,rfl,e.2.2⟩
   · rw [decide_eq_false z] at h ⊢
     exact ih h
end M3
set_option maxHeartbeats 1000000
namespace M3
open PySem L2
end M3
set_option maxHeartbeats 1000000
namespace M3
open PySem L2
end M3
namespace M3
open PySem L2
section
variable {K:PySem.W.Frag} {c:Cf} {Hb H H':Hp} {G L0 L L':List Addr} {M M':Mem} {σ3:List Sl} {σ:St} {W:WX}
theorem R4.atI (r:R4 K c Hb G L0 L M σ3 σ H) {a C:Addr} {fs:List (Str×T)} (h:M a=some (.ins C fs)):a∈L∧∃dx ks,H a=some (.ins C dx ks)∧ks.map (·.1)=fs.map (·.1)∧RepL K (vs4 c G L H) (ks.map (·.2)) (fs.map (·.2)):=
 ⟨(r.cells.on a).mpr (by rw [h];intro z;cases z),r.cells.at_ a _ h⟩
theorem R4.fresh (R:R4 K c Hb G L0 L M σ3 σ H) {a:Addr} {o:HO} {t:T} (na:H a=none) (hr:∀Hv,Same (vs4 c G L H) Hv→CellRep K Hv (upd H a o) a t):M a=none∧R4 K c Hb G L0 (a::L) (mset M a (some t)) σ3 σ (upd H a o)∧Same (vs4 c G L H) (vs4 c G (a::L) (upd H a o)):=by
 have l:=R.r3.new (o:=o) na
 have nS:a ∉ c.S0++G++L:=by have:=R.r3.free na;rwa [S_nons] at this
 have mD:M a=none:=by
  cases e:M a with
  | none=>rfl
  | some t=>exact absurd (by simp [(R.cells.on a).mpr (by rw [e];intro z;cases z)]) nS
 have vis:Same (vs4 c G L H) (vs4 c G (a::L) (upd H a o)):=fun b u z=>by
  obtain ⟨z1,z2,z3⟩:=hid_all z
  refine hid_mk (by rw [upd_ne (ne_of_none z1 na)];exact z1) (fun y=>z2 ?_) z3
  rcases List.mem_append.mp y with y | y
  · exact List.mem_append.mpr (.inl y)
  · rcases List.mem_cons.mp y with y | y
    · rw [y,na] at z1;cases z1
    · exact List.mem_append.mpr (.inr y)
 refine ⟨mD,R.step l.inv vis (fun b h=>l.own b (by simp [h])) ⟨fun b=> ?_,fun b h=> ?_,fun b t' e=> ?_⟩,vis⟩
 · by_cases z:b=a
   · subst z;simp
   · rw [mset_ne z,List.mem_cons]
     exact ⟨fun h=>(R.cells.on b).mp (h.resolve_left z),fun h=>.inr ((R.cells.on b).mpr h)⟩
 · rcases List.mem_cons.mp h with rfl | h
   · exact fun z=>nS (by simp at z ⊢;rcases z with z | z<;>simp [z])
   · exact R.cells.off b h
 · by_cases z:b=a
   · subst z
     rw [mset_same] at e
     cases e
     exact hr _ vis
   · rw [mset_ne z] at e
     exact (R.cells.at_ b t' e).mono vis (l.own b (by simp [(R.cells.on b).mpr (by rw [e];intro z;cases z)]))
end
end M3
set_option maxHeartbeats 1000000
namespace M3
open PySem PySem.Spec PyProof.Rows L2 LamX PySem.W PySem.Calls
end M3
namespace PySem
structure ZOn (h:Heap) (zz TI TO j1 j2:Addr) (L:List (Addr×Value×Value)):Prop where
 ti:IsTupOf2 h TI (.ref j1) (.ref j2)
 st:(L=[]∧IsZip h zz TI TO .none∧∃a1 a2,IsTupOf2 h TO a1 a2)∨∃q fl,q∈L∧IsZipHeld h zz TI TO q.1 fl
 tup:∀q∈L,IsTupOf2 h q.1 q.2.1 q.2.2
theorem ZOn.keep {h h':Heap} {zz TI TO j1 j2:Addr} {L:List (Addr×Value×Value)} (z:ZOn h zz TI TO j1 j2 L) (k:∀b o,b=zz∨b=TI∨b=TO∨b∈L.map (·.1)→h.get? b=some o→h'.get? b=some o):ZOn h' zz TI TO j1 j2 L where
 ti:=k _ _ (.inr (.inl rfl)) z.ti
 st:=by
  rcases z.st with ⟨e,h1,a1,a2,h2⟩ | ⟨q,fl,hq,h1⟩
  · exact .inl ⟨e,k _ _ (.inl rfl) h1,a1,a2,k _ _ (.inr (.inr (.inl rfl))) h2⟩
  · exact .inr ⟨q,fl,hq,k _ _ (.inl rfl) h1⟩
 tup:=fun q hq=>k _ _ (.inr (.inr (.inr (List.mem_map.mpr ⟨q,hq,rfl⟩)))) (z.tup q hq)
end PySem
namespace PySem
end PySem
namespace M3
open PySem PySem.Spec PyProof.Rows L2
end M3
set_option maxHeartbeats 1000000
namespace M3
open PySem PySem.Spec PyProof.Rows L2
def frzL (F:Addr→Obj) (Z:List Addr) (H:Hp):Hp:=fun a=>if a∈Z then (match H a with | some (.dK kvs)=>some (.frz (F a) (.dK kvs)) | o=>o) else H a
def isDK:Option HO→Bool
 | some (.dK _)=>true
 | _=>false
def thw:Option HO→Option HO
 | some (.frz _ (.dK kvs))=>some (.dK kvs)
 | o=>o
def unfL (H:Hp) (Z:List Addr) (H1:Hp):Hp:=fun a=>if a∈Z∧isDK (H a)=true then thw (H1 a) else H1 a
theorem isDK_is {o:Option HO} (h:isDK o=true):∃kvs,o=some (.dK kvs):=by
 unfold isDK at h
 split at h
 · exact ⟨_,rfl⟩
 · cases h
section
variable {F:Addr→Obj} {Z:List Addr} {H H1:Hp} {a:Addr}
theorem frzL_dK {kvs:List (Key×V)} (hz:a∈Z) (h:H a=some (.dK kvs)):frzL F Z H a=some (.frz (F a) (.dK kvs)):=by
 unfold frzL
 rw [if_pos hz,h]
theorem frzL_ne (h:∀kvs,H a≠some (.dK kvs)):frzL F Z H a=H a:=by
 unfold frzL
 split
 · split
   · rename_i kvs e
     exact absurd e (h kvs)
   · rfl
 · rfl
theorem frzL_off (h:a ∉ Z):frzL F Z H a=H a:=by
 unfold frzL
 rw [if_neg h]
theorem unfL_off (h:¬(a∈Z∧isDK (H a)=true)):unfL H Z H1 a=H1 a:=by
 unfold unfL
 rw [if_neg h]
theorem unfL_on (h:a∈Z∧isDK (H a)=true):unfL H Z H1 a=thw (H1 a):=by
 unfold unfL
 rw [if_pos h]
end
section
variable {X:Cx} {pins:List (Addr×Obj)} {σ:L2.St} {H H' H1:Hp} {s s1:Shared}
theorem inv_ghost (I:Inv X pins σ H s) (fr:∀a,H a=none→H' a=none) (tu:∀a xs,H a=some (.tup xs)→H' a=some (.tup xs)) (fz:∀a o u,X.H_0 a=some (.frz o u)→H' a=some (.frz o u))
 (tb:∀a ps,H a=some (.tbl ps)→H' a=some (.tbl ps)) (ow:∀a b,H a=some (.own b)→H' a=some (.own b)) (ok:∀a o,H' a=some o→H a=some o∨ObjOk X.prog X.w H s.heap a o):Inv X pins σ H' s where
 ok:=I.ok
 os:=I.os
 bare:=I.bare
 base:=⟨I.base.keep,I.base.slot,fun b o h1 h2 h3=>fr b (I.base.free b o h1 h2 h3),I.base.there,fun b xs h=>tu b xs (I.base.tups b xs h),fz,fun b ps h=>by
  obtain ⟨more,q⟩:=I.base.tbls b ps h
  exact ⟨more,tb b _ q⟩⟩
 loc:=I.loc
 cell:=I.cell
 free:=fr _ I.free
 freeC:=fun x c h=>fr _ (I.freeC x c h)
 pin:=fun p hp=>by
  obtain ⟨h1,h2,h3⟩:=I.pin p hp
  exact ⟨h1,fr _ h2,h3⟩
 hok:=fun a o e=>by
  rcases ok a o e with h | h
  · exact (I.hok a o h).stay (fun _ _ _ q=>q) (fun b q=>ow b a q) (fun b xs q=>tu b xs q)
  · exact h.stay (fun _ _ _ q=>q) (fun b q=>ow b a q) (fun b xs q=>tu b xs q)
 len:=I.len
def objF (h:Heap) (a:Addr):Obj:=(h.get? a).getD {cls:=.none,data:=.fields #[]}
theorem inv_frzL (I:Inv X pins σ H s) (Z:List Addr):Inv X pins σ (frzL (objF s.heap) Z H) s:=by
 have ne:∀ {a:Addr} {o:Option HO},H a=o→(∀kvs,o≠some (.dK kvs))→frzL (objF s.heap) Z H a=o:=fun {a o} e h=>by
  rw [frzL_ne (fun kvs q=>h kvs (by rw [←e];exact q)),e]
 refine inv_ghost I (fun a h=>ne h (fun _ z=>by cases z)) (fun a xs h=>ne h (fun _ z=>by cases z)) (fun a o u h=>ne (I.base.frzs a o u h) (fun _ z=>by cases z)) (fun a ps h=>ne h (fun _ z=>by cases z)) (fun a b h=>ne h (fun _ z=>by cases z)) (fun a o h=> ?_)
 by_cases c:a∈Z∧isDK (H a)=true
 · obtain ⟨c1,c2⟩:=c
   obtain ⟨kvs,e⟩:=isDK_is c2
   rw [frzL_dK c1 e] at h
   cases h
   have ok:=I.hok a _ e
   obtain ⟨z,y,vs,rel,ob,es,ep,eo,ro⟩:=id ok
   refine .inr ⟨?_,ok⟩
   show s.heap.get? a=some (objF s.heap a)
   unfold objF
   rw [eo]
   rfl
 · left
   rw [←h]
   by_cases c1:a∈Z
   · refine (frzL_ne fun kvs e=>c ⟨c1,by rw [e];rfl⟩).symm
   · exact (frzL_off c1).symm
theorem inv_unfL (I:Inv X pins σ H s) {Z:List Addr} (I1:Inv X pins σ H1 s1):Inv X pins σ (unfL H Z H1) s1:=by
 have st:∀ {a:Addr} {o:Option HO},H1 a=o→thw o=o→unfL H Z H1 a=o:=fun {a o} e h=>by
  by_cases c:a∈Z∧isDK (H a)=true
  · rw [unfL_on c,e,h]
  · rw [unfL_off c,e]
 refine inv_ghost I1 (fun a h=>st h rfl) (fun a xs h=>st h rfl) (fun a o u h=> ?_) (fun a ps h=>st h rfl) (fun a b h=>st h rfl) (fun a o h=> ?_)
 · have e:=I.base.frzs a o u h
   rw [unfL_off (fun c=>by rw [e] at c;cases c.2)]
   exact I1.base.frzs a o u h
 · by_cases c:a∈Z∧isDK (H a)=true
   · rw [unfL_on c] at h
     cases e:H1 a with
     | none=>rw [e] at h;cases h
     | some u=>
       rw [e] at h
       have ok:=I1.hok a u e
       unfold thw at h
       split at h
       · rename_i ob kvs eq
         cases h
         have eq:u= .frz ob (.dK kvs):=Option.some.inj eq
         subst eq
         exact .inr ok.2
       · exact .inl h
   · rw [unfL_off c] at h
     exact .inl h
def tAroundT (te:TT):TT:=fun σ H Q=>∃Z,∀F,te σ (frzL F Z H) (fun v H1=>Q v (unfL H Z H1))
theorem pt_around {e:Expr} {te:TT} (h:PT X e te):PT X e (tAroundT te):=by
 refine ⟨fun pins s σ H Q I q=> ?_⟩
 obtain ⟨Z,q⟩:=q
 exact thn (h.run pins s σ _ _ (inv_frzL I Z) (q _)) fun u s1 ⟨H1,I1,q1⟩=>⟨_,inv_unfL I I1,q1⟩
end
end M3
set_option maxHeartbeats 1000000
namespace M3
open PySem L2
structure See where
 l:Bool
 d:Bool
 cl:List Addr
def hidC (e:See) (M:Mem) (a:Addr):Bool:=match M a with
 | some (.lst _)=> !e.l
 | some (.dic _)=> !e.d
 | some (.ins C _)=> !decide (C∈e.cl)
 | _=>true
def noC (e:See) (M:Mem) (L:List Addr):List Addr:=L.filter fun a=>hidC e M a
def isDic:Option T→Bool
 | some (.dic _)=>true
 | _=>false
def zs (e:See) (M:Mem) (L:List Addr):List Addr:=L.filter fun a=>e.d&&isDic (M a)
def seeO (e:See) (a:Addr) (f:T→T):Option T→T
 | some (.lst xs)=>if e.l=true then .lst (xs.map f) else .ref a
 | some (.dic ts)=>if e.d=true then .dic (ts.map fun p=>(p.1,f p.2)) else .ref a
 | some (.ins C fs)=>if C∈e.cl then .ins C (fs.map fun p=>(p.1,f p.2)) else .ref a
 | _=>.ref a
def seen (e:See) (M:Mem):Nat→T→T
 | n+1,.ref a=>seeO e a (seen e M n) (M a)
 | n+1,.tup xs=>.tup (xs.map (seen e M n))
 | n+1,.lst xs=>.lst (xs.map (seen e M n))
 | n+1,.ins C fs=>.ins C (fs.map fun p=>(p.1,seen e M n p.2))
 | _,d=>d
mutual
def okS (e:See):T→Bool
 | .tup xs=>okSL e xs
 | .lst xs=> !e.l&&okSL e xs
 | .ins C fs=> !decide (C∈e.cl)&&okSF e fs
 | .dic ts=> !e.d&&okSD e ts
 | .kd _ _=>false
 | _=>true
def okSL (e:See):List T→Bool
 | []=>true
 | x::xs=>okS e x&&okSL e xs
def okSF (e:See):List (Str×T)→Bool
 | []=>true
 | x::xs=>okS e x.2&&okSF e xs
def okSD (e:See):List (Key×T)→Bool
 | []=>true
 | x::xs=>okS e x.2&&okSD e xs
end
theorem okSL_get {e:See}:∀ {xs:List T} {i:Nat} {x:T},okSL e xs=true→xs[i]? =some x→okS e x=true
 | [],_,_,_,h=>by simp at h
 | x::xs,0,y,h,q=>by
   simp only [okSL,Bool.and_eq_true] at h
   simp at q
   rw [←q];exact h.1
 | x::xs,i+1,y,h,q=>by
   simp only [okSL,Bool.and_eq_true] at h
   exact okSL_get (i:=i) h.2 (by simpa using q)
theorem okSF_get {e:See}:∀ {xs:List (Str×T)} {i:Nat} {x:T},okSF e xs=true→(xs.map (·.2))[i]? =some x→okS e x=true
 | [],_,_,_,h=>by simp at h
 | x::xs,0,y,h,q=>by
   simp only [okSF,Bool.and_eq_true] at h
   simp at q
   rw [←q];exact h.1
 | x::xs,i+1,y,h,q=>by
   simp only [okSF,Bool.and_eq_true] at h
   exact okSF_get (i:=i) h.2 (by simpa using q)
theorem okSD_get {e:See}:∀ {xs:List (Key×T)} {i:Nat} {x:T},okSD e xs=true→(xs.map (·.2))[i]? =some x→okS e x=true
 | [],_,_,_,h=>by simp at h
 | x::xs,0,y,h,q=>by
   simp only [okSD,Bool.and_eq_true] at h
   simp at q
   rw [←q];exact h.1
 | x::xs,i+1,y,h,q=>by
   simp only [okSD,Bool.and_eq_true] at h
   exact okSD_get (i:=i) h.2 (by simpa using q)
section
variable {K:PySem.W.Frag} {c:Cf} {Hb H H' H2:Hp} {G L0 L L':List Addr} {M M':Mem} {σ3:List Sl} {σ:St} {W:WX} {e:See} {F:Addr→Obj} {v:V} {d:T}
theorem noC_sub {a:Addr} (h:a∈noC e M L):a∈L:=(List.mem_filter.mp h).1
theorem zs_sub {a:Addr} (h:a∈zs e M L):a∈L∧e.d=true∧isDic (M a)=true:=by
 obtain ⟨h1,h2⟩:=List.mem_filter.mp h
 simp only [Bool.and_eq_true] at h2
 exact ⟨h1,h2⟩
abbrev HL (F:Addr→Obj) (e:See) (M:Mem) (L:List Addr) (H:Hp):Hp:=frzL F (zs e M L) H
theorem HL_off {a:Addr} (h:a ∉ zs e M L):HL F e M L H a=H a:=frzL_off h
theorem HL_ne {a:Addr} (h:∀kvs,H a≠some (.dK kvs)):HL F e M L H a=H a:=frzL_ne h
theorem HL_dK {a:Addr} {kvs:List (Key×V)} (hz:a∈zs e M L) (h:H a=some (.dK kvs)):HL F e M L H a=some (.frz (F a) (.dK kvs)):=frzL_dK hz h
theorem zs_dK (cl:Cells K (c.S0++G) L M H) {a:Addr} (h:a∈zs e M L):isDK (H a)=true:=by
 obtain ⟨h1,_,h2⟩:=zs_sub h
 cases em:M a with
 | none=>rw [em] at h2;cases h2
 | some t=>
   rw [em] at h2
   have:=cl.at_ a t em
   cases t with
   | dic kvs=>obtain ⟨ks,e1,_⟩:=this;rw [e1];rfl
   | _=>cases h2
theorem HL_same:Same (vs4 c G L H) (hid (c.S0++G++noC e M L) (HL F e M L H)):=fun a o h=>by
 obtain ⟨h1,h2⟩:=hid_some h
 have nL:a ∉ L:=fun z=>h2 (List.mem_append.mpr (.inr z))
 refine hid_mk (by rw [HL_off (fun z=>nL (zs_sub z).1)];exact h1) (fun z=> ?_) (hid_vis h)
 rcases List.mem_append.mp z with z | z
 · exact h2 (List.mem_append.mpr (.inl z))
 · exact nL (noC_sub z)
theorem R4.look (r:R4 K c Hb G L0 L M σ3 σ H):R3 K c (HL F e M L H) (G++noC e M L) (nons σ3.length) σ3 σ (HL F e M L H):=by
 have e0:∀n,hid (c.S (G++L) (nons n)) H=vs4 c G L H:=fun n=>by rw [S_nons]
 have off:∀a∈c.S0++G,a ∉ zs e M L:=fun a h z=>r.cells.off a (zs_sub z).1 h
 have off2:∀a∈noC e M L,a ∉ zs e M L:=fun a h z=>by
  obtain ⟨_,z1,z2⟩:=zs_sub z
  have h:=(List.mem_filter.mp h).2
  unfold hidC at h
  cases em:M a with
  | none=>rw [em] at z2;cases z2
  | some t=>
    rw [em] at z2 h
    cases t with
    | dic _=>rw [z1] at h;cases h
    | _=>cases z2
 have hm:∀a,a∈G++noC e M L→a∈G++L∧a ∉ zs e M L:=fun a h=>by
  rcases List.mem_append.mp h with h | h
  · exact ⟨List.mem_append.mpr (.inl h),off a (List.mem_append.mpr (.inr h))⟩
  · exact ⟨List.mem_append.mpr (.inr (noC_sub h)),off2 a h⟩
 refine ⟨c.st H _ (fun a h=>HL_off (off a (List.mem_append.mpr (.inl h)))) (fun a q h=>by rw [HL_ne (fun kvs z=>by rw [h] at z;cases z)];exact h) r.r3.inv, ?_,fun a h=>⟨rfl, ?_⟩,fun a h o eo=> ?_,by rw [addrs_nons];exact List.nodup_nil,(by rw [addrs_nons];intro a h;cases h),r.r3.l1,r.r3.l2, ?_⟩
 · rw [S_nons, ←List.append_assoc]
   exact Same.refl _
 · obtain ⟨h1,h2⟩:=hm a h
   rw [HL_off h2]
   exact (r.r3.gk a h1).2
 · obtain ⟨h1,h2⟩:=hm a h
   rw [HL_off h2] at eo
   exact r.r3.gv a h1 o eo
 · intro i s o' x h1 h2 h3
   have z:=r.r3.at_ i s o' x h1 h2 h3
   rw [e0] at z
   rw [S_nons]
   cases s with
   | no=>exact z
   | val t=>obtain ⟨e,v,e2,q⟩:=z;exact ⟨e,v,e2,q.mono HL_same⟩
   | own t=>
     obtain ⟨a,e,_⟩:=z
     have:=(List.mem_replicate.mp (List.mem_of_getElem? h2)).2
     rw [this] at e
     cases e
theorem repL_map {Hv Hw:Hp} {f:T→T} (h:∀v d,Rep K Hv v d→Rep K Hw v (f d)) {vs:List V} {ts:List T} (r:RepL K Hv vs ts):RepL K Hw vs (ts.map f):=by
 induction r with
 | nil=>exact .nil
 | cons r _ ih=>exact .cons (h _ _ r) ih
theorem map_snd {α:Type} (f:T→T) (ts:List (α×T)):(ts.map fun p=>(p.1,f p.2)).map (·.2)=(ts.map (·.2)).map f:=by
 rw [List.map_map,List.map_map]
 rfl
theorem map_fst {α:Type} (f:T→T) (ts:List (α×T)):(ts.map fun p=>(p.1,f p.2)).map (·.1)=ts.map (·.1):=by
 rw [List.map_map]
 rfl
theorem rep_insL {Hv:Hp} {a C dx:Addr} {fs:List (Str×V)} {ts:List (Str×T)} (h:Hv a=some (.ins C dx fs)) (hk:fs.map (·.1)=ts.map (·.1)) (r:RepL K Hv (fs.map (·.2)) (ts.map (·.2))):Rep K Hv (.ref a) (.ins C ts):=.ins h hk fun _ _ _=>r.at
theorem seen_rep (cl:Cells K (c.S0++G) L M H):∀(n:Nat) (v:V) (d:T),Rep K (vs4 c G L H) v d→Rep K (hid (c.S0++G++noC e M L) (HL F e M L H)) v (seen e M n d)
 | 0,v,d,r=>by
   cases d<;>exact r.mono HL_same
 | n+1,v,d,r=>by
   have ih:=seen_rep cl n
   have vis:∀ {a:Addr},M a≠none→hidC e M a=false→a ∉ c.S0++G++noC e M L:=fun {a} hm h z=>by
    rcases List.mem_append.mp z with z | z
    · exact cl.off a ((cl.on a).mpr hm) z
    · have:=(List.mem_filter.mp z).2
      rw [h] at this
      cases this
   cases d with
   | ref a=>
     cases r.refI
     cases em:M a with
     | none=>
       have:seen e M (n+1) (.ref a)= .ref a:=by
        show seeO e a (seen e M n) (M a)=_
        rw [em]
        rfl
       rw [this];exact .ref a
     | some t=>
       have hmem:M a≠none:=by rw [em];intro z;cases z
       have hL:a∈L:=(cl.on a).mpr hmem
       cases t with
       | lst xs=>
         have e1:seen e M (n+1) (.ref a)=if e.l=true then .lst (xs.map (seen e M n)) else .ref a:=by
          show seeO e a (seen e M n) (M a)=_
          rw [em]
          rfl
         rw [e1]
         split
         · rename_i hl
           obtain ⟨vs,h1,h2⟩:=cl.at_ a _ em
           have nz:a ∉ zs e M L:=fun z=>by
            have:=(zs_sub z).2.2
            rw [em] at this
            cases this
           exact .mkL (hid_mk (by rw [HL_off nz];exact h1) (vis hmem (by unfold hidC;rw [em];simp [hl]))) (repL_map ih h2)
         · exact .ref a
       | dic ts=>
         have e1:seen e M (n+1) (.ref a)=if e.d=true then .dic (ts.map fun p=>(p.1,seen e M n p.2)) else .ref a:=by
          show seeO e a (seen e M n) (M a)=_
          rw [em]
          rfl
         rw [e1]
         split
         · rename_i hl
           obtain ⟨ks,h1,h2,h3⟩:=cl.at_ a _ em
           have nz:a∈zs e M L:=List.mem_filter.mpr ⟨hL,by rw [em,hl];rfl⟩
           refine rep_dic (hid_mk (HL_dK nz h1) (vis hmem (by unfold hidC;rw [em];simp [hl]))) (by rw [map_fst];exact h2) ?_
           rw [map_snd]
           exact repL_map ih h3
         · exact .ref a
       | ins C fs=>
         have e1:seen e M (n+1) (.ref a)=if C∈e.cl then .ins C (fs.map fun p=>(p.1,seen e M n p.2)) else .ref a:=by
          show seeO e a (seen e M n) (M a)=_
          rw [em]
          rfl
         rw [e1]
         split
         · rename_i hl
           obtain ⟨dx,ks,h1,h2,h3⟩:=cl.at_ a _ em
           have nz:a ∉ zs e M L:=fun z=>by
            have:=(zs_sub z).2.2
            rw [em] at this
            cases this
           refine rep_insL (hid_mk (by rw [HL_off nz];exact h1) (vis hmem (by unfold hidC;rw [em];simp [hl]))) (by rw [map_fst];exact h2) ?_
           rw [map_snd]
           exact repL_map ih h3
         · exact .ref a
       | _=>exact (cl.at_ a _ em).elim
   | tup xs=>
     obtain ⟨a,vs,rfl,h1,h2⟩:=r.tupF
     exact .mkT (Same.fqT HL_same h1) (repL_map ih h2)
   | lst xs=>
     obtain ⟨a,vs,rfl,h1,h2⟩:=r.lstI
     exact .mkL (HL_same _ _ h1) (repL_map ih h2)
   | ins C fs=>
     cases r with
     | @ins a C dx ks ts hp hk hr=>
       refine rep_insL (HL_same _ _ hp) (by rw [map_fst];exact hk) ?_
       rw [map_snd]
       exact repL_map ih (repL_mk (by have:=congrArg List.length hk;simpa using this) hr)
   | _=>exact r.mono HL_same
end
end M3
set_option maxHeartbeats 1000000
namespace M3
open PySem L2
section
variable {K:PySem.W.Frag} {c:Cf} {Hb H H' H2:Hp} {G L0 L L':List Addr} {M M':Mem} {σ3:List Sl} {σ:St} {W:WX} {e:See} {F:Addr→Obj} {v:V} {d:T}
abbrev HU (e:See) (M:Mem) (L:List Addr) (H H2:Hp):Hp:=unfL H (zs e M L) H2
theorem HU_off {a:Addr} (h:a ∉ L):HU e M L H H2 a=H2 a:=unfL_off fun z=>h (zs_sub z.1).1
structure Lk (K:PySem.W.Frag) (c:Cf) (G L:List Addr) (M:Mem) (H:Hp) (e:See) (F:Addr→Obj) (Ds:List Addr) (H2:Hp):Prop where
 vis:Same (hid (c.S0++G++noC e M L) (HL F e M L H)) (hid (Ds++(c.S0++G++noC e M L)) H2)
 own:∀a∈G++noC e M L,H2 a=HL F e M L H a
 inv:c.I H2
 nD:∀D∈Ds,D ∉ c.S0++G++noC e M L
variable {Ds:List Addr}
theorem Lk.at_ (k:Lk K c G L M H e F Ds H2) (cl:Cells K (c.S0++G) L M H) {a:Addr} (h:a∈L):a ∉ Ds∧H2 a=HL F e M L H a:=by
 by_cases z:a∈noC e M L
 · exact ⟨fun q=>k.nD a q (List.mem_append.mpr (.inr z)),k.own a (List.mem_append.mpr (.inr z))⟩
 · obtain ⟨o,eo,vo,_⟩:=cl.obj h
   have nS:a ∉ c.S0++G++noC e M L:=fun y=>by
    rcases List.mem_append.mp y with y | y
    · exact cl.off a h y
    · exact z y
   by_cases zz:a∈zs e M L
   · obtain ⟨kvs,ek⟩:=isDK_is (zs_dK cl zz)
     have e1:HL F e M L H a=some (.frz (F a) (.dK kvs)):=HL_dK zz ek
     obtain ⟨q1,q2⟩:=hid_some (k.vis _ _ (hid_mk e1 nS))
     exact ⟨fun q=>q2 (List.mem_append.mpr (.inl q)),q1.trans e1.symm⟩
   · have e1:HL F e M L H a=some o:=(HL_off zz).trans eo
     obtain ⟨q1,q2⟩:=hid_some (k.vis _ _ (hid_mk e1 nS vo))
     exact ⟨fun q=>q2 (List.mem_append.mpr (.inl q)),q1.trans e1.symm⟩
theorem Lk.cell (k:Lk K c G L M H e F Ds H2) (cl:Cells K (c.S0++G) L M H) {a:Addr} (h:a∈L):HU e M L H H2 a=H a:=by
 obtain ⟨_,q⟩:=k.at_ cl h
 by_cases zz:a∈zs e M L
 · obtain ⟨kvs,ek⟩:=isDK_is (zs_dK cl zz)
   rw [show HU e M L H H2 a=thw (H2 a) from unfL_on ⟨zz,zs_dK cl zz⟩,q,HL_dK zz ek,ek]
   rfl
 · rw [show HU e M L H H2 a=H2 a from unfL_off fun z=>zz z.1,q,HL_off zz]
theorem Lk.stay (k:Lk K c G L M H e F Ds H2) (cl:Cells K (c.S0++G) L M H):Same (vs4 c G L H) (hid (Ds++(c.S0++G++L)) (HU e M L H H2)):=fun a o h=>by
 obtain ⟨h1,h2⟩:=hid_some h
 have nL:a ∉ L:=fun z=>h2 (List.mem_append.mpr (.inr z))
 have nz:a ∉ zs e M L:=fun z=>nL (zs_sub z).1
 have nS:a ∉ c.S0++G++noC e M L:=fun z=>by
  rcases List.mem_append.mp z with z | z
  · exact h2 (List.mem_append.mpr (.inl z))
  · exact nL (noC_sub z)
 obtain ⟨q1,q2⟩:=hid_some (k.vis _ _ (hid_mk ((HL_off nz).trans h1) nS (hid_vis h)))
 refine hid_mk ((HU_off nL).trans q1) (fun z=> ?_) (hid_vis h)
 rcases List.mem_append.mp z with z | z
 · exact q2 (List.mem_append.mpr (.inl z))
 · exact h2 z
theorem Lk.invU (k:Lk K c G L M H e F Ds H2) (cl:Cells K (c.S0++G) L M H):c.I (HU e M L H H2):=
 c.st H2 _ (fun a h=>HU_off fun z=>cl.off a z (List.mem_append.mpr (.inl h))) (fun a q h=>by
  by_cases zz:a∈zs e M L∧isDK (H a)=true
  · rw [show HU e M L H H2 a=thw (H2 a) from unfL_on zz,h]
    rfl
  · rw [show HU e M L H H2 a=H2 a from unfL_off zz]
    exact h) k.inv
theorem Lk.gU (k:Lk K c G L M H e F Ds H2) (cl:Cells K (c.S0++G) L M H):∀a∈G,HU e M L H H2 a=H a:=fun a h=>by
 have nL:a ∉ L:=fun z=>cl.off a z (List.mem_append.mpr (.inr h))
 rw [HU_off nL,k.own a (List.mem_append.mpr (.inl h)),HL_off fun z=>nL (zs_sub z).1]
theorem R4.unlook (r:R4 K c Hb G L0 L M σ3 σ H) (k:Lk K c G L M H e F [] H2):R4 K c Hb G L0 L M σ3 σ (HU e M L H H2)∧Same (vs4 c G L H) (vs4 c G L (HU e M L H H2)):=by
 have hv:=k.stay r.cells
 exact ⟨r.step (k.invU r.cells) hv (k.gU r.cells) ⟨r.cells.on,r.cells.off,fun a t em=>(r.cells.at_ a t em).mono hv (k.cell r.cells ((r.cells.on a).mpr (by rw [em];intro z;cases z)))⟩,hv⟩
theorem Lk.seenC (k:Lk K c G L M H e F Ds H2) (cl:Cells K (c.S0++G) L M H) {a:Addr} (h:a∈L) (n:a ∉ noC e M L):(e.l=true∧∃vs,H2 a=some (.lst vs))∨(e.d=true∧∃o kvs,H2 a=some (.frz o (.dK kvs)))∨∃C dx ks,C∈e.cl∧H2 a=some (.ins C dx ks):=by
 obtain ⟨_,q⟩:=k.at_ cl h
 have nh:hidC e M a=false:=by
  cases z:hidC e M a with
  | false=>rfl
  | true=>exact absurd (List.mem_filter.mpr ⟨h,z⟩) n
 cases em:M a with
 | none=>exact absurd em ((cl.on a).mp h)
 | some t=>
   have at_:=cl.at_ a t em
   unfold hidC at nh
   rw [em] at nh
   cases t with
   | lst xs=>
     obtain ⟨vs,h1,_⟩:=at_
     have nz:a ∉ zs e M L:=fun z=>by
      have:=(zs_sub z).2.2
      rw [em] at this
      cases this
     exact .inl ⟨by simpa using nh,vs,by rw [q,HL_off nz];exact h1⟩
   | dic ts=>
     obtain ⟨ks,h1,_⟩:=at_
     have ed:e.d=true:=by simpa using nh
     have nz:a∈zs e M L:=List.mem_filter.mpr ⟨h,by rw [em,ed];rfl⟩
     exact .inr (.inl ⟨ed,_,ks,by rw [q,HL_dK nz h1]⟩)
   | ins C fs=>
     obtain ⟨dx,ks,h1,_⟩:=at_
     have nz:a ∉ zs e M L:=fun z=>by
      have:=(zs_sub z).2.2
      rw [em] at this
      cases this
     exact .inr (.inr ⟨C,dx,ks,by simpa using nh,by rw [q,HL_off nz];exact h1⟩)
   | _=>exact at_.elim
theorem Lk.ok (k:Lk K c G L M H e F Ds H2) (cl:Cells K (c.S0++G) L M H) (r:Rep K (hid (Ds++(c.S0++G++noC e M L)) H2) v d):okS e d=true→Rep K (hid (Ds++(c.S0++G++L)) (HU e M L H H2)) v d:=by
 have put:∀ {a:Addr} {o:HO},hid (Ds++(c.S0++G++noC e M L)) H2 a=some o→a ∉ L→hid (Ds++(c.S0++G++L)) (HU e M L H H2) a=some o:=fun {a o} h n=>by
  obtain ⟨h1,h2⟩:=hid_some h
  refine hid_mk ((HU_off n).trans h1) (fun z=>h2 ?_) (hid_vis h)
  rcases List.mem_append.mp z with z | z
  · exact List.mem_append.mpr (.inl z)
  · refine List.mem_append.mpr (.inr ?_)
    rcases List.mem_append.mp z with z | z
    · exact List.mem_append.mpr (.inl z)
    · exact absurd z n
 have out:∀ {a:Addr} {o:HO},hid (Ds++(c.S0++G++noC e M L)) H2 a=some o→a ∉ noC e M L:=fun {a o} h z=>(hid_some h).2 (List.mem_append.mpr (.inr (List.mem_append.mpr (.inr z))))
 induction r with
 | non=>exact fun _=>.non
 | bl b=>exact fun _=>.bl b
 | int i=>exact fun _=>.int i
 | str x=>exact fun _=>.str x
 | ty n=>exact fun _=>.ty n
 | ref a=>exact fun _=>.ref a
 | @tup a vs ts h hl hr ih=>
   intro q
   have q:okSL e ts=true:=by simpa [okS] using q
   refine .tup ?_ hl fun i v t h1 h2=>ih i v t h1 h2 (okSL_get q h2)
   rcases h with ⟨o,dn,eo⟩ | h
   · refine .inl ⟨o,dn,put eo fun z=> ?_⟩
     have e2:=(hid_some eo).1
     rcases k.seenC cl z (out eo) with ⟨_,vs,e1⟩ | ⟨_,o,kvs,e1⟩ | ⟨C,dx,ks,_,e1⟩<;>rw [e1] at e2<;>cases e2
   · exact .inr h
 | @lst a vs ts h hl hr ih=>
   intro q
   have q:e.l=false∧okSL e ts=true:=by simpa [okS] using q
   refine .lst (put h fun z=> ?_) hl fun i v t h1 h2=>ih i v t h1 h2 (okSL_get q.2 h2)
   have e2:=(hid_some h).1
   rcases k.seenC cl z (out h) with ⟨l1,vs,e1⟩ | ⟨_,o,kvs,e1⟩ | ⟨C,dx,ks,_,e1⟩
   · rw [l1] at q;cases q.1
   · rw [e1] at e2;cases e2
   · rw [e1] at e2;cases e2
 | @dic a kvs ts h hk hr ih=>
   intro q
   have q:e.d=false∧okSD e ts=true:=by simpa [okS] using q
   obtain ⟨o,h⟩:=h
   refine .dic ⟨o,put h fun z=> ?_⟩ hk fun i v t h1 h2=>ih i v t h1 h2 (okSD_get q.2 h2)
   have e2:=(hid_some h).1
   rcases k.seenC cl z (out h) with ⟨l1,vs,e1⟩ | ⟨d1,o,kvs,e1⟩ | ⟨C,dx,ks,_,e1⟩
   · rw [e1] at e2;cases e2
   · rw [d1] at q;cases q.1
   · rw [e1] at e2;cases e2
 | @ins a C dx fs ts h hk hr ih=>
   intro q
   have q:C ∉ e.cl∧okSF e ts=true:=by simpa [okS] using q
   refine .ins (put h fun z=> ?_) hk fun i v t h1 h2=>ih i v t h1 h2 (okSF_get q.2 h2)
   have e2:=(hid_some h).1
   rcases k.seenC cl z (out h) with ⟨l1,vs,e1⟩ | ⟨d1,o,kvs,e1⟩ | ⟨C,dx,ks,hc,e1⟩
   · rw [e1] at e2;cases e2
   · rw [e1] at e2;cases e2
   · rw [e1] at e2;cases e2;exact q.1 hc
end
end M3
set_option maxHeartbeats 1000000
namespace M3
open PySem L2
def vwS (e:See) (n:Nat) (M:Mem):List Nat→List Sl→List Sl
 | [],σ=>σ
 | i::is,σ=>match σ[i]? with
   | some (.val d)=>(vwS e n M is σ).set i (.val (seen e M n d))
   | _=>vwS e n M is σ
def vwKB4 (e:See) (n:Nat) (is:List Nat) (t:B3):B4:=fun σ M Q _=>t (vwS e n M is σ) (fun b=>Q b M) (fun _=>False)
section
variable {K:PySem.W.Frag} {c:Cf} {Hb H H' H2:Hp} {G L0 L L':List Addr} {M M':Mem} {σ3:List Sl} {σ:St} {W:WX} {e:See} {n:Nat} {is:List Nat} {te:TE} {t:E3}
theorem R4.looks (r:R4 K c Hb G L0 L M σ3 σ H) (F:Addr→Obj):∀(is:List Nat),R3 K c (HL F e M L H) (G++noC e M L) (nons σ3.length) (vwS e n M is σ3) σ (HL F e M L H)
 | []=>r.look
 | i::is=>by
   have q:=r.looks F is
   show R3 K c (HL F e M L H) (G++noC e M L) (nons σ3.length) (match σ3[i]? with | some (.val d)=>(vwS e n M is σ3).set i (.val (seen e M n d)) | _=>vwS e n M is σ3) σ (HL F e M L H)
   split
   · rename_i d ea
     obtain ⟨v,hv,rv⟩:=r.r3.get ea
     rw [S_nons] at rv
     have rl:Rep K (hid (c.S (G++noC e M L) (nons σ3.length)) (HL F e M L H)) v (seen e M n d):=by
      rw [S_nons]
      exact seen_rep r.cells n v d rv
     have:=q.set i rl
     rw [set_same hv,nons_set] at this
     exact this
   · exact q
theorem lk_of {m:Nat} {F:Addr→Obj} (l:Le c (G++noC e M L) (nons m) (HL F e M L H) H2):Lk K c G L M H e F [] H2:=by
 have v:=l.vis
 rw [S_nons] at v
 exact ⟨v,fun a h=>l.own a (List.mem_append.mpr (.inl h)),l.inv,fun _ h=>by cases h⟩
theorem lift_vwKB {tt:TT} {b:B3} (h:LiftT K c W tt b):LiftT4 K c W (tAroundT tt) (vwKB4 e n is b):=by
 intro σ3 M Q4 X ht Hb G L0 L σ H Q R k ex
 refine ⟨zs e M L,fun F=> ?_⟩
 refine h _ _ _ ht (HL F e M L H) (G++noC e M L) (nons σ3.length) σ _ _ (R.looks F is) (fun v d H2 l r q=> ?_) (fun cls dd x H' l r q=>q.elim)
 obtain ⟨R',hv⟩:=R.unlook (lk_of (K:=K) l)
 exact k v d L M _ R' hv r q
end
end M3
set_option maxHeartbeats 1000000
namespace M3
open PySem L2
section
variable {K:PySem.W.Frag} {c:Cf} {Hb H H' H1:Hp} {G L0 L L':List Addr} {M M':Mem} {σ3:List Sl} {σ:St} {W:WX}
def ixC4 (o e:E4):E4:=fun σ M Q X=>o σ M (fun d M1=>ob (asR d) fun a=>e σ M1 (fun d1 M2=>ob (asI d1) fun k=>ob (cellL M2 a) fun xs=>ob (atI xs k) fun t=>Q t M2) X) X
theorem lift_ixC4 {to te:TE} {o e:E4} (ho:Lift4 K c W to o) (he:Lift4 K c W te e):Lift4 K c W (tOp (rIx K) to te) (ixC4 o e):=by
 intro σ3 M Q4 X h Hb G L0 L σ H Q R k ex
 refine ho _ _ _ _ h Hb G L0 L σ H _ R (fun v d L1 M1 H1 R1 s1 r q=> ?_) ex
 obtain ⟨a,ea,q⟩:=ob_iff.mp q
 cases asR_is ea
 cases r.refI
 refine he _ _ _ _ q Hb G L0 L1 σ H1 _ R1 (fun v1 d1 L2 M2 H2 R2 s2 r1 q=> ?_) (fun cls dd x L' M' H' R' s'=>ex cls dd x L' M' H' R' (Same.trans s1 s'))
 obtain ⟨i,ei,q1⟩:=ob_iff.mp q
 obtain ⟨xs,ex',q2⟩:=ob_iff.mp q1
 obtain ⟨t,et,q3⟩:=ob_iff.mp q2
 cases asI_is ei
 cases r1.intI
 obtain ⟨m2,vs,o1,o2⟩:=R2.atL (cellL_is ex')
 have hj:∃j,ixN vs.length i=some j∧xs[j]? =some t:=by
  unfold atI at et
  obtain ⟨j,e1,e2⟩:=Option.bind_eq_some_iff.mp et
  exact ⟨j,by rw [RepL.length o2];exact e1,e2⟩
 obtain ⟨j,e1,e2⟩:=hj
 obtain ⟨u,eu,ru⟩:=RepL.get o2 e2
 refine .inl ⟨a,vs,i,u,rfl,rfl,SqL.of o1, ?_,k _ _ L2 M2 H2 R2 (Same.trans s1 s2) ru q3⟩
 unfold atI
 rw [e1]
 exact eu
end
end M3
set_option maxHeartbeats 1000000
namespace M3
open PySem PySem.Spec PyProof.Rows L2
end M3
set_option maxHeartbeats 1000000
namespace M3
open PySem PySem.Spec PyProof.Rows L2
end M3
set_option maxHeartbeats 1000000
namespace M3
open PySem PySem.Spec PyProof.Rows L2
end M3
set_option maxHeartbeats 1000000
namespace M3
open PySem L2
end M3
set_option maxHeartbeats 1000000
namespace M3
open PySem PySem.Spec PyProof.Rows L2
end M3
set_option maxHeartbeats 1000000
namespace M3
open PySem PySem.Spec PyProof.Rows L2
section
variable {K:PySem.W.Frag} {c:Cf} {Hb H H' H2:Hp} {G L0 L L':List Addr} {M M':Mem} {σ3:List Sl} {σ:L2.St} {W:WX} {e:See} {n:Nat} {is:List Nat} {F:Addr→Obj} {Ds:List Addr}
theorem Lk.xd (k:Lk K c G L M H e F [] H2) (cl:Cells K (c.S0++G) L M H) {d:Addr} {fs:List (Str×V)} (h:hid (c.S0++G++noC e M L) H2 d=some (.xd fs)):vs4 c G L (HU e M L H H2) d=some (.xd fs):=by
 obtain ⟨h1,h2⟩:=hid_some h
 have nL:d ∉ L:=fun z=>by
  by_cases nn:d∈noC e M L
  · exact h2 (List.mem_append.mpr (.inr nn))
  · rcases k.seenC cl z nn with ⟨_,vs,q⟩ | ⟨_,o,kvs,q⟩ | ⟨C,dx,ks,_,q⟩<;>(rw [h1] at q;cases q)
 refine hid_mk ((HU_off nL).trans h1) (fun z=> ?_) (hid_vis h)
 rcases List.mem_append.mp z with z | z
 · exact h2 (List.mem_append.mpr (.inl z))
 · exact nL z
end
end M3
set_option maxHeartbeats 1000000
namespace L2
open PySem PySem.Spec PyProof.Rows
end L2
namespace M3
open PySem L2
end M3
set_option maxHeartbeats 1000000
namespace M3
open PySem PySem.Spec PyProof.Rows L2
end M3
set_option maxHeartbeats 1000000
namespace M3
open PySem L2
end M3
set_option maxHeartbeats 1000000
namespace M3
open PySem PySem.Spec PyProof.Rows L2 LamX PySem.W PySem.Calls
end M3
set_option maxHeartbeats 1000000
namespace M3
open PySem L2 PySem.Froz PyProof.Rows
end M3
set_option maxHeartbeats 1000000
namespace M3
open PySem L2 PySem.Froz PyProof.Rows
section
variable {P:Program} {w:World} {A:Around} {E:Value→Shared→Prop} {s:Shared}
structure Fr1 (f:Addr) (s s':Shared):Prop where
 heap:∀b o,b≠f→s.heap.get? b=some o→s'.heap.get? b=some o
 gens:s'.gens=s.gens
 os:s'.os=s.os
theorem Fr1.refl {f:Addr} {s:Shared}:Fr1 f s s:=⟨fun _ _ _ e=>e,rfl,rfl⟩
theorem Fr1.trans {f:Addr} {s s' s'':Shared} (x:Fr1 f s s') (y:Fr1 f s' s''):Fr1 f s s'':=⟨fun b o n e=>y.heap b o n (x.heap b o n e),y.gens.trans x.gens,y.os.trans x.os⟩
end
end M3
set_option maxHeartbeats 1000000
namespace M3
open PySem L2 PySem.Froz PyProof.Rows PySem.Spec
end M3
namespace L2
open PySem
end L2
namespace M3
open PySem L2
end M3
namespace L2H
open PySem PySem.Spec PyProof.Rows L2 HotX
end L2H
namespace L2
open PySem PySem.Spec PyProof.Rows L2H HotX
end L2
namespace M3
open PySem PySem.Spec PyProof.Rows L2 L2H HotX
end M3
namespace M3
open PySem PySem.Spec PyProof.Rows L2 L2H
end M3
set_option maxHeartbeats 1000000
namespace M3
open PySem L2
end M3
namespace PySem.SeqAt
open AutoSeq1 (wpAny_loadPart')
open MeetsSeq MeetsSeq2 MeetsSeq3 SeqRoads2
section
variable {prog:Program} {w:World}
theorem ne_runB (l b:Addr) (us ws:Array Value) (n n2:Nat) (dd dd2:Option Addr) (sl sl2:Array (Option Value)) (el:us.size=ws.size) (e:Nat→Bool) (k:Nat):
 ∀i:Nat,us.size-i=k→MeetsIn prog w (Builtin.«list.__eq__.loop» ⟨[.ref l,.ref b,rawInt i,rawInt 3],[]⟩) (fun A R s=>
  s.heap.get? l=some ⟨.type "list",dd,.seq us n,sl⟩∧s.heap.get? b=some ⟨.type "list",dd2,.seq ws n2,sl2⟩∧(∀j (h1:j<us.size) (h2:j<ws.size),EqIn prog w A.in1 s us[j] ws[j] (e j))∧R (.ok (.ret (.bool (!(((List.range us.size).drop i).all e))))) s):=by
 induction k with
 | zero=>
   rintro i ek A R ⟨hp,g,d,tk,os⟩ ⟨hl,hb,he,q⟩
   wp_walk using wpAny_loadPart' hl,wpAny_loadPart' hb
   have o1:us[((i:Nat):Int).toNat]? =none:=by simp;omega
   have o2:ws[((i:Nat):Int).toNat]? =none:=by simp;omega
   have hd:(List.range us.size).drop i=[]:=by simp;omega
   rw [hd] at q
   rw [o1,o2]
   wp_walk using wpAny_loadPart' hl,wpAny_loadPart' hb
   show R (.ok (.ret (.bool (us.size != ws.size)))) _
   rw [el]
   simpa using q
 | succ k ih=>
   rintro i ek A R ⟨hp,g,d,tk,os⟩ ⟨hl,hb,he,q⟩
   wp_walk using wpAny_loadPart' hl,wpAny_loadPart' hb
   have l1:i<us.size:=by omega
   have l2:i<ws.size:=by omega
   have o1:us[((i:Nat):Int).toNat]? =some us[i]:=by simp [l1]
   have o2:ws[((i:Nat):Int).toNat]? =some ws[i]:=by simp [l2]
   have hd:(List.range us.size).drop i=i::(List.range us.size).drop (i+1):=by simp [List.drop_eq_getElem_cons,l1]
   have up:((i:Int)+1)=((i+1:Nat):Int):=by push_cast;rfl
   rw [hd,List.all_cons] at q
   rw [o1,o2]
   refine wpAny_bind (he i l1 l2 _ _ ?_)
   cases hb':e i with
   | true=>
     rw [hb'] at q
     wp_walk
     rw [up]
     refine ⟨plainId_quiet plain_eq_loop _,codeAny_builtin entry_eq_loop ?_⟩
     rw [Around.under_plainId plain_eq_loop _]
     exact ih (i+1) (by omega) A R _ ⟨hl,hb,he,by simpa using q⟩
   | false=>
     rw [hb'] at q
     wp_walk using wpAny_loadPart' hl,wpAny_loadPart' hb
     rw [o1,o2]
     wp_walk
     simpa using q
theorem ne_listB (l b:Addr) (us ws:Array Value) (n n2:Nat) (dd dd2:Option Addr) (sl sl2:Array (Option Value)) (el:us.size=ws.size) (e:Nat→Bool):
 MeetsIn prog w (Builtin.«list.__ne__» ⟨[.ref l,.ref b],[]⟩) (fun A R s=>
  s.heap.get? l=some ⟨.type "list",dd,.seq us n,sl⟩∧s.heap.get? b=some ⟨.type "list",dd2,.seq ws n2,sl2⟩∧(∀j (h1:j<us.size) (h2:j<ws.size),EqIn prog w A.in1 s us[j] ws[j] (e j))∧R (.ok (.ret (.bool (!((List.range us.size).all e))))) s):=by
 rintro A R ⟨hp,g,d,tk,os⟩ ⟨hl,hb,he,q⟩
 have f3:=AutoSeq1.sub_list_list
 have nz:¬(us.size != ws.size)=true:=by simp [el]
 wp_walk using wpAny_loadPart' hl,wpAny_loadPart' hb
 refine ⟨plainId_quiet plain_eq_loop _,codeAny_builtin entry_eq_loop ?_⟩
 rw [Around.under_plainId plain_eq_loop _]
 exact ne_runB l b us ws n n2 dd dd2 sl sl2 el e _ 0 rfl A R _ ⟨hl,hb,he,q⟩
theorem rcNe_listB {A:Around} {s:Shared} {l b:Addr} {us ws:Array Value} {e:Nat→Bool} {E Q:Value→Shared→Prop} (hl:s.heap.IsList l us) (hb:s.heap.IsList b ws) (el:us.size=ws.size) (hu:A.units<cLine)
 (he:∀j (h1:j<us.size) (h2:j<ws.size),EqIn prog w A.in1 s us[j] ws[j] (e j)) (q:Q (.bool (!((List.range us.size).all e))) s):wpAny (model prog w) A (richCompare .NotEq (.ref l) (.ref b)) Q E s:=by
 obtain ⟨⟨cls,dd,data,sl⟩,ho,hc,n,hd⟩:=id hl
 obtain ⟨⟨cls2,dd2,data2,sl2⟩,ho2,hc2,n2,hd2⟩:=id hb
 simp only at hc hd hc2 hd2
 subst hc hd hc2 hd2
 have ta:s.TypeIs (.ref l) "list":=⟨_,ho,rfl⟩
 have tb:s.TypeIs (.ref b) "list":=⟨_,ho2,rfl⟩
 exact wpAny_richCompare_same_room (op:=.NotEq) ta tb F.slot_list_ne (call_meetsIn F.slot_list_ne ta F.entry_list_ne (F.args_list_ne_2 _ _) (ne_listB l b us ws n n2 dd dd2 sl sl2 el e) ⟨ho,ho2,he,(show Value.bool (!((List.range us.size).all e))≠Value.notImplemented∧Q (.bool (!((List.range us.size).all e))) s from ⟨(fun x=>nomatch x),q⟩)⟩) hu
end
end PySem.SeqAt
namespace M3
open PySem L2
inductive EqB:Nat→T→T→Bool→Prop
 | data {n:Nat} {t u:T} {d e:PyData} (h1:dat t=some d) (h2:dat u=some e) (s1:SeqAt.shaped d=true) (s2:SeqAt.shaped e=true):EqB n t u (PyData.eqv d e)
 | lst {n:Nat} {xs ys:List T} {e:Nat→Bool} (hl:xs.length=ys.length) (h:∀(i:Nat) x y,xs[i]? =some x→ys[i]? =some y→EqB n x y (e i)):EqB (n+1) (.lst xs) (.lst ys) ((List.range xs.length).all e)
 | tup {n:Nat} {xs ys:List T} {e:Nat→Bool} (hl:xs.length=ys.length) (h:∀(i:Nat) x y,xs[i]? =some x→ys[i]? =some y→EqB n x y (e i)):EqB (n+1) (.tup xs) (.tup ys) ((List.range xs.length).all e)
 | dic {n:Nat} {ks ls:List (Key×T)} {e:Key→Bool} (h:∀k v u,(k,v)∈ks→valT ls k=some u→EqB n v u (e k)):EqB (n+1) (.dic ks) (.dic ls) (ks.length==ls.length&&ks.all fun p=>(valT ls p.1).isSome&&e p.1)
mutual
theorem eqv_lay:∀d:PyData,d.canLay0=true→PyData.eqv d d=true
 | .none,_=>rfl
 | .bool b,_=>by cases b<;>rfl
 | .int i,_=>by simp [PyData.eqv]
 | .str x,_=>by simp [PyData.eqv]
 | .list xs,h=>eqv_layL xs h
 | .tuple xs,h=>eqv_layL xs h
 | .dict _,h=>nomatch h
theorem eqv_layL:∀ds:List PyData,PyData.canLayAll0 ds=true→PyData.eqvAll ds ds=true
 | [],_=>rfl
 | d::ds,h=>by
   have h':d.canLay0=true∧PyData.canLayAll0 ds=true:=by simpa [PyData.canLayAll0] using h
   show (PyData.eqv d d&&PyData.eqvAll ds ds)=true
   rw [eqv_lay d h'.1,eqv_layL ds h'.2]
   rfl
end
section
variable {X:Cx} {pins:List (Addr×Obj)} {σ:St} {H:Hp} {s:Shared} {S:List Addr}
theorem RepD.valI {K:PySem.W.Frag} {Hv:Hp} {kvs:List (Key×V)} {ts:List (Key×T)} (r:RepD K Hv kvs ts) {k:Key} {v:V} (h:valV kvs k=some v):∃t,valT ts k=some t∧Rep K Hv v t:=by
 cases e:valT ts k with
 | none=>rw [r.valN e] at h;cases h
 | some t=>
   obtain ⟨u,hu,ru⟩:=r.val e
   rw [h] at hu
   cases hu
   exact ⟨t,rfl,ru⟩
theorem valT_mem {ks:List (Key×T)} {k:Key} {t:T} (h:valT ks k=some t):(k,t)∈ks:=by
 unfold valT at h
 cases e:ks.find? fun kv=>decide (kv.1=k) with
 | none=>rw [e] at h;cases h
 | some q=>
   rw [e] at h
   cases h
   have h1:=List.find?_some e
   have h2:=List.mem_of_find?_eq_some e
   have h1:q.1=k:=by simpa using h1
   rw [←h1]
   exact h2
theorem valT_some {ls:List (Key×T)} {k:Key} (h:k∈ls.map (·.1)):(valT ls k).isSome=true:=by
 unfold valT
 rw [Option.isSome_map]
 obtain ⟨q,hq,rfl⟩:=List.mem_map.mp h
 rw [List.find?_isSome]
 exact ⟨q,hq,by simp⟩
theorem valT_of {ks:List (Key×T)} (nd:(ks.map (·.1)).Nodup):∀ {k:Key} {t:T},(k,t)∈ks→valT ks k=some t:=by
 induction ks with
 | nil=>intro k t h;cases h
 | cons q ks ih=>
   intro k t h
   rw [List.map_cons,List.nodup_cons] at nd
   rcases List.mem_cons.mp h with e | e
   · subst e
     simp [valT,List.find?_cons]
   · have hn:¬q.1=k:=fun z=>nd.1 (by rw [z];exact List.mem_map.mpr ⟨_,e,rfl⟩)
     have:=ih nd.2 e
     unfold valT at this ⊢
     rw [List.find?_cons]
     simp only [hn,decide_false]
     exact this
theorem kv_keys {kvs:List (Key×V)} {va:List (Key×Value)} (h:KV kvs va):kvs.map (·.1)=va.map (·.1):=by
 unfold KV at h
 induction h with
 | nil=>rfl
 | cons h _ ih=>simp only [List.map_cons,ih,h.1]
theorem all_rng {n:Nat} {e:Nat→Bool} (h:∀j,j<n→e j=true):((List.range n).all e)=true:=List.all_eq_true.mpr fun j hj=>h j (List.mem_range.mp hj)
theorem eqb_same (I:Inv X pins σ H s) {n:Nat} {t u:T} {b:Bool} (h:EqB n t u b):∀(v w:V) (a:Value),Rep X.K (hid S H) v t→Rep X.K (hid S H) w u→RelV v a→RelV w a→b=true:=by
 induction h with
 | @data n t u d e h1 h2 s1 s2=>
   intro v w a r1 r2 ra rb
   obtain ⟨as,q1⟩:=Dp.reads I d v a (dp_of hid_same t v d r1 h1) ra
   obtain ⟨bs,q2⟩:=Dp.reads I e w a (dp_of hid_same u w e r2 h2) rb
   have:=SeqAt.Reads.unique d e a as bs (SeqAt.canLay_of_shaped s1) q1 q2
   subst this
   exact eqv_lay d (SeqAt.canLay_of_shaped s1)
 | @lst n xs ys e hl h ih=>
   intro v w a r1 r2 ra rb
   obtain ⟨p,vs,rfl,hp,rl⟩:=r1.lstI
   obtain ⟨q,ws,rfl,hq,rm⟩:=r2.lstI
   cases ra
   cases rb
   rw [hp] at hq
   cases hq
   obtain ⟨i1,v1,p1,_⟩:=I.list (SqL.of (hid_same _ _ hp))
   refine all_rng fun j hj=> ?_
   have l1:j<vs.length:=by rw [rl.length];exact hj
   have l2:j<ys.length:=by rw [←hl];exact hj
   obtain ⟨x,y,e1,e2,rv⟩ | ⟨_,_⟩:=vals_get (i:=j) v1
   · rw [List.getElem?_eq_getElem l1] at e1
     cases e1
     exact ih j _ _ (List.getElem?_eq_getElem hj) (List.getElem?_eq_getElem l2) _ _ y (rl.at (List.getElem?_eq_getElem l1) (List.getElem?_eq_getElem hj)) (rm.at (List.getElem?_eq_getElem l1) (List.getElem?_eq_getElem l2)) rv rv
   · rename_i z _
     rw [List.getElem?_eq_getElem l1] at z
     cases z
 | @tup n xs ys e hl h ih=>
   intro v w a r1 r2 ra rb
   obtain ⟨p,vs,rfl,hp,rl⟩:=r1.tupI
   obtain ⟨q,ws,rfl,hq,rm⟩:=r2.tupI
   cases ra
   cases rb
   obtain ⟨i1,v1,p1,_⟩:=I.tuple (Same.sqT hid_same hp)
   obtain ⟨i2,v2,p2,_⟩:=I.tuple (Same.sqT hid_same hq)
   have ei:i1=i2:=by
    obtain ⟨o1,g1,_,n1,d1⟩:=p1
    obtain ⟨o2,g2,_,n2,d2⟩:=p2
    rw [g1] at g2
    cases g2
    rw [d1] at d2
    cases d2
    rfl
   subst ei
   refine all_rng fun j hj=> ?_
   have l1:j<vs.length:=by rw [rl.length];exact hj
   have l2:j<ys.length:=by rw [←hl];exact hj
   have l3:j<ws.length:=by rw [rm.length];exact l2
   have l4:j<i1.length:=by rw [←v1.length];exact l1
   obtain ⟨x,ex,rx⟩:=vals_at v1 (List.getElem?_eq_getElem l4)
   obtain ⟨y,ey,ry⟩:=vals_at v2 (List.getElem?_eq_getElem l4)
   exact ih j _ _ (List.getElem?_eq_getElem hj) (List.getElem?_eq_getElem l2) x y _ (rl.at ex (List.getElem?_eq_getElem hj)) (rm.at ey (List.getElem?_eq_getElem l2)) rx ry
 | @dic n ks ls e h ih=>
   intro v w a r1 r2 ra rb
   obtain ⟨p,o1,kvs,rfl,hp,rd⟩:=r1.dicI
   obtain ⟨q,o2,lvs,rfl,hq,re⟩:=r2.dicI
   cases ra
   cases rb
   rw [hp] at hq
   cases hq
   obtain ⟨_,np,va,ka,da⟩:=dk_rd I.hok (.inr ⟨o1,(hid_some hp).1⟩:Rd H p (.dK kvs))
   have lk:ks.length=ls.length:=by rw [←Paired.length rd, ←Paired.length re]
   have kk:ks.map (·.1)=ls.map (·.1):=by rw [←rd.keys,re.keys]
   have nd:(ks.map (·.1)).Nodup:=by
    obtain ⟨_,_,_,_,_,_,_,_,nv⟩:=da
    rw [←rd.keys,kv_keys ka]
    exact nv
   rw [lk]
   simp only [beq_self_eq_true,Bool.true_and,List.all_eq_true,Bool.and_eq_true]
   rintro ⟨k,v⟩ hm
   have hk:k∈ls.map (·.1):=by rw [←kk];exact List.mem_map.mpr ⟨_,hm,rfl⟩
   refine ⟨valT_some hk, ?_⟩
   cases eu:valT ls k with
   | none=>have:=valT_some hk;rw [eu] at this;cases this
   | some u=>
     obtain ⟨x,ex,rx⟩:=re.val eu
     obtain ⟨y,ey,ry⟩:=rd.val (valT_of nd hm)
     rw [ex] at ey
     cases ey
     have rr:RelO (some x) (valueAt va k):=by rw [←ex];exact ka.val k
     obtain ⟨z,hz,rz⟩:=rr.some_of
     exact ih k v u hm eu x x z ry rx rz rz
theorem keys_all {ks:List (Key×T)} {va:List (Key×Value)} {F G:Key→Bool} (hk:va.map (·.1)=ks.map (·.1)) (h:∀k,F k=G k):(va.all fun p=>F p.1)=ks.all fun p=>G p.1:=by
 have e1:(va.all fun p=>F p.1)=(va.map (·.1)).all F:=by rw [List.all_map];rfl
 have e2:(ks.all fun p=>G p.1)=(ks.map (·.1)).all G:=by rw [List.all_map];rfl
 rw [e1,e2,hk,funext h]
theorem eqb_run (I:Inv X pins σ H s) {n:Nat} {t u:T} {r:Bool} (h:EqB n t u r):∀(v w:V) (a b:Value),Rep X.K (hid S H) v t→Rep X.K (hid S H) w u→RelV v a→RelV w b→PySem.W.EqTree X.prog X.w s (n+64) a b r:=by
 induction h with
 | @data n t u d e h1 h2 s1 s2=>
   intro v w a b r1 r2 ra rb
   obtain ⟨as,q1⟩:=Dp.reads I d v a (dp_of hid_same t v d r1 h1) ra
   obtain ⟨bs,q2⟩:=Dp.reads I e w b (dp_of hid_same u w e r2 h2) rb
   exact .leaf fun A hu=>SeqAt.eqAt_reads d e A s a b as bs q1 q2 (SeqAt.canLay_of_shaped s1) (SeqAt.canLay_of_shaped s2) (SeqAt.room_of_shaped s1 (by omega))
 | @lst n xs ys e hl h ih=>
   intro v w a b r1 r2 ra rb
   have same:=fun (z:a=b)=>eqb_same I (.lst hl h) v w a r1 r2 ra (by rw [z];exact rb)
   obtain ⟨p,vs,rfl,hp,rl⟩:=r1.lstI
   obtain ⟨q,ws,rfl,hq,rm⟩:=r2.lstI
   cases ra
   cases rb
   by_cases ep:p=q
   · subst ep
     rw [same rfl]
     exact .same
   obtain ⟨i1,v1,p1,_⟩:=I.list (SqL.of (hid_same _ _ hp))
   obtain ⟨i2,v2,p2,_⟩:=I.list (SqL.of (hid_same _ _ hq))
   have sz:i1.toArray.size=i2.toArray.size:=by rw [List.size_toArray,List.size_toArray, ←v1.length, ←v2.length,rl.length,rm.length,hl]
   have sx:i1.toArray.size=xs.length:=by rw [List.size_toArray, ←v1.length,rl.length]
   have:=PySem.W.EqTree.lists (n:=n+64) (e:=e) ep p1.isList p2.isList sz (fun j h1 h2=>by
    have g1:i1[j]? =some i1.toArray[j]:=by simp at h1 ⊢
    have g2:i2[j]? =some i2.toArray[j]:=by simp at h2 ⊢
    obtain ⟨x,ex,rx⟩:=vals_at v1 g1
    obtain ⟨y,ey,ry⟩:=vals_at v2 g2
    have l1:j<xs.length:=by rw [←rl.length];exact (List.getElem?_eq_some_iff.mp ex).1
    have l2:j<ys.length:=by rw [←rm.length];exact (List.getElem?_eq_some_iff.mp ey).1
    exact ih j _ _ (List.getElem?_eq_getElem l1) (List.getElem?_eq_getElem l2) x y _ _ (rl.at ex (List.getElem?_eq_getElem l1)) (rm.at ey (List.getElem?_eq_getElem l2)) rx ry)
   rw [sx] at this
   have e2:n+1+64=n+64+1:=by omega
   rw [e2]
   exact this
 | @tup n xs ys e hl h ih=>
   intro v w a b r1 r2 ra rb
   have same:=fun (z:a=b)=>eqb_same I (.tup hl h) v w a r1 r2 ra (by rw [z];exact rb)
   obtain ⟨p,vs,rfl,hp,rl⟩:=r1.tupI
   obtain ⟨q,ws,rfl,hq,rm⟩:=r2.tupI
   cases ra
   cases rb
   by_cases ep:p=q
   · subst ep
     rw [same rfl]
     exact .same
   obtain ⟨i1,v1,p1,_⟩:=I.tuple (Same.sqT hid_same hp)
   obtain ⟨i2,v2,p2,_⟩:=I.tuple (Same.sqT hid_same hq)
   have sz:i1.toArray.size=i2.toArray.size:=by rw [List.size_toArray,List.size_toArray, ←v1.length, ←v2.length,rl.length,rm.length,hl]
   have sx:i1.toArray.size=xs.length:=by rw [List.size_toArray, ←v1.length,rl.length]
   have:=PySem.W.EqTree.tuples (prog:=X.prog) (w:=X.w) (n:=n+64) (e:=e) ep p1 p2 (fun j h1 h2=>by
    have g1:i1[j]? =some i1.toArray[j]:=by simp at h1 ⊢
    have g2:i2[j]? =some i2.toArray[j]:=by simp at h2 ⊢
    obtain ⟨x,ex,rx⟩:=vals_at v1 g1
    obtain ⟨y,ey,ry⟩:=vals_at v2 g2
    have l1:j<xs.length:=by rw [←rl.length];exact (List.getElem?_eq_some_iff.mp ex).1
    have l2:j<ys.length:=by rw [←rm.length];exact (List.getElem?_eq_some_iff.mp ey).1
    exact ih j _ _ (List.getElem?_eq_getElem l1) (List.getElem?_eq_getElem l2) x y _ _ (rl.at ex (List.getElem?_eq_getElem l1)) (rm.at ey (List.getElem?_eq_getElem l2)) rx ry)
   rw [←sz,sx] at this
   have e2:n+1+64=n+64+1:=by omega
   rw [e2]
   simpa using this
 | @dic n ks ls e h ih=>
   intro v w a b r1 r2 ra rb
   have same:=fun (z:a=b)=>eqb_same I (.dic h) v w a r1 r2 ra (by rw [z];exact rb)
   obtain ⟨p,o1,kvs,rfl,hp,rd⟩:=r1.dicI
   obtain ⟨q,o2,lvs,rfl,hq,re⟩:=r2.dicI
   cases ra
   cases rb
   by_cases ep:p=q
   · subst ep
     rw [same rfl]
     exact .same
   obtain ⟨_,np,va,ka,da⟩:=dk_rd I.hok (.inr ⟨o1,(hid_some hp).1⟩:Rd H p (.dK kvs))
   obtain ⟨_,nq,vb,kb,db⟩:=dk_rd I.hok (.inr ⟨o2,(hid_some hq).1⟩:Rd H q (.dK lvs))
   have nd:(ks.map (·.1)).Nodup:=by
    obtain ⟨_,_,_,_,_,_,_,_,nv⟩:=id da
    rw [←rd.keys,kv_keys ka]
    exact nv
   have:=PySem.W.EqTree.dicts (prog:=X.prog) (w:=X.w) (knd:=mixKind X.prog X.w) (n:=n+64) (e:=e) ep np nq da db (fun k v' y hm hv=>by
    obtain ⟨i,hi⟩:=List.getElem?_of_mem hm
    have li:i<va.length:=(List.getElem?_eq_some_iff.mp hi).1
    have lk:i<kvs.length:=by rw [ka.length];exact li
    have lt:i<ks.length:=by rw [←Paired.length rd];exact lk
    obtain ⟨z1,z2⟩:=paired_i ka (List.getElem?_eq_getElem lk) hi
    obtain ⟨y1,y2⟩:=paired_i rd (List.getElem?_eq_getElem lk) (List.getElem?_eq_getElem lt)
    have em:(k,ks[i].2)∈ks:=by
     have:ks[i].1=k:=by rw [←y1];exact z1
     rw [←this]
     exact List.getElem_mem lt
    have rr:RelO (valV lvs k) (valueAt vb k):=kb.val k
    rw [hv] at rr
    cases el:valV lvs k with
    | none=>rw [el] at rr;exact rr.elim
    | some u'=>
      rw [el] at rr
      obtain ⟨u,eu,ru⟩:=re.valI el
      exact ih k _ u em eu _ _ _ _ y2 ru z2 rr)
   have lz:va.length=ks.length:=by rw [←ka.length,Paired.length rd]
   have lz':vb.length=ls.length:=by rw [←kb.length,Paired.length re]
   have al:(va.all fun p=>(valueAt vb p.1).isSome&&e p.1)=ks.all fun p=>(valT ls p.1).isSome&&e p.1:=by
    refine keys_all (F:=fun k=>(valueAt vb k).isSome&&e k) (G:=fun k=>(valT ls k).isSome&&e k) (by rw [←kv_keys ka,rd.keys]) fun k=> ?_
    have rr:RelO (valV lvs k) (valueAt vb k):=kb.val k
    have hs:(valueAt vb k).isSome=(valT ls k).isSome:=by
     cases el:valV lvs k with
     | none=>
       rw [el] at rr
       cases ev:valueAt vb k with
       | none=>
         cases et:valT ls k with
         | none=>rfl
         | some t=>obtain ⟨x,ex,_⟩:=re.val et;rw [el] at ex;cases ex
       | some y=>rw [ev] at rr;exact rr.elim
     | some x=>
       obtain ⟨t,et,_⟩:=re.valI el
       rw [el] at rr
       cases ev:valueAt vb k with
       | none=>rw [ev] at rr;exact rr.elim
       | some y=>rw [et];rfl
    show ((valueAt vb k).isSome&&e k)=_
    rw [hs]
   rw [lz,lz',al] at this
   have e2:n+1+64=n+64+1:=by omega
   rw [e2]
   exact this
end
def notD:T→Bool
 | .dic _=>false
 | _=>true
def rEqB (K:PySem.W.Frag):R2:=fun x y H Q=>∃S n t u b,n≤100∧Rep K (hid S H) x t∧Rep K (hid S H) y u∧EqB n t u b∧notD t=true∧Q (.bl b) H
def rNeB (K:PySem.W.Frag):R2:=fun x y H Q=>∃S n xs ys e,n≤100∧Rep K (hid S H) x (.lst xs)∧Rep K (hid S H) y (.lst ys)∧xs.length=ys.length∧(∀(i:Nat) x y,xs[i]? =some x→ys[i]? =some y→EqB n x y (e i))∧Q (.bl (!((List.range xs.length).all e))) H
section
variable {X:Cx} {K:PySem.W.Frag}
theorem op_eqB (h:X.K=K) (hu:X.A.units+200<cLine):OpR X (compareOp .Eq) (rEqB K):=by
 subst h
 intro pins s σ H x y v u Q I rx ry h
 obtain ⟨S,n,t,t',b,hn,r1,r2,he,nd,q⟩:=h
 have fin:EP X pins σ Q (.bool b) s:=⟨.bl b,H,I,rfl,q⟩
 cases he with
 | data h1 h2 s1 s2=>
   obtain ⟨as,q1⟩:=Dp.reads I _ x v (dp_of hid_same _ x _ r1 h1) rx
   obtain ⟨bs,q2⟩:=Dp.reads I _ y u (dp_of hid_same _ y _ r2 h2) ry
   exact SeqAt.compareEq_shaped q1 q2 s1 s2 (by omega) fin
 | @lst n xs ys e hl h=>
   obtain ⟨p,vs,rfl,hp,rl⟩:=r1.lstI
   obtain ⟨p',ws,rfl,hq,rm⟩:=r2.lstI
   cases rx
   cases ry
   obtain ⟨i1,v1,p1,_⟩:=I.list (SqL.of (hid_same _ _ hp))
   obtain ⟨i2,v2,p2,_⟩:=I.list (SqL.of (hid_same _ _ hq))
   have sz:i1.toArray.size=i2.toArray.size:=by rw [List.size_toArray,List.size_toArray, ←v1.length, ←v2.length,rl.length,rm.length,hl]
   have sx:i1.toArray.size=xs.length:=by rw [List.size_toArray, ←v1.length,rl.length]
   refine PySem.W.eq_listsT (n:=n+64) (e:=e) p1.isList p2.isList sz (fun j h1 h2=> ?_) (by omega) ?_
   · have g1:i1[j]? =some i1.toArray[j]:=by simp at h1 ⊢
     have g2:i2[j]? =some i2.toArray[j]:=by simp at h2 ⊢
     obtain ⟨x,ex,rx⟩:=vals_at v1 g1
     obtain ⟨y,ey,ry⟩:=vals_at v2 g2
     have l1:j<xs.length:=by rw [←rl.length];exact (List.getElem?_eq_some_iff.mp ex).1
     have l2:j<ys.length:=by rw [←rm.length];exact (List.getElem?_eq_some_iff.mp ey).1
     exact eqb_run I (h j _ _ (List.getElem?_eq_getElem l1) (List.getElem?_eq_getElem l2)) x y _ _ (rl.at ex (List.getElem?_eq_getElem l1)) (rm.at ey (List.getElem?_eq_getElem l2)) rx ry
   · rw [sx]
     exact fin
 | @tup n xs ys e hl h=>
   obtain ⟨p,vs,rfl,hp,rl⟩:=r1.tupI
   obtain ⟨p',ws,rfl,hq,rm⟩:=r2.tupI
   cases rx
   cases ry
   obtain ⟨i1,v1,p1,_⟩:=I.tuple (Same.sqT hid_same hp)
   obtain ⟨i2,v2,p2,_⟩:=I.tuple (Same.sqT hid_same hq)
   have sz:i1.toArray.size=i2.toArray.size:=by rw [List.size_toArray,List.size_toArray, ←v1.length, ←v2.length,rl.length,rm.length,hl]
   have sx:i1.toArray.size=xs.length:=by rw [List.size_toArray, ←v1.length,rl.length]
   refine PySem.W.eq_tuplesT (n:=n+64) (e:=e) p1 p2 (fun j h1 h2=> ?_) (by omega) ?_
   · have g1:i1[j]? =some i1.toArray[j]:=by simp at h1 ⊢
     have g2:i2[j]? =some i2.toArray[j]:=by simp at h2 ⊢
     obtain ⟨x,ex,rx⟩:=vals_at v1 g1
     obtain ⟨y,ey,ry⟩:=vals_at v2 g2
     have l1:j<xs.length:=by rw [←rl.length];exact (List.getElem?_eq_some_iff.mp ex).1
     have l2:j<ys.length:=by rw [←rm.length];exact (List.getElem?_eq_some_iff.mp ey).1
     exact eqb_run I (h j _ _ (List.getElem?_eq_getElem l1) (List.getElem?_eq_getElem l2)) x y _ _ (rl.at ex (List.getElem?_eq_getElem l1)) (rm.at ey (List.getElem?_eq_getElem l2)) rx ry
   · rw [←sz,sx]
     simpa using fin
 | @dic n ks ls e h=>simp [notD] at nd
theorem op_neB (h:X.K=K) (hu:X.A.units+200<cLine):OpR X (compareOp .NotEq) (rNeB K):=by
 subst h
 intro pins s σ H x y v u Q I rx ry h
 obtain ⟨S,n,xs,ys,e,hn,r1,r2,hl,h,q⟩:=h
 have fin:EP X pins σ Q (.bool (!((List.range xs.length).all e))) s:=⟨.bl _,H,I,rfl,q⟩
 obtain ⟨p,vs,rfl,hp,rl⟩:=r1.lstI
 obtain ⟨p',ws,rfl,hq,rm⟩:=r2.lstI
 cases rx
 cases ry
 obtain ⟨i1,v1,p1,_⟩:=I.list (SqL.of (hid_same _ _ hp))
 obtain ⟨i2,v2,p2,_⟩:=I.list (SqL.of (hid_same _ _ hq))
 have sz:i1.toArray.size=i2.toArray.size:=by rw [List.size_toArray,List.size_toArray, ←v1.length, ←v2.length,rl.length,rm.length,hl]
 have sx:i1.toArray.size=xs.length:=by rw [List.size_toArray, ←v1.length,rl.length]
 refine SeqAt.rcNe_listB (e:=e) p1.isList p2.isList sz (by omega) (fun j h1 h2=> ?_) (by rw [sx];exact fin)
 have g1:i1[j]? =some i1.toArray[j]:=by simp at h1 ⊢
 have g2:i2[j]? =some i2.toArray[j]:=by simp at h2 ⊢
 obtain ⟨x,ex,rx⟩:=vals_at v1 g1
 obtain ⟨y,ey,ry⟩:=vals_at v2 g2
 have l1:j<xs.length:=by rw [←rl.length];exact (List.getElem?_eq_some_iff.mp ex).1
 have l2:j<ys.length:=by rw [←rm.length];exact (List.getElem?_eq_some_iff.mp ey).1
 exact (eqb_run I (h j _ _ (List.getElem?_eq_getElem l1) (List.getElem?_eq_getElem l2)) x y _ _ (rl.at ex (List.getElem?_eq_getElem l1)) (rm.at ey (List.getElem?_eq_getElem l2)) rx ry).at X.A.in1 (by show X.A.units+1+_<cLine;omega)
end
def eqB3:T→T→(T→Prop)→Prop:=fun x y Q=>∃n b,n≤100∧EqB n x y b∧notD x=true∧Q (.bl b)
def neB3:T→T→(T→Prop)→Prop:=fun x y Q=>ob (asL x) fun xs=>ob (asL y) fun ys=>∃n e,n≤100∧xs.length=ys.length∧(∀(i:Nat) x y,xs[i]? =some x→ys[i]? =some y→EqB n x y (e i))∧Q (.bl (!((List.range xs.length).all e)))
section
variable {K:PySem.W.Frag}
theorem rl_eqB:RL2 K (rEqB K) eqB3:=by
 intro c x y Q3 hh Hb G A σ3 σ H vx vy Q R rx ry k
 obtain ⟨n,b,hn,he,nd,q⟩:=hh
 exact ⟨_,n,x,y,b,hn,rx,ry,he,nd,k _ _ H (Le.refl R.inv) (.bl _) q⟩
theorem rl_neB:RL2 K (rNeB K) neB3:=by
 intro c x y Q3 hh Hb G A σ3 σ H vx vy Q R rx ry k
 obtain ⟨xs,e1,hh1⟩:=ob_iff.mp hh
 obtain ⟨ys,e2,n,e,hn,hl,he,q⟩:=ob_iff.mp hh1
 cases asL_is e1
 cases asL_is e2
 exact ⟨_,n,xs,ys,e,hn,rx,ry,hl,he,k _ _ H (Le.refl R.inv) (.bl _) q⟩
end
section
variable {K:PySem.W.Frag} {c:Cf} {W:WX}
def popL4 (o:E4):E4:=fun σ M Q X=>o σ M (fun d M1=>ob (asR d) fun a=>ob (cellL M1 a) fun xs=>ob xs[xs.length-1]? fun y=>Q y (mset M1 a (some (.lst xs.dropLast)))) X
theorem lift_popL {to:TE} {o:E4} (ho:Lift4 K c W to o):Lift4 K c W (tBM K "list" rPop to tNil) (popL4 o):=by
 intro σ3 M Q4 X h Hb G L0 L σ H Q R k ex
 refine ho _ _ _ _ h Hb G L0 L σ H _ R (fun v d L1 M1 H1 R1 s1 r q=> ?_) ex
 obtain ⟨a,ea,qa⟩:=ob_iff.mp q
 obtain ⟨xs,e0,q1⟩:=ob_iff.mp qa
 obtain ⟨y,ey,q4⟩:=ob_iff.mp q1
 cases asR_is ea
 cases r.refI
 obtain ⟨m2,vs,o1,o2⟩:=R1.atL (cellL_is e0)
 obtain ⟨u,eu,ru⟩:=RepL.get o2 ey
 refine ⟨.inl ⟨rfl,vs,SqL.of o1⟩, ?_⟩
 have hv:vs4 c G L1 (upd H1 a (.lst vs.dropLast))=vs4 c G L1 H1:=hid_upd_in (by simp [m2])
 refine ⟨a,vs,u,rfl,rfl,o1,by rw [o2.length];exact eu, ?_⟩
 exact k _ _ L1 _ _ (R1.put (t:=.lst xs.dropLast) m2 (fun φ z=>by cases z) ⟨vs.dropLast,upd_same,by rw [List.dropLast_eq_take,List.dropLast_eq_take,o2.length];exact RepL.take _ o2⟩) (Same.trans s1 (by rw [hv];exact Same.refl _)) (by rw [hv];exact ru) q4
end
section
variable {X:Cx} {CX:CXT} {k:Nat} {C:Addr} {sp:Sp} {E:XK} {x:Str} {p pos:Pos} {kws:List Keyword} {ks:List Str} {tk:TA} {gV:List V→List V→List V}
theorem pe_mkKw (M:MkN X.prog X.w X.K X.mg X.base CX x C k 0 ks gV sp) (hr:Room (k+1) X.A) (hg:Gl X x) (hx:Passes CX X E) (hkw:PK X kws tk)
 (h1:(backToKw pos (keywordEach kws X.env)).all (·.1.isSome)=true:=by rfl) (h2:(backToKw pos (keywordEach kws X.env)).filterMap (·.1)=ks:=by rfl) (h3:(x==("__debug__":Str))=false:=by decide)
 (h5:((backTo pos (starEach [] X.env)).any (·.1)||(backToKw pos (keywordEach kws X.env)).any (·.1.isNone))=false:=by rfl):
 PE X (.Call (.Name x p) [] kws pos) (tMakeK C 0 ks.length sp gV E tNil tk):=by
 obtain ⟨f,fd,ps,g,F,hm,M,hb⟩:=M.ex
 exact pe_makeK0 M F hr hg hm hb hx hkw h1 h2 h3 h5
end
section
open PySem.Spec PyProof.Rows
variable {P:Program} {w:World} {K:PySem.W.Frag} {mg:Str→Option Value} {base:Heap} {CX:CXT} {x qual:Str} {st:Stmt} {lv:Nat} {ps:List Str} {sp:Sp} {cx:Str}
theorem OkM.mkKw (O:OkM P w K mg base CX ((csOf w K mg).at_ cx) "__init__" x qual st [] [] [] lv ps sp) (M:ClsAt w K mg cx) (hf:∀f,PySem.W.findIn K (.ref ((csOf w K mg).at_ cx)) "__init__"=some (some (.ref f))→PySem.W.isFn K (.ref f)=true) (n:Nat) (ks:List Str) (is:List Nat)
 (h:∀(kV doc pm:Value) (an:Option Addr) (cdv ct:Value) (us ws:List Value),us.length=n+1→ws.length=ks.length→
   bindArgs (PySem.W.fnOf x qual (defArgs st) (defBody st) (defScope st) .none kV doc pm an cdv ct) ⟨us,ks.zip ws⟩=pure (ps.zip (sel is (us++ws)))):MkNT P w K mg base CX cx ((csOf w K mg).at_ cx) lv n ks is [] sp:=by
 obtain ⟨f,fd,dvs,kvs,rd,rk,F,hm,O⟩:=O.ex
 have e:=(rd (fun _=>none)).len0
 have e2:=(rk (fun _=>none)).len0
 subst e e2
 refine ⟨[],fun _=>.nil,f,fd,ps,fun us ws=>sel is (us++ws),O,M.g,⟨M.mks,hm,hf f hm,M.kp⟩, ?_⟩
 obtain ⟨oc,od,dV,kV,doc,pm,an,cdv,ct,osl,rfl,lk,hcd,hD,hK⟩:=F.ex
 rcases hD with ⟨_,rfl⟩ | ⟨e,_⟩
 · exact ⟨fun s us ws _ l1 l2=>.of_eq (h kV doc pm an cdv ct us ws l1 l2),fun r1 r2=>vals_sel is (r1.append r2)⟩
 · exact absurd rfl e
end
end M3
namespace Law
open PySem L2 M3
def Answer_initB (C:Cs):S3:=(seq3 (setO3 [C.at_ "Answer"] 0 "net" (v3 1)) (seq3 (setO3 [C.at_ "Answer"] 0 "counts" (v3 2)) (seq3 (setO3 [C.at_ "Answer"] 0 "followed" (v3 3)) (setO3 [C.at_ "Answer"] 0 "changes" (v3 4)))))
def Answer_initD (C:Cs):F3:=fun ds Q X=>∀x:Addr,Answer_initB C {nx:=fun σ=>ob (ownI σ 0) fun p=>p.1=x∧Q (.ins p.2.1 p.2.2),rt:=fun _=>False,xn:=fun _=>X} (Sl.own (selfT x (C.at_ "Answer") [])::(ds.map Sl.val++List.replicate (5-(ds.length+1)) Sl.no))
theorem Answer_init_ex (C:Cs):∃f:F3,f=Answer_initD C:=⟨_,rfl⟩
noncomputable def Answer_init (C:Cs):F3:=Classical.choose (Answer_init_ex C)
theorem Answer_init_def (C:Cs):Answer_init C=Answer_initD C:=Classical.choose_spec (Answer_init_ex C)
def Answer_eqB (C:Cs):S3:=(seq3 (ifs3 (not3 (tst3 (isiO3 (C.at_ "Answer") (v3 1)))) (ret3 (k3 (.bl false))) next3) (seq3 (asg3 (tup3 (cons3 (fld3 [C.at_ "Answer"] "net" (v3 0)) (cons3 (fld3 [C.at_ "Answer"] "counts" (v3 0)) (cons3 (fld3 [C.at_ "Answer"] "followed" (v3 0)) (cons3 (fld3 [C.at_ "Answer"] "changes" (v3 0)) nil3))))) (name3 2)) (ret3 (op3 eqB3 (v3 2) (tup3 (cons3 (fld3 [C.at_ "Answer"] "net" (v3 1)) (cons3 (fld3 [C.at_ "Answer"] "counts" (v3 1)) (cons3 (fld3 [C.at_ "Answer"] "followed" (v3 1)) (cons3 (fld3 [C.at_ "Answer"] "changes" (v3 1)) nil3)))))))))
def Answer_eqD (C:Cs):F3:=fun ds Q X=>Answer_eqB C {nx:=fun _=>Q .non,rt:=Q,xn:=fun _=>X} (start3 3 ds)
theorem Answer_eq_ex (C:Cs):∃f:F3,f=Answer_eqD C:=⟨_,rfl⟩
noncomputable def Answer_eq (C:Cs):F3:=Classical.choose (Answer_eq_ex C)
theorem Answer_eq_def (C:Cs):Answer_eq C=Answer_eqD C:=Classical.choose_spec (Answer_eq_ex C)
def LcellB (C:Cs) (p:Addr):S3:=(seq3 (asg3 (fnP30 p 2 take3 (cons3 (v3 0) (cons3 (k3 (.int 16)) nil3)) []) (name3 1)) (seq3 (ifs3 (tst3 (op3 M3.ltP (v3 1) (k3 (.int 2)))) (ret3 (k3 .non)) next3) (seq3 (ifs3 (tst3 (op3 M3.ltP (v3 1) (k3 (.int 15)))) (ret3 (if3 (tst3 (op3 M3.ltP (v3 1) (k3 (.int 13)))) (op3 sub3 (fnP30 p 2 take3 (cons3 (v3 0) (cons3 (k3 (.int 5)) nil3)) []) (k3 (.int 1))) (op3 sub3 (fnP30 p 2 take3 (cons3 (v3 0) (cons3 (k3 (.int 41)) nil3)) []) (k3 (.int 20))))) next3) (seq3 (asg3 (op3 sub3 (op3 pow3 (k3 (.int 10)) (k3 (.int 30))) (k3 (.int 1))) (name3 2)) (ret3 (op3 ixP (lst3 (cons3 (v3 2) (cons3 (un3 neg3 (v3 2)) (cons3 (op3 addP (op3 pow3 (k3 (.int 10)) (k3 (.int 15))) (fnP30 p 2 take3 (cons3 (v3 0) (cons3 (op3 pow3 (k3 (.int 10)) (k3 (.int 9))) nil3)) [])) (cons3 (fnP30 p 2 take3 (cons3 (v3 0) (cons3 (op3 addP (v3 2) (k3 (.int 1))) nil3)) []) nil3))))) (fnP30 p 2 take3 (cons3 (v3 0) (cons3 (k3 (.int 4)) nil3)) [])))))))
def LcellD (C:Cs):F3:=fun ds Q X=>match ds with | .ref p::r=>LcellB C p {nx:=fun _=>Q .non,rt:=Q,xn:=fun _=>X} (start3 3 (.ref p::r)) | _=>False
theorem Lcell_ex (C:Cs):∃f:F3,f=LcellD C:=⟨_,rfl⟩
noncomputable def Lcell (C:Cs):F3:=Classical.choose (Lcell_ex C)
theorem Lcell_def (C:Cs):Lcell C=LcellD C:=Classical.choose_spec (Lcell_ex C)
def law_1b_1 (C:Cs) (p:Addr):S4:=(asg4 (newC4 (lst3 nil3)) (name3 3))
def law_1b_2b_1 (C:Cs) (p:Addr):S4:=(asg4 (newC4 (sl3 cutL3 (lst3 (cons3 (tup3 (cons3 (k3 (.str "a")) (cons3 (lst3 (cons3 (tup3 (cons3 (fnP30 p 1 (Lcell C) (cons3 (v3 1) nil3) []) nil3)) nil3)) (cons3 (lst3 nil3) nil3)))) nil3)) no3 (part3 (fnP30 p 2 take3 (cons3 (v3 1) (cons3 (k3 (.int 2)) nil3)) [])))) (name3 5))
def law_1b_2b_2 (C:Cs) (p:Addr):S4:=(asg4 (pu (disp3 [("put",(fnP30 p 2 take3 (cons3 (v3 1) (cons3 (k3 (.int 3)) nil3)) [])),("turned",(k3 (.int 0))),("taken",(k3 (.int 1))),("stayed",(fnP30 p 2 take3 (cons3 (v3 1) (cons3 (k3 (.int 9)) nil3)) []))])) (name3 6))
def law_1b_2b_3 (C:Cs) (p:Addr):S4:=(asg4 (pu (sl3 slP (lst3 (cons3 (tup3 (cons3 (k3 (.str "r")) (cons3 (fnP30 p 2 take3 (cons3 (v3 1) (cons3 (k3 (.int 3)) nil3)) []) nil3))) nil3)) no3 (part3 (fnP30 p 2 take3 (cons3 (v3 1) (cons3 (k3 (.int 2)) nil3)) [])))) (name3 7))
def law_1b_2b_4 (C:Cs) (p:Addr):S4:=(asg4 (pu (call3 dict3 (cons3 (sl3 slP (lst3 (cons3 (tup3 (cons3 (k3 (.str "a")) (cons3 (lst3 (cons3 (tup3 (cons3 (k3 .non) (cons3 (tup3 (cons3 (fnP30 p 2 take3 (cons3 (v3 1) (cons3 (k3 (.int 3)) nil3)) []) nil3)) nil3))) nil3)) nil3))) nil3)) no3 (part3 (fnP30 p 2 take3 (cons3 (v3 1) (cons3 (k3 (.int 2)) nil3)) []))) nil3))) (name3 8))
def law_1b_2b_5 (C:Cs) (p:Addr):S4:=(drop4 (app4 (pu (v3 3)) (pu (lst3 (cons3 (v3 5) (cons3 (v3 6) (cons3 (v3 7) (cons3 (v3 8) nil3))))))))
def law_1b_2b (C:Cs) (p:Addr):S4:=(seq4 (law_1b_2b_1 C p) (seq4 (law_1b_2b_2 C p) (seq4 (law_1b_2b_3 C p) (seq4 (law_1b_2b_4 C p) (law_1b_2b_5 C p)))))
def law_1b_2 (C:Cs) (p:Addr):S4:=(for4 (iterR3 (cons3 (k3 (.int 2)) nil3)) (name3 4) (law_1b_2b C p))
def law_1b_3 (C:Cs) (p:Addr):S4:=(asg4 (pu (fnP30 p 2 take3 (cons3 (v3 1) (cons3 (k3 (.int 5)) nil3)) [])) (name3 9))
def law_1b_4 (C:Cs) (p:Addr):S4:=(drop4 (app4 (pu (v3 3)) (lc4 (iterR3 (cons3 (k3 (.int 4)) nil3)) (name3 4) yes3 (op4 ixP (ixC4 (pu (v3 3)) (pu (call3 int13 (cons3 (op3 eqP (v3 4) (v3 9)) nil3)))) (pu (v3 4))) [4])))
def law_1b_5 (C:Cs) (p:Addr):S4:=(frz4 3 (asg4 (pu (lc3 (iterP (v3 3)) (glst3 4 (gcons3 (name3 12) (gcons3 (name3 13) (gcons3 (name3 14) (gcons3 (name3 15) gnil3))))) yes3 (mkN30 5 (Answer_init C) (fun ds es=>sel [0,1,3,2] (ds++([]++es))) 0 4 nil3 (cons3 (v3 12) (cons3 (v3 13) (cons3 (v3 15) (cons3 (v3 14) nil3))))) [12,13,14,15])) (name3 10)))
def law_1b_6 (C:Cs) (p:Addr):S4:=(asg4 (pu (lst3 (cons3 (fld3 [C.at_ "Answer"] "net" (op3 ixP (v3 10) (k3 (.int 0)))) (cons3 (fld3 [C.at_ "Answer"] "counts" (op3 ixP (v3 10) (k3 (.int 0)))) (cons3 (fld3 [C.at_ "Answer"] "followed" (op3 ixP (v3 10) (k3 (.int 0)))) (cons3 (fld3 [C.at_ "Answer"] "changes" (op3 ixP (v3 10) (k3 (.int 0)))) nil3)))))) (name3 11))
def law_1b_7t_1 (C:Cs) (p:Addr):S4:=(ret4 (pu (k3 (.bl false))))
def law_1b_7 (C:Cs) (p:Addr):S4:=(ifs4 (vwKB4 ⟨true,false,[]⟩ 3 [11,3,10] (or3 (tst3 (op3 neB3 (v3 11) (op3 ixP (v3 3) (k3 (.int 0))))) (tst3 (op3 (eqO3 (C.at_ "Answer") (Answer_eq C)) (op3 ixP (v3 10) (k3 (.int 0))) (op3 ixP (v3 3) (k3 (.int 0))))))) (law_1b_7t_1 C p) next4)
def law_1b_8 (C:Cs) (p:Addr):S4:=(drop4 (app4 (pu (op3 ixP (op3 ixP (v3 3) (k3 (.int 0))) (k3 (.int 0)))) (pu (tup3 (cons3 (k3 (.str "z")) (cons3 (lst3 nil3) (cons3 (lst3 nil3) nil3)))))))
def law_1b_9t_1 (C:Cs) (p:Addr):S4:=(ret4 (pu (k3 (.bl false))))
def law_1b_9 (C:Cs) (p:Addr):S4:=(ifs4 (vwKB4 ⟨true,false,[]⟩ 3 [3,10] (tst3 (op3 neB3 (fld3 [C.at_ "Answer"] "net" (op3 ixP (v3 10) (k3 (.int 0)))) (op3 ixP (op3 ixP (v3 3) (k3 (.int 0))) (k3 (.int 0)))))) (law_1b_9t_1 C p) next4)
def law_1b_10 (C:Cs) (p:Addr):S4:=(drop4 (popL4 (pu (op3 ixP (op3 ixP (v3 3) (k3 (.int 0))) (k3 (.int 0))))))
def law_1b_11b_1t_1 (C:Cs) (p:Addr):S4:=(ret4 (pu (k3 (.bl false))))
def law_1b_11b_1 (C:Cs) (p:Addr):S4:=(ifs4 (vwKB4 ⟨true,false,[]⟩ 3 [3,10] (or3 (tst3 (op3 neP (op3 (eqO3 (C.at_ "Answer") (Answer_eq C)) (op3 ixP (v3 10) (k3 (.int 0))) (op3 ixP (v3 10) (v3 4))) (op3 eqB3 (op3 ixP (v3 3) (k3 (.int 0))) (op3 ixP (v3 3) (v3 4))))) (tst3 (op3 neP (op3 (neO3 (C.at_ "Answer") (Answer_eq C)) (op3 ixP (v3 10) (v3 4)) (op3 ixP (v3 10) (k3 (.int 0)))) (op3 neB3 (op3 ixP (v3 3) (k3 (.int 0))) (op3 ixP (v3 3) (v3 4))))))) (law_1b_11b_1t_1 C p) next4)
def law_1b_11b (C:Cs) (p:Addr):S4:=(law_1b_11b_1 C p)
def law_1b_11 (C:Cs) (p:Addr):S4:=(for4 (iterR3 (cons3 (k3 (.int 3)) nil3)) (name3 4) (law_1b_11b C p))
def law_1b (C:Cs) (p:Addr):S4:=(seq4 (law_1b_1 C p) (seq4 (law_1b_2 C p) (seq4 (law_1b_3 C p) (seq4 (law_1b_4 C p) (seq4 (law_1b_5 C p) (seq4 (law_1b_6 C p) (seq4 (law_1b_7 C p) (seq4 (law_1b_8 C p) (seq4 (law_1b_9 C p) (seq4 (law_1b_10 C p) (law_1b_11 C p)))))))))))
def law_1 (C:Cs) (p:Addr):S4:=(for4 (iterR3 (cons3 (k3 (.int 4)) nil3)) (name3 2) (law_1b C p))
def law_2 (C:Cs) (p:Addr):S4:=(ret4 (pu (k3 (.bl true))))
def lawB (C:Cs) (p:Addr):S4:=(seq4 (law_1 C p) (law_2 C p))
def Plain (C:Cs):Prop:=∀p:Addr,lawB C p {nx:=fun _ _=>False,rt:=fun d _=>d= .bl true} (Sl.no::Sl.val (.ref p)::List.replicate 14 Sl.no) (fun _=>none)
end Law
namespace Law
open PySem L2 M3
def top (i:Nat):Stmt:=PySem.Challenge.pw_onepour_k35_answers_alike.main.body.getD i (.Pass ⟨0,0,0,0⟩)
abbrev s_Answer_init:Stmt:=inClass (top 1) 0
abbrev N_Answer_init:List Str:=["self","net","counts","followed","changes"]
theorem sc_Answer_init:FnScope N_Answer_init ["self","net","counts","followed","changes"] (defScope s_Answer_init):=⟨rfl,rfl,rfl,by decide +kernel,rfl,by decide +kernel,by decide +kernel⟩
abbrev s_Answer_eq:Stmt:=inClass (top 1) 1
abbrev N_Answer_eq:List Str:=["self","other","mine"]
theorem sc_Answer_eq:FnScope N_Answer_eq ["self","other"] (defScope s_Answer_eq):=⟨rfl,rfl,rfl,by decide +kernel,rfl,by decide +kernel,by decide +kernel⟩
abbrev s_Lcell:Stmt:=top 5
abbrev N_Lcell:List Str:=["_law_pot_here","_law_kind","_law_top"]
theorem sc_Lcell:FnScope N_Lcell ["_law_pot_here"] (defScope s_Lcell):=⟨rfl,rfl,rfl,by decide +kernel,rfl,by decide +kernel,by decide +kernel⟩
abbrev s_law:Stmt:=top 6
abbrev N_law:List Str:=["_law_script","_law_pot_here","_law_turn","_law_parts","_law_k","_law_tale","_law_tally","_law_came","_law_moved","_law_at","_law_made","_law_found","_law_a","_law_b","_law_c","_law_d"]
theorem sc_law:FnScope N_law ["_law_script"] (defScope s_law):=⟨rfl,rfl,rfl,by decide +kernel,rfl,by decide +kernel,by decide +kernel⟩
section
variable {P:Program} {w:World} {K:PySem.W.Frag} {mg:Str→Option Value} {base:Heap}
abbrev s_Ltake:Stmt:=top 4
abbrev N_Ltake:List Str:=["_law_pot_here","_law_many","_law_cell_here"]
theorem sc_Ltake:FnScope N_Ltake ["_law_pot_here","_law_many"] (defScope s_Ltake):=⟨rfl,rfl,rfl,by decide +kernel,rfl,by decide +kernel,by decide +kernel⟩
theorem ok_Ltake {f:Addr} {fd:FuncData} (F:Fun K "_law_take" "_law_take" s_Ltake f fd) (zlen:mg "len"=none):FnOk P w K mg base CX0 1 f fd ["_law_pot_here","_law_many"] spTake:=by
 refine F.ok sc_Ltake (fun vs H Q E h=> ?_) (fun cdv A outer s H vs Q E hr h=> ?_)
 · obtain ⟨p,cc,m,rfl,_⟩:=h
   rfl
 · obtain ⟨p,cc,m,rfl,⟨cs,i,n,sd,hp,hc,i0,i1,hl,hz,s0,s1⟩,m0,m1,k⟩:=h
   have ne:p≠cc:=PotAt.ne ⟨cs,i,n,sd,hp,hc,i0,i1,hl,hz,s0,s1⟩
   refine ⟨_,pss_cons (ps_augS (pv 0) pe_int get_list pe_int ip_add set_list)
    (pss_cons (ps_set (i:=2) sc_Ltake.nd rfl (Or.inl rfl) (pe_ix ix_list (pe_ix ix_list (pv 0) pe_int (fun _ _=>rfl)) (pe_ix ix_list (pv 0) pe_int (fun _ _=>rfl)) (fun _ _=>rfl)))
    (pss_cons (ps_if (pt_cmpR op_ge (pv 2) (pe_op op_pow pe_int pe_int) (nomark _))
      (pss_cons (ps_asg (pe_op op_fdivW (pv 2) (pv 1)) (pg_sub (pe_ix ix_list (pv 0) pe_int (fun _ _=>rfl)) (pe_ix ix_list (pv 0) pe_int (fun _ _=>rfl)) set_list))
      (pss_one (ps_ret (pe_op op_mod (pv 2) (pv 1))))) pss_nil)
    (pss_cons (ps_asg (pe_op op_mod (pe_op op_add (pe_ix ix_list (pv 0) pe_int (fun _ _=>rfl)) pe_int) (pe_callB call_len_seq (by rfl) zlen (by decide +kernel) (pa_cons (pe_ix ix_list (pv 0) pe_int (fun _ _=>rfl)) pa_nil))) (pg_sub (pv 0) pe_int set_list))
    (pss_cons (ps_asg (pe_op op_mod (pe_op op_add (pe_op op_add (pe_op op_mul (pe_ix ix_list (pv 0) pe_int (fun _ _=>rfl)) pe_int) (pe_op op_mod (pv 2) pe_int)) (pe_ix ix_list (pv 0) pe_int (fun _ _=>rfl))) pe_int) (pg_sub (pv 0) pe_int set_list))
    (pss_one (ps_ret (pe_op op_mod (pe_op op_fdiv (pe_ix ix_list (pv 0) pe_int (fun _ _=>rfl)) pe_int) (pv 1)))))))), ?_⟩
   refine ⟨_,rfl,p,_,2,_,rfl,rfl,SqL.of hp,rfl,_,_,rfl,rfl,p,_,2,2,rfl,rfl,hp,rfl, ?_⟩
   have hp1:(upd H p (.lst [.ref cc,.int i,.int (n+1),.int sd])) p=some (.lst [.ref cc,.int i,.int (n+1),.int sd]):=upd_same
   have hc1:(upd H p (.lst [.ref cc,.int i,.int (n+1),.int sd])) cc=some (.lst (cs.map V.int)):=by rw [upd_ne ne.symm];exact hc
   obtain ⟨j,hj⟩:∃j:Nat,i=(j:Int):=⟨i.toNat,by omega⟩
   subst hj
   have hjl:j<cs.length:=by omega
   obtain ⟨z,ez⟩:∃z,cs[j]? =some z:=⟨cs[j],List.getElem?_eq_getElem hjl⟩
   have ez':(cs.map V.int)[j]? =some (V.int z):=by rw [List.getElem?_map,ez];rfl
   have z0:0≤z:=hz z (List.mem_of_getElem? ez)
   refine ⟨_,rfl,p,_,0,_,rfl,rfl,SqL.of hp1,rfl,_,rfl,p,_,1,_,rfl,rfl,SqL.of hp1,rfl,cc,_,_,_,rfl,rfl,SqL.of hc1,atI_nat ez', ?_⟩
   refine ⟨_,rfl,_,_,rfl,rfl,⟨by decide,by decide,by decide⟩,_,_,rfl,rfl,_,rfl, ?_⟩
   refine ite2 (fun _=> ?_) (fun _=> ?_)
   ·
    refine ⟨_,rfl,_,rfl,_,_,rfl,rfl,wide_div (b:=200) m0 (by omega) (by decide) (by decide), ?_⟩
    refine ⟨_,rfl,p,_,0,_,rfl,rfl,SqL.of hp1,rfl,_,rfl,p,_,1,_,rfl,rfl,SqL.of hp1,rfl,cc,_,_,j,rfl,rfl,hc1, ?_, ?_⟩
    · rw [List.length_map]
      unfold ixN
      rw [if_pos (by omega),if_pos (by omega)]
      simp
    refine ⟨_,rfl,_,rfl,_,_,rfl,rfl,m0, ?_⟩
    refine k _ _ (Int.emod_nonneg _ (by omega)) (Int.emod_lt_of_pos _ m0) ⟨cs.set j (z / m),(j:Int),n+1,sd, ?_, ?_,i0,by rw [List.length_set];exact i1,by rw [List.length_set];exact hl, ?_,s0,s1⟩ (fun a h1 h2=>by rw [upd_ne h2,upd_ne h1])
    · rw [upd_ne ne];exact hp1
    · rw [upd_same,List.map_set]
    · intro y hy
      rcases List.mem_or_eq_of_mem_set hy with hy | hy
      · exact hz y hy
      · rw [hy];exact Int.ediv_nonneg z0 (by omega)
   ·
    have hcl:(0:Int)<(cs.map V.int).length:=by rw [List.length_map];omega
    refine ⟨_,rfl,p,_,1,_,rfl,rfl,SqL.of hp1,rfl,_,_,rfl,rfl,_,rfl,p,_,0,_,rfl,rfl,SqL.of hp1,rfl,cc,_,rfl,.inl (SqL.of hc1),_,_,rfl,rfl,hcl, ?_⟩
    refine ⟨_,rfl,p,_,1,1,rfl,rfl,hp1,rfl, ?_⟩
    have hp2:(upd (upd H p (.lst [.ref cc,.int (j:Int),.int (n+1),.int sd])) p (.lst [.ref cc,.int (((j:Int)+1) % ((cs.map V.int).length:Int)),.int (n+1),.int sd])) p=some (.lst [.ref cc,.int (((j:Int)+1) % ((cs.map V.int).length:Int)),.int (n+1),.int sd]):=upd_same
    refine ⟨_,rfl,p,_,3,_,rfl,rfl,SqL.of hp2,rfl,_,_,rfl,rfl,.inr ⟨by decide,by decide⟩,_,rfl,_,_,rfl,rfl,(by show (0:Int)<2147483647;decide),_,_,rfl,rfl,_,rfl,p,_,2,_,rfl,rfl,SqL.of hp2,rfl,_,_,rfl,rfl,_,_,rfl,rfl,(by show (0:Int)<2147483647;decide), ?_⟩
    refine ⟨_,rfl,p,_,3,3,rfl,rfl,hp2,rfl, ?_⟩
    refine ⟨_,rfl,p,_,3,_,rfl,rfl,SqL.of upd_same,rfl,_,_,rfl,rfl,⟨by decide,by decide⟩,_,rfl,_,_,rfl,rfl,m0, ?_⟩
    refine k _ _ (Int.emod_nonneg _ (by omega)) (Int.emod_lt_of_pos _ m0) ⟨cs,_,n+1,_,upd_same, ?_, ?_, ?_,hl,hz, ?_, ?_⟩ (fun a h1 h2=>by rw [upd_ne h1,upd_ne h1,upd_ne h1])
    · rw [upd_ne ne.symm,upd_ne ne.symm];exact hc1
    · exact Int.emod_nonneg _ (by omega)
    · rw [List.length_map];exact Int.emod_lt_of_pos _ (by omega)
    · exact Int.emod_nonneg _ (by omega)
    · exact Int.emod_lt_of_pos _ (by omega)
def spPot (K:PySem.W.Frag):Sp:=fun vs H Q _=>∃(a:Addr) (ns:List Int),vs=[.ref a]∧SqL K H a (ns.map V.int)∧∀p cc H',H p=none→H cc=none→PotAt p cc H'→Same H H'→Q (.ref p) H'
abbrev s_Lpot:Stmt:=top 3
abbrev N_Lpot:List Str:=["_law_script","_law_cells","_law_cell_here"]
theorem sc_Lpot:FnScope N_Lpot ["_law_script"] (defScope s_Lpot):=⟨rfl,rfl,rfl,by decide +kernel,rfl,by decide +kernel,by decide +kernel⟩
theorem ok_Lpot {f:Addr} {fd:FuncData} (F:Fun K "_law_pot" "_law_pot" s_Lpot f fd) (zabs:mg "abs"=none):FnOk P w K mg base CX0 1 f fd ["_law_script"] (spPot K):=by
 refine F.ok sc_Lpot (fun vs H Q E h=> ?_) (fun cdv A outer s H vs Q E hr h=> ?_)
 · obtain ⟨a,ns,rfl,_⟩:=h
   rfl
 · obtain ⟨a,ns,rfl,hS,k⟩:=h
   refine ⟨_,pss_cons (ps_setLc (i:=1) (own:=[("_law_cell_here",2)]) (by rfl) sc_Lpot.nd rfl rfl (sw_true rfl rfl rfl (by decide +kernel)) (pi_list (pe_slice sl_list (pv 0) po_none (po_some pe_int))) (blkOk_by (own:=[("_law_cell_here",2)]) (N:=N_Lpot) (sc:=defScope s_Lpot) (by decide +kernel)) (fun _ _ _ _ _=>(pg_name (i:=2) sc_Lpot.nd rfl (Or.inl rfl))) (fun _ _ _ _ _=>pts_nil) (fun _ _ _ _ _=>(pe_callB call_abs (by rfl) zabs (by decide +kernel) (pa_cons (pv 2) pa_nil))))
    (pss_cons (ps_if (pt_not (pt_truth (pv 1) (by intro _;rfl))) (pss_one (ps_set (i:=1) sc_Lpot.nd rfl (Or.inl rfl) (pe_lst (pa_cons pe_int pa_nil)))) pss_nil)
    (pss_one (ps_ret (pe_lst (pa_cons (pv 1) (pa_cons pe_int (pa_cons pe_int (pa_cons pe_int pa_nil)))))))), ?_⟩
   obtain ⟨ms,ems,lms⟩:∃ms:List Int,cutV (ns.map V.int) none (some 63)=ms.map V.int∧ms.length≤63:=by
    refine ⟨(ns.drop (HT.sIx (ns.map V.int).length 0 none)).take (HT.sIx (ns.map V.int).length (ns.map V.int).length (some 63)-HT.sIx (ns.map V.int).length 0 none), ?_, ?_⟩
    · unfold cutV
      rw [List.map_take,List.map_drop]
    · rw [List.length_take]
      have h1:=HT.sIx_nat (ns.map V.int).length (ns.map V.int).length 63
      have h2:HT.sIx (ns.map V.int).length (ns.map V.int).length (some 63)=min 63 (ns.map V.int).length:=h1
      omega
   refine ⟨_,rfl,63,rfl,a,_,rfl,hS,fun q hq=> ?_⟩
   rw [ems]
   refine ⟨q,rfl,⟨_,SqL.of upd_same⟩,fun D hD=> ?_⟩
   have nqD:q≠D:=ne_of_none upd_same hD
   have s1:Same H (upd H q (.lst (ms.map V.int))):=fun b o e=>by rw [upd_ne (ne_of_none e hq)];exact e
   have hD0:H D=none:=s1.free hD
   refine lc_list (K:=K) (a:=q) (xs:=ms.map V.int) (fun i H2=>Same H H2∧H2 q=some (.lst (ms.map V.int))∧∃as:List Int,H2 D=some (.lst (as.map V.int))∧as.length=i∧∀z∈as,0≤z) ?_ ?_ ?_ ?_
   · refine ⟨fun b o e=>by rw [upd_ne (ne_of_none e hD0)];exact s1 b o e,by rw [upd_ne nqD];exact upd_same,[],upd_same,rfl,fun z hz=>by cases hz⟩
   · rintro i H2 _ ⟨_,h2,_⟩
     exact SqL.of h2
   · rintro i x H2 hx ⟨s2,h2,as,hd,hl,hz⟩
     have hil:i<(ms.map V.int).length:=(List.getElem?_eq_some_iff.mp hx).1
     rw [List.length_map] at hil
     obtain ⟨z,rfl⟩:∃z,x=V.int z:=by
      rw [List.getElem?_map] at hx
      cases e:ms[i]? with
      | none=>rw [e] at hx;cases hx
      | some z=>rw [e] at hx;exact ⟨z,(Option.some.inj hx).symm⟩
     refine ⟨rfl, ?_⟩
     unfold tYes
     refine iteT ?_
     refine ⟨_,rfl,z,rfl,as.map V.int,hd, ?_, ?_⟩
     · rw [List.length_map]
       exact small1000 (by omega)
     · refine ⟨fun b o e=>by rw [upd_ne (ne_of_none e hD0)];exact s2 b o e,by rw [upd_ne nqD];exact h2,as++[if z<0 then -z else z],by rw [upd_same,List.map_append];rfl,by rw [List.length_append,hl];rfl,fun y hy=> ?_⟩
       rcases List.mem_append.mp hy with hy | hy
       · exact hz y hy
       · rw [List.mem_singleton.mp hy]
         split<;>omega
   · rintro H2 ⟨s2,h2,as,hd,hl,hz⟩
     rw [List.length_map] at hl
     have fin:∀(cc:Addr) (cs:List Int) (H3:Hp),H cc=none→H3 cc=some (.lst (cs.map V.int))→Same H H3→0<cs.length→cs.length≤1000→(∀z∈cs,0≤z)→
      tRet (tLst (tCons (tVar 1) (tCons (tC (V.int 0)) (tCons (tC (V.int 0)) (tCons (tC (V.int 7)) tNil))))) {nx:=fun _ H'=>Q .non H',rt:=Q} [some (.ref a),some (.ref cc),none] H3:=by
      intro cc cs H3 hcc h3 s3 l0 l1 z0
      refine ⟨_,rfl,(by show 4≤sizeLine;decide),fun p hp=> ?_⟩
      have npc:cc≠p:=ne_of_none h3 hp
      refine k p cc _ (s3.free hp) hcc ⟨cs,0,0,7,upd_same,by rw [upd_ne npc];exact h3,by decide,by omega,l1,z0,by decide,by decide⟩ (fun b o e=>by rw [upd_ne (ne_of_none (s3 b o e) hp)];exact s3 b o e)
     refine ⟨_,rfl,_,.inl ⟨_,SqL.of hd,rfl⟩, ?_⟩
     cases as with
     | nil=>
       refine iteT ?_
       refine ⟨(by show 1≤sizeLine;decide),fun c2 hc2=> ?_⟩
       exact fin c2 [0] _ (s2.free hc2) upd_same (fun b o e=>by rw [upd_ne (ne_of_none (s2 b o e) hc2)];exact s2 b o e) (by decide) (by decide) (by intro z h;rw [List.mem_singleton.mp h];decide)
     | cons z as=>
       refine iteF ?_
       exact fin D (z::as) H2 hD0 hd s2 (by simp) (by omega) hz
end
structure Top (w:World) (K:PySem.W.Frag) (mg:Str→Option Value):Prop where
 d_Answer_init:MethAt K ((csOf w K mg).at_ "Answer") "__init__" "__init__" "Answer.__init__" s_Answer_init [] [] []
 d_Answer_eq:MethAt K ((csOf w K mg).at_ "Answer") "__eq__" "__eq__" "Answer.__eq__" s_Answer_eq [] [] []
 d_Lpot:DefAt K mg "_law_pot" "_law_pot" s_Lpot [] [] []
 d_Ltake:DefAt K mg "_law_take" "_law_take" s_Ltake [] [] []
 d_Lcell:DefAt K mg "_law_cell" "_law_cell" s_Lcell [] [] []
 o_Answer:ClsAt w K mg "Answer"
 fn_Answer:∀f,PySem.W.findIn K (.ref ((csOf w K mg).at_ "Answer")) "__init__"=some (some (.ref f))→PySem.W.isFn K (.ref f)=true
 ki_Answer:KitO K ((csOf w K mg).at_ "Answer")
 no_Answer:NeO K ((csOf w K mg).at_ "Answer")
 nf_Answer:NfO K ((csOf w K mg).at_ "Answer")
 n_Answer_changes:NoAttr K ((csOf w K mg).at_ "Answer") "changes"
 n_Answer_counts:NoAttr K ((csOf w K mg).at_ "Answer") "counts"
 n_Answer_followed:NoAttr K ((csOf w K mg).at_ "Answer") "followed"
 n_Answer_net:NoAttr K ((csOf w K mg).at_ "Answer") "net"
 fm_Answer_eq:∀f,PySem.W.findIn K (.ref ((csOf w K mg).at_ "Answer")) "__eq__"=some (some (.ref f))→PySem.W.isFn K (.ref f)=true
 zb_abs:mg "abs"=none
 zb_dict:mg "dict"=none
 zb_int:mg "int"=none
 zb_isinstance:mg "isinstance"=none
 zb_len:mg "len"=none
 zb_range:mg "range"=none
structure TopU (K:PySem.W.Frag) (mg:Str→Option Value) (base:Heap) (Ts:List (Addr×Str)):Prop where
 tt:True
section
variable {P:Program} {w:World} {K:PySem.W.Frag} {mg:Str→Option Value}
theorem cl_take (T:Top w K mg) (base:Heap):Cl P w K mg base CX0 "_law_take" 1 [] (spP K 2 take3):=by
 obtain ⟨f,fd,F,hm,_⟩:=(OkF.fun_ (P:=P) (w:=w) (base:=base) (CX:=CX0) (lv:=0) (ps:=[]) (sp:=fun _ _ _ _=>False) (by obtain ⟨f,fd,dvs,kvs,rd,rk,F,hm⟩:=T.d_Ltake.ex;exact ⟨f,fd,dvs,kvs,rd,rk,F,hm,fnOk_no fun _ _ _ _ z=>z⟩))
 exact ⟨f,fd,_,[],(ok_Ltake F T.zb_len).imp take_imp,hm,F.kp,F.binds (ps:=["_law_pot_here","_law_many"]) fun _ _ _ _ _ _ us hl=>match us,hl with | [_,_],_=>rfl,.nil⟩
theorem cl_pot (T:Top w K mg) (base:Heap):Cl P w K mg base CX0 "_law_pot" 1 [] (spPot K):=by
 obtain ⟨f,fd,F,hm,_⟩:=(OkF.fun_ (P:=P) (w:=w) (base:=base) (CX:=CX0) (lv:=0) (ps:=[]) (sp:=fun _ _ _ _=>False) (by obtain ⟨f,fd,dvs,kvs,rd,rk,F,hm⟩:=T.d_Lpot.ex;exact ⟨f,fd,dvs,kvs,rd,rk,F,hm,fnOk_no fun _ _ _ _ z=>z⟩))
 exact ⟨f,fd,_,[],ok_Lpot F T.zb_abs,hm,F.kp,F.binds (ps:=["_law_script"]) fun _ _ _ _ _ _ us hl=>match us,hl with | [_],_=>rfl,.nil⟩
theorem ok_Answer_init (T:Top w K mg) (base:Heap):OkM P w K mg base (L2.CX P w) ((csOf w K mg).at_ "Answer") "__init__" "__init__" "Answer.__init__" s_Answer_init [] [] [] 1 ["self","net","counts","followed","changes"] (spI K 5 ((csOf w K mg).at_ "Answer") (Answer_init (csOf w K mg))):=by
 obtain ⟨f,fd,dvs,kvs,rd,rk,F,hm⟩:=T.d_Answer_init.ex
 refine ⟨f,fd,dvs,kvs,rd,rk,F,hm,F.ok sc_Answer_init (spI_len rfl) (fun cdv A outer s H vs Q E hr h=> ?_)⟩
 refine ⟨_,(pss_cons (ps_fldK (K:=K) rfl (pv 0) (pv 1) (by rfl))
  (pss_cons (ps_fldK (K:=K) rfl (pv 0) (pv 2) (by rfl))
  (pss_cons (ps_fldK (K:=K) rfl (pv 0) (pv 3) (by rfl))
  (pss_one (ps_fldK (K:=K) rfl (pv 0) (pv 4) (by rfl)))))), ?_⟩
 exact bodyI (x3:=Answer_initB (csOf w K mg)) (W:=fun cls dd _ H=>E cls dd H) h (by decide) (fun _ _ _ _ z=>z) (lift_seq (lift_setO (cl:=[(csOf w K mg).at_ "Answer"]) (fun D hD=>by cases List.mem_singleton.mp hD;exact ⟨T.o_Answer.cl,T.n_Answer_net⟩) (lift_v 1))
  (lift_seq (lift_setO (cl:=[(csOf w K mg).at_ "Answer"]) (fun D hD=>by cases List.mem_singleton.mp hD;exact ⟨T.o_Answer.cl,T.n_Answer_counts⟩) (lift_v 2))
  (lift_seq (lift_setO (cl:=[(csOf w K mg).at_ "Answer"]) (fun D hD=>by cases List.mem_singleton.mp hD;exact ⟨T.o_Answer.cl,T.n_Answer_followed⟩) (lift_v 3))
  (lift_setO (cl:=[(csOf w K mg).at_ "Answer"]) (fun D hD=>by cases List.mem_singleton.mp hD;exact ⟨T.o_Answer.cl,T.n_Answer_changes⟩) (lift_v 4))))) (fun x ds Q3 X _ hf=>by rw [Answer_init_def] at hf;exact hf x)
theorem ok_Answer_eq (T:Top w K mg) (base:Heap):OkM P w K mg base (L2.CX P w) ((csOf w K mg).at_ "Answer") "__eq__" "__eq__" "Answer.__eq__" s_Answer_eq [] [] [] 1 ["self","other"] (sp3 K 2 (Answer_eq (csOf w K mg))):=by
 obtain ⟨f,fd,dvs,kvs,rd,rk,F,hm⟩:=T.d_Answer_eq.ex
 refine ⟨f,fd,dvs,kvs,rd,rk,F,hm,F.ok sc_Answer_eq (sp3_len rfl) (fun cdv A outer s H vs Q E hr h=> ?_)⟩
 refine ⟨_,(pss_cons (ps_if (pt_not (pt_val (pe_callB (call_isiK' (K:=K) rfl) (by rfl) T.zb_isinstance (by decide +kernel) (pa_cons (pv 1) (pa_cons (pe_glob (v:=.ref _) (by rfl) T.o_Answer.g rfl) pa_nil))))) (pss_one (ps_ret pe_bl)) pss_nil)
  (pss_cons (ps_set (i:=2) sc_Answer_eq.nd rfl (Or.inl rfl) (M3.pe_tup (pa_cons (pe_fldK (K:=K) rfl (pv 0) (by rfl)) (pa_cons (pe_fldK (K:=K) rfl (pv 0) (by rfl)) (pa_cons (pe_fldK (K:=K) rfl (pv 0) (by rfl)) (pa_cons (pe_fldK (K:=K) rfl (pv 0) (by rfl)) pa_nil))))))
  (pss_one (ps_ret (pe_cmpR (op_eqB (K:=K) rfl (M3.Room.units200 hr)) (pv 2) (M3.pe_tup (pa_cons (pe_fldK (K:=K) rfl (pv 1) (by rfl)) (pa_cons (pe_fldK (K:=K) rfl (pv 1) (by rfl)) (pa_cons (pe_fldK (K:=K) rfl (pv 1) (by rfl)) (pa_cons (pe_fldK (K:=K) rfl (pv 1) (by rfl)) pa_nil))))) (nomark _)))))), ?_⟩
 exact body3 (x:=Answer_eqB (csOf w K mg)) (W:=fun cls dd _ H=>E cls dd H) h (fun _ _ _ _ z=>z) (lift_seq (lift_ifs (lift_not (lift_tB (lift_isiO T.ki_Answer (lift_v 1)))) (lift_ret (lift_bl _)) lift_next)
  (lift_seq (lift_asg (lift_tup (lift_cons (lift_fld (cl:=[(csOf w K mg).at_ "Answer"]) (fun D hD=>by simp only [List.mem_cons,List.not_mem_nil,or_false] at hD;rcases hD with rfl<;>first | exact ⟨T.o_Answer.cl,T.n_Answer_net⟩) (lift_v 0)) (lift_cons (lift_fld (cl:=[(csOf w K mg).at_ "Answer"]) (fun D hD=>by simp only [List.mem_cons,List.not_mem_nil,or_false] at hD;rcases hD with rfl<;>first | exact ⟨T.o_Answer.cl,T.n_Answer_counts⟩) (lift_v 0)) (lift_cons (lift_fld (cl:=[(csOf w K mg).at_ "Answer"]) (fun D hD=>by simp only [List.mem_cons,List.not_mem_nil,or_false] at hD;rcases hD with rfl<;>first | exact ⟨T.o_Answer.cl,T.n_Answer_followed⟩) (lift_v 0)) (lift_cons (lift_fld (cl:=[(csOf w K mg).at_ "Answer"]) (fun D hD=>by simp only [List.mem_cons,List.not_mem_nil,or_false] at hD;rcases hD with rfl<;>first | exact ⟨T.o_Answer.cl,T.n_Answer_changes⟩) (lift_v 0)) lift_nil))))) (lift_name (vs:=[2]) 2 (by decide)))
  (lift_ret (lift_op rl_eqB (lift_v 2) (lift_tup (lift_cons (lift_fld (cl:=[(csOf w K mg).at_ "Answer"]) (fun D hD=>by simp only [List.mem_cons,List.not_mem_nil,or_false] at hD;rcases hD with rfl<;>first | exact ⟨T.o_Answer.cl,T.n_Answer_net⟩) (lift_v 1)) (lift_cons (lift_fld (cl:=[(csOf w K mg).at_ "Answer"]) (fun D hD=>by simp only [List.mem_cons,List.not_mem_nil,or_false] at hD;rcases hD with rfl<;>first | exact ⟨T.o_Answer.cl,T.n_Answer_counts⟩) (lift_v 1)) (lift_cons (lift_fld (cl:=[(csOf w K mg).at_ "Answer"]) (fun D hD=>by simp only [List.mem_cons,List.not_mem_nil,or_false] at hD;rcases hD with rfl<;>first | exact ⟨T.o_Answer.cl,T.n_Answer_followed⟩) (lift_v 1)) (lift_cons (lift_fld (cl:=[(csOf w K mg).at_ "Answer"]) (fun D hD=>by simp only [List.mem_cons,List.not_mem_nil,or_false] at hD;rcases hD with rfl<;>first | exact ⟨T.o_Answer.cl,T.n_Answer_changes⟩) (lift_v 1)) lift_nil))))))))) (fun ds Q3 X _ hf=>by rw [Answer_eq_def] at hf;exact hf)
theorem ok_Lcell (T:Top w K mg) (base:Heap):OkF P w K mg base (L2.CX P w) "_law_cell" "_law_cell" s_Lcell [] [] [] 2 ["_law_pot_here"] (spP K 1 (Lcell (csOf w K mg))):=by
 have c_Ltake_2:=cl_take T base (P:=P) (w:=w)
 have h_Ltake_2:∀H,RepL K H [] []:=fun _=>.nil
 obtain ⟨f,fd,dvs,kvs,rd,rk,F,hm⟩:=T.d_Lcell.ex
 refine ⟨f,fd,dvs,kvs,rd,rk,F,hm,F.ok sc_Lcell (spP_len rfl) (fun cdv A outer s H vs Q E hr h=> ?_)⟩
 refine ⟨_,(pss_cons (ps_set (i:=1) sc_Lcell.nd rfl (Or.inl rfl) (pe_cl c_Ltake_2 (hr.mono (by omega)) (by rfl) pass0 (pa_cons (pv 0) (pa_cons pe_int pa_nil))))
  (pss_cons (ps_if (pt_cmpR (op_ltP (K:=K) rfl hr.units) (pv 1) pe_int (nomark _)) (pss_one (ps_ret pe_non)) pss_nil)
  (pss_cons (ps_if (pt_cmpR (op_ltP (K:=K) rfl hr.units) (pv 1) pe_int (nomark _)) (pss_one (ps_ret (pe_ifExp (pt_cmpR (op_ltP (K:=K) rfl hr.units) (pv 1) pe_int (nomark _)) (pe_op op_sub (pe_cl c_Ltake_2 (hr.mono (by omega)) (by rfl) pass0 (pa_cons (pv 0) (pa_cons pe_int pa_nil))) pe_int) (pe_op op_sub (pe_cl c_Ltake_2 (hr.mono (by omega)) (by rfl) pass0 (pa_cons (pv 0) (pa_cons pe_int pa_nil))) pe_int)))) pss_nil)
  (pss_cons (ps_set (i:=2) sc_Lcell.nd rfl (Or.inl rfl) (pe_op op_sub (pe_op op_pow pe_int pe_int) pe_int))
  (pss_one (ps_ret (pe_ix (ix_P (K:=K) rfl) (pe_lst (pa_cons (pv 2) (pa_cons (pe_un un_neg (pv 2)) (pa_cons (pe_op (op_addP (K:=K) rfl) (pe_op op_pow pe_int pe_int) (pe_cl c_Ltake_2 (hr.mono (by omega)) (by rfl) pass0 (pa_cons (pv 0) (pa_cons (pe_op op_pow pe_int pe_int) pa_nil)))) (pa_cons (pe_cl c_Ltake_2 (hr.mono (by omega)) (by rfl) pass0 (pa_cons (pv 0) (pa_cons (pe_op (op_addP (K:=K) rfl) (pv 2) pe_int) pa_nil))) pa_nil))))) (pe_cl c_Ltake_2 (hr.mono (by omega)) (by rfl) pass0 (pa_cons (pv 0) (pa_cons pe_int pa_nil))) (fun _ _=>rfl)))))))), ?_⟩
 exact bodyP (x:=fun p=>LcellB (csOf w K mg) p) (W:=fun cls dd _ H=>E cls dd H) h (fun _ _ _ _ z=>z) (fun p cc=>(lift_seq (lift_asg (lift_callP0 (lift_cons (lift_v 0) (lift_cons (lift_int _) lift_nil)) h_Ltake_2) (lift_name (vs:=[1]) 1 (by decide)))
  (lift_seq (lift_ifs (lift_tst (lift_op rl_ltP (lift_v 1) (lift_int _))) (lift_ret lift_non) lift_next)
  (lift_seq (lift_ifs (lift_tst (lift_op rl_ltP (lift_v 1) (lift_int _))) (lift_ret (lift_if (lift_tst (lift_op rl_ltP (lift_v 1) (lift_int _))) (lift_op rl_sub (lift_callP0 (lift_cons (lift_v 0) (lift_cons (lift_int _) lift_nil)) h_Ltake_2) (lift_int _)) (lift_op rl_sub (lift_callP0 (lift_cons (lift_v 0) (lift_cons (lift_int _) lift_nil)) h_Ltake_2) (lift_int _)))) lift_next)
  (lift_seq (lift_asg (lift_op rl_sub (lift_op rl_pow (lift_int _) (lift_int _)) (lift_int _)) (lift_name (vs:=[2]) 2 (by decide)))
  (lift_ret (lift_op rl_ixP (lift_lst (lift_cons (lift_v 2) (lift_cons (lift_un rl_neg (lift_v 2)) (lift_cons (lift_op rl_addP (lift_op rl_pow (lift_int _) (lift_int _)) (lift_callP0 (lift_cons (lift_v 0) (lift_cons (lift_op rl_pow (lift_int _) (lift_int _)) lift_nil)) h_Ltake_2)) (lift_cons (lift_callP0 (lift_cons (lift_v 0) (lift_cons (lift_op rl_addP (lift_v 2) (lift_int _)) lift_nil)) h_Ltake_2) lift_nil))))) (lift_callP0 (lift_cons (lift_v 0) (lift_cons (lift_int _) lift_nil)) h_Ltake_2)))))))) (fun p ds Q3 X _ hf=>by rw [Lcell_def] at hf;exact hf)
set_option maxHeartbeats 8000000 in
theorem ok_law (T:Top w K mg) (base:Heap) (hp:Plain (csOf w K mg)) {Ts0:List (Addr×Str)} (TU:TopU K mg base Ts0) {f:Addr} {fd:FuncData} (F:Fun K "law" "law" s_law f fd):FnOk P w K mg base CX0 3 f fd ["_law_script"] (spLawU K Ts0):=by
 obtain ⟨v_Answer_eq_2,h_Answer_eq_2,c_Answer_eq_2⟩:=((ok_Answer_eq T base (P:=P) (w:=w)).clM T.fm_Answer_eq (fun _ _ _ _ _ _ us hl=>match us,hl with | [_,_],_=>rfl)).ex
 obtain ⟨v_Answer_init_0_net_counts_changes_followed,h_Answer_init_0_net_counts_changes_followed,c_Answer_init_0_net_counts_changes_followed⟩:=((ok_Answer_init T base (P:=P) (w:=w)).mkKw T.o_Answer T.fn_Answer 0 ["net","counts","changes","followed"] [0,1,2,4,3] (fun _ _ _ _ _ _ us ws h1 h2=>match us,ws,h1,h2 with | [_],[_,_,_,_],_,_=>rfl)).ex
 obtain ⟨v_Lcell_1,h_Lcell_1,c_Lcell_1⟩:=((ok_Lcell T base (P:=P) (w:=w)).cl (fun _ _ _ _ _ _ us hl=>match us,hl with | [_],_=>rfl)).ex
 have c_Ltake_2:=cl_take T base (P:=P) (w:=w)
 have h_Ltake_2:∀H,RepL K H [] []:=fun _=>.nil
 refine F.ok sc_law (fun vs H Q E h=> ?_) (fun cdv A outer s H vs Q E hr h=> ?_)
 · obtain ⟨a,ns,rfl,_⟩:=h
   rfl
 obtain ⟨a,ns,rfl,hS,hPL,hQ⟩:=h
 refine ⟨_,pss_cons (ps_set (i:=1) sc_law.nd rfl (Or.inl rfl) (pe_cl (cl_pot T base) (hr.mono (by omega)) (by rfl) pass0 (pa_cons (pv 0) pa_nil))) (pss_cons (ps_for PassesOwn.never (by rfl) (pi_range1 (by rfl) T.zb_range (pa_cons pe_int pa_nil)) (pg_name (i:=2) sc_law.nd rfl (Or.inl rfl))
  (pss_cons (ps_set (i:=3) sc_law.nd rfl (Or.inr rfl) (pe_lst pa_nil))
  (pss_cons (ps_for PassesOwn.never (by rfl) (pi_range1 (by rfl) T.zb_range (pa_cons pe_int pa_nil)) (pg_name (i:=4) sc_law.nd rfl (Or.inl rfl))
  (pss_cons (ps_set (i:=5) sc_law.nd rfl (Or.inl rfl) (pe_slice (sl_P (K:=K) rfl) (pe_lst (pa_cons (M3.pe_tup (pa_cons pe_str (pa_cons (pe_lst (pa_cons (M3.pe_tup (pa_cons (pe_cl c_Lcell_1 (hr.mono (by omega)) (by rfl) passL (pa_cons (pv 1) pa_nil)) pa_nil)) pa_nil)) (pa_cons (pe_lst pa_nil) pa_nil)))) pa_nil)) po_none (po_some (pe_cl c_Ltake_2 (hr.mono (by omega)) (by rfl) pass0 (pa_cons (pv 1) (pa_cons pe_int pa_nil))))))
  (pss_cons (ps_set (i:=6) sc_law.nd rfl (Or.inl rfl) (pe_fzD (pe_disp (pps_cons pe_str (pe_cl c_Ltake_2 (hr.mono (by omega)) (by rfl) pass0 (pa_cons (pv 1) (pa_cons pe_int pa_nil))) (pps_cons pe_str pe_int (pps_cons pe_str pe_int (pps_cons pe_str (pe_cl c_Ltake_2 (hr.mono (by omega)) (by rfl) pass0 (pa_cons (pv 1) (pa_cons pe_int pa_nil))) pps_nil)))) (by rfl) (by rfl) (by simp) (by decide))))
  (pss_cons (ps_set (i:=7) sc_law.nd rfl (Or.inl rfl) (pe_slice (sl_P (K:=K) rfl) (pe_lst (pa_cons (M3.pe_tup (pa_cons pe_str (pa_cons (pe_cl c_Ltake_2 (hr.mono (by omega)) (by rfl) pass0 (pa_cons (pv 1) (pa_cons pe_int pa_nil))) pa_nil))) pa_nil)) po_none (po_some (pe_cl c_Ltake_2 (hr.mono (by omega)) (by rfl) pass0 (pa_cons (pv 1) (pa_cons pe_int pa_nil))))))
  (pss_cons (ps_set (i:=8) sc_law.nd rfl (Or.inl rfl) (pe_callTy (call_dictL (K:=K) rfl rfl) (by rfl) T.zb_dict (by decide +kernel) (pa_cons (pe_slice (sl_P (K:=K) rfl) (pe_lst (pa_cons (M3.pe_tup (pa_cons pe_str (pa_cons (pe_lst (pa_cons (M3.pe_tup (pa_cons pe_non (pa_cons (M3.pe_tup (pa_cons (pe_cl c_Ltake_2 (hr.mono (by omega)) (by rfl) pass0 (pa_cons (pv 1) (pa_cons pe_int pa_nil))) pa_nil)) pa_nil))) pa_nil)) pa_nil))) pa_nil)) po_none (po_some (pe_cl c_Ltake_2 (hr.mono (by omega)) (by rfl) pass0 (pa_cons (pv 1) (pa_cons pe_int pa_nil))))) pa_nil)))
  (pss_one (ps_expr (pe_bm PySem.F.plainAttrs_list PySem.F.slot_list_append PySem.F.type_list_append mt_append (pv 3) (pa_cons (pe_lst (pa_cons (pv 5) (pa_cons (pv 6) (pa_cons (pv 7) (pa_cons (pv 8) pa_nil))))) pa_nil)))))))))
  (pss_cons (ps_set (i:=9) sc_law.nd rfl (Or.inr rfl) (pe_cl c_Ltake_2 (hr.mono (by omega)) (by rfl) pass0 (pa_cons (pv 1) (pa_cons pe_int pa_nil))))
  (pss_cons (ps_expr (pe_bm PySem.F.plainAttrs_list PySem.F.slot_list_append PySem.F.type_list_append mt_append (pv 3) (pa_cons (pe_lc (own:=[("_law_k",4)]) (g:=(gName 4)) (by rfl) sc_law.nd (pi_range1 (by rfl) T.zb_range (pa_cons pe_int pa_nil)) (blkOk_by (own:=[("_law_k",4)]) (N:=N_law) (sc:=defScope s_law) (by decide +kernel)) (fun _ _ _ _ _=>(pg_name (i:=4) sc_law.nd rfl (Or.inl rfl) (Or.inr rfl))) (fun _ _ _ _ _=>pts_nil) (fun _ _ _ _ _=>(pe_ix (ix_P (K:=K) rfl) (pe_ix (ix_P (K:=K) rfl) (pv 3) (pe_callTy call_int1 (by rfl) T.zb_int (by decide +kernel) (pa_cons (pe_cmpR (op_eqP (K:=K) rfl hr.units) (pv 4) (pv 9) (nomark _)) pa_nil)) (fun _ _=>rfl)) (pv 4) (fun _ _=>rfl)))) pa_nil)))
  (pss_cons (ps_setLc (i:=10) (own:=[("_law_a",12),("_law_b",13),("_law_c",14),("_law_d",15)]) (g:=(gLst K 4 (gCons (gName 12) (gCons (gName 13) (gCons (gName 14) (gCons (gName 15) gNil)))))) (by rfl) sc_law.nd rfl rfl (sw_true rfl rfl rfl (by decide +kernel)) (pi_P (K:=K) rfl (pv 3)) (blkOk_by (own:=[("_law_a",12),("_law_b",13),("_law_c",14),("_law_d",15)]) (N:=N_law) (sc:=defScope s_law) (by decide +kernel)) (fun _ _ _ _ _=>(pg_lstK (K:=K) rfl rfl (pgs_cons (pg_name (i:=12) sc_law.nd rfl (Or.inl rfl) (Or.inr rfl)) (pgs_cons (pg_name (i:=13) sc_law.nd rfl (Or.inl rfl) (Or.inr rfl)) (pgs_cons (pg_name (i:=14) sc_law.nd rfl (Or.inl rfl) (Or.inr rfl)) (pgs_cons (pg_name (i:=15) sc_law.nd rfl (Or.inl rfl) (Or.inr rfl)) pgs_nil)))))) (fun _ _ _ _ _=>pts_nil) (fun _ _ _ _ _=>(pe_mkKw c_Answer_init_0_net_counts_changes_followed (hr.mono (by omega)) (by rfl) passL (pk_cons (pv 12) (pk_cons (pv 13) (pk_cons (pv 15) (pk_cons (pv 14) pk_nil)))))))
  (pss_cons (ps_set (i:=11) sc_law.nd rfl (Or.inl rfl) (pe_lst (pa_cons (pe_fldK (K:=K) rfl (pe_ix (ix_P (K:=K) rfl) (pv 10) pe_int (fun _ _=>rfl)) (by rfl)) (pa_cons (pe_fldK (K:=K) rfl (pe_ix (ix_P (K:=K) rfl) (pv 10) pe_int (fun _ _=>rfl)) (by rfl)) (pa_cons (pe_fldK (K:=K) rfl (pe_ix (ix_P (K:=K) rfl) (pv 10) pe_int (fun _ _=>rfl)) (by rfl)) (pa_cons (pe_fldK (K:=K) rfl (pe_ix (ix_P (K:=K) rfl) (pv 10) pe_int (fun _ _=>rfl)) (by rfl)) pa_nil))))))
  (pss_cons (ps_if (pt_around (PW.pt (pw_or (pt_cmpR (op_neB (K:=K) rfl (M3.Room.units200 hr)) (pv 11) (pe_ix (ix_P (K:=K) rfl) (pv 3) pe_int (fun _ _=>rfl)) (nomark _)) (pw_or1 (pt_cmpR (op_eqOwnK rfl c_Answer_eq_2 h_Answer_eq_2 (hr.mono (by omega)) passL) (pe_ix (ix_P (K:=K) rfl) (pv 10) pe_int (fun _ _=>rfl)) (pe_ix (ix_P (K:=K) rfl) (pv 3) pe_int (fun _ _=>rfl)) (nomark _)))))) (pss_one (ps_ret pe_bl)) pss_nil)
  (pss_cons (ps_expr (pe_bm PySem.F.plainAttrs_list PySem.F.slot_list_append PySem.F.type_list_append mt_append (pe_ix (ix_P (K:=K) rfl) (pe_ix (ix_P (K:=K) rfl) (pv 3) pe_int (fun _ _=>rfl)) pe_int (fun _ _=>rfl)) (pa_cons (M3.pe_tup (pa_cons pe_str (pa_cons (pe_lst pa_nil) (pa_cons (pe_lst pa_nil) pa_nil)))) pa_nil)))
  (pss_cons (ps_if (pt_around (pt_cmpR (op_neB (K:=K) rfl (M3.Room.units200 hr)) (pe_fldK (K:=K) rfl (pe_ix (ix_P (K:=K) rfl) (pv 10) pe_int (fun _ _=>rfl)) (by rfl)) (pe_ix (ix_P (K:=K) rfl) (pe_ix (ix_P (K:=K) rfl) (pv 3) pe_int (fun _ _=>rfl)) pe_int (fun _ _=>rfl)) (nomark _))) (pss_one (ps_ret pe_bl)) pss_nil)
  (pss_cons (ps_expr (pe_bm0 PySem.F.plainAttrs_list PySem.F.slot_list_pop PySem.F.type_list_pop mt_pop (pe_ix (ix_P (K:=K) rfl) (pe_ix (ix_P (K:=K) rfl) (pv 3) pe_int (fun _ _=>rfl)) pe_int (fun _ _=>rfl))))
  (pss_one (ps_for PassesOwn.never (by rfl) (pi_range1 (by rfl) T.zb_range (pa_cons pe_int pa_nil)) (pg_name (i:=4) sc_law.nd rfl (Or.inl rfl))
  (pss_one (ps_if (pt_around (PW.pt (pw_or (pt_cmpR (op_neP (K:=K) rfl hr.units) (pe_cmpR (op_eqOwnK rfl c_Answer_eq_2 h_Answer_eq_2 (hr.mono (by omega)) passL) (pe_ix (ix_P (K:=K) rfl) (pv 10) pe_int (fun _ _=>rfl)) (pe_ix (ix_P (K:=K) rfl) (pv 10) (pv 4) (fun _ _=>rfl)) (nomark _)) (pe_cmpR (op_eqB (K:=K) rfl (M3.Room.units200 hr)) (pe_ix (ix_P (K:=K) rfl) (pv 3) pe_int (fun _ _=>rfl)) (pe_ix (ix_P (K:=K) rfl) (pv 3) (pv 4) (fun _ _=>rfl)) (nomark _)) (nomark _)) (pw_or1 (pt_cmpR (op_neP (K:=K) rfl hr.units) (pe_cmpR (op_neOwnK rfl T.no_Answer c_Answer_eq_2 h_Answer_eq_2 (hr.mono (by omega)) passL) (pe_ix (ix_P (K:=K) rfl) (pv 10) (pv 4) (fun _ _=>rfl)) (pe_ix (ix_P (K:=K) rfl) (pv 10) pe_int (fun _ _=>rfl)) (nomark _)) (pe_cmpR (op_neB (K:=K) rfl (M3.Room.units200 hr)) (pe_ix (ix_P (K:=K) rfl) (pv 3) pe_int (fun _ _=>rfl)) (pe_ix (ix_P (K:=K) rfl) (pv 3) (pv 4) (fun _ _=>rfl)) (nomark _)) (nomark _)))))) (pss_one (ps_ret pe_bl)) pss_nil)))))))))))))))
  (pss_one (ps_ret pe_bl))), ?_⟩
 refine ⟨_,rfl,a,ns,rfl,hS,fun p cc H1 hp0 hc0 hpt hH=> ?_⟩
 exact law_rest4 (x:=lawB (csOf w K mg) p) (W:=fun _ _ _ _=>False) 14 (lift_seq4 (lift_for4 (vs:=[2]) (lift_iR (lift_cons (lift_int _) lift_nil)) (lift_name 2 (by decide))
  (lift_seq4 (lift_asg4 (lift_newC (lift_frLst lift_nil)) (lift_name (vs:=[3]) 3 (by decide)))
  (lift_seq4 (lift_for4 (vs:=[4]) (lift_iR (lift_cons (lift_int _) lift_nil)) (lift_name 4 (by decide))
  (lift_seq4 (lift_asg4 (lift_newC (lift_frSl (lift_lst (lift_cons (lift_tup (lift_cons (lift_str _) (lift_cons (lift_lst (lift_cons (lift_tup (lift_cons (lift_callP0 (lift_cons (lift_v 1) lift_nil) h_Lcell_1) lift_nil)) lift_nil)) (lift_cons (lift_lst lift_nil) lift_nil)))) lift_nil)) lift_po0 (lift_po (lift_callP0 (lift_cons (lift_v 1) (lift_cons (lift_int _) lift_nil)) h_Ltake_2)))) (lift_name (vs:=[5]) 5 (by decide)))
  (lift_seq4 (lift_asg4 (lift_pu (lift_fzD (lift_frDisp (.cons (lift_callP0 (lift_cons (lift_v 1) (lift_cons (lift_int _) lift_nil)) h_Ltake_2) (.cons (lift_int _) (.cons (lift_int _) (.cons (lift_callP0 (lift_cons (lift_v 1) (lift_cons (lift_int _) lift_nil)) h_Ltake_2) .nil))))))) (lift_name (vs:=[6]) 6 (by decide)))
  (lift_seq4 (lift_asg4 (lift_pu (lift_sl rl_slP (lift_lst (lift_cons (lift_tup (lift_cons (lift_str _) (lift_cons (lift_callP0 (lift_cons (lift_v 1) (lift_cons (lift_int _) lift_nil)) h_Ltake_2) lift_nil))) lift_nil)) lift_po0 (lift_po (lift_callP0 (lift_cons (lift_v 1) (lift_cons (lift_int _) lift_nil)) h_Ltake_2)))) (lift_name (vs:=[7]) 7 (by decide)))
  (lift_seq4 (lift_asg4 (lift_pu (lift_cb rl_dict (lift_cons (lift_sl rl_slP (lift_lst (lift_cons (lift_tup (lift_cons (lift_str _) (lift_cons (lift_lst (lift_cons (lift_tup (lift_cons lift_non (lift_cons (lift_tup (lift_cons (lift_callP0 (lift_cons (lift_v 1) (lift_cons (lift_int _) lift_nil)) h_Ltake_2) lift_nil)) lift_nil))) lift_nil)) lift_nil))) lift_nil)) lift_po0 (lift_po (lift_callP0 (lift_cons (lift_v 1) (lift_cons (lift_int _) lift_nil)) h_Ltake_2))) lift_nil))) (lift_name (vs:=[8]) 8 (by decide)))
  (lift_drop4 (lift_app4 (lift_pu (lift_v 3)) (lift_pu (lift_lst (lift_cons (lift_v 5) (lift_cons (lift_v 6) (lift_cons (lift_v 7) (lift_cons (lift_v 8) lift_nil)))))))))))))
  (lift_seq4 (lift_asg4 (lift_pu (lift_callP0 (lift_cons (lift_v 1) (lift_cons (lift_int _) lift_nil)) h_Ltake_2)) (lift_name (vs:=[9]) 9 (by decide)))
  (lift_seq4 (lift_drop4 (lift_app4 (lift_pu (lift_v 3)) (lift_lc4 (vs:=[4]) (lift_iR (lift_cons (lift_int _) lift_nil)) (lift_name 4 (by decide)) lift_yes (lift_op4 rl_ixP (lift_ixC4 (lift_pu (lift_v 3)) (lift_pu (lift_cb rl_int1 (lift_cons (lift_op rl_eqP (lift_v 4) (lift_v 9)) lift_nil)))) (lift_pu (lift_v 4))) (fun _ _ _ _ _ z=>z))))
  (lift_seq4 (lift_frz4 (i:=3) (lift_asg4 (lift_pu (lift_lc (vs:=[12,13,14,15]) (lift_iP (lift_v 3)) (lift_glst (lift_gcons (lift_name 12 (by decide)) (lift_gcons (lift_name 13 (by decide)) (lift_gcons (lift_name 14 (by decide)) (lift_gcons (lift_name 15 (by decide)) lift_gnil))))) lift_yes (lift_mkN0 (g:=(fun ds es=>sel [0,1,3,2] (ds++([]++es)))) (fun _ _ _=>⟨_,rfl⟩) (fun H a vs ds ws es zs r s _ _ ez=>by have ez2:=(List.cons.inj ez).2;subst ez2;exact repL_sel [0,1,3,2] (r.append ((h_Answer_init_0_net_counts_changes_followed H).append s))) lift_nil (lift_cons (lift_v 12) (lift_cons (lift_v 13) (lift_cons (lift_v 15) (lift_cons (lift_v 14) lift_nil))))) (fun _ _ _ _ _ z=>z))) (lift_name (vs:=[10]) 10 (by decide))))
  (lift_seq4 (lift_asg4 (lift_pu (lift_lst (lift_cons (lift_fld (cl:=[(csOf w K mg).at_ "Answer"]) (fun D hD=>by simp only [List.mem_cons,List.not_mem_nil,or_false] at hD;rcases hD with rfl<;>first | exact ⟨T.o_Answer.cl,T.n_Answer_net⟩) (lift_op rl_ixP (lift_v 10) (lift_int _))) (lift_cons (lift_fld (cl:=[(csOf w K mg).at_ "Answer"]) (fun D hD=>by simp only [List.mem_cons,List.not_mem_nil,or_false] at hD;rcases hD with rfl<;>first | exact ⟨T.o_Answer.cl,T.n_Answer_counts⟩) (lift_op rl_ixP (lift_v 10) (lift_int _))) (lift_cons (lift_fld (cl:=[(csOf w K mg).at_ "Answer"]) (fun D hD=>by simp only [List.mem_cons,List.not_mem_nil,or_false] at hD;rcases hD with rfl<;>first | exact ⟨T.o_Answer.cl,T.n_Answer_followed⟩) (lift_op rl_ixP (lift_v 10) (lift_int _))) (lift_cons (lift_fld (cl:=[(csOf w K mg).at_ "Answer"]) (fun D hD=>by simp only [List.mem_cons,List.not_mem_nil,or_false] at hD;rcases hD with rfl<;>first | exact ⟨T.o_Answer.cl,T.n_Answer_changes⟩) (lift_op rl_ixP (lift_v 10) (lift_int _))) lift_nil)))))) (lift_name (vs:=[11]) 11 (by decide)))
  (lift_seq4 (lift_ifs4 (lift_vwKB (e:=⟨true,false,[]⟩) (n:=3) (is:=[11,3,10]) (lift_or (lift_tst (lift_op rl_neB (lift_v 11) (lift_op rl_ixP (lift_v 3) (lift_int _)))) (lift_tst (lift_op (rl_eqO T.nf_Answer) (lift_op rl_ixP (lift_v 10) (lift_int _)) (lift_op rl_ixP (lift_v 3) (lift_int _)))))) (lift_ret4 (lift_pu (lift_bl _))) lift_next4)
  (lift_seq4 (lift_drop4 (lift_app4 (lift_pu (lift_op rl_ixP (lift_op rl_ixP (lift_v 3) (lift_int _)) (lift_int _))) (lift_pu (lift_tup (lift_cons (lift_str _) (lift_cons (lift_lst lift_nil) (lift_cons (lift_lst lift_nil) lift_nil)))))))
  (lift_seq4 (lift_ifs4 (lift_vwKB (e:=⟨true,false,[]⟩) (n:=3) (is:=[3,10]) (lift_tst (lift_op rl_neB (lift_fld (cl:=[(csOf w K mg).at_ "Answer"]) (fun D hD=>by simp only [List.mem_cons,List.not_mem_nil,or_false] at hD;rcases hD with rfl<;>first | exact ⟨T.o_Answer.cl,T.n_Answer_net⟩) (lift_op rl_ixP (lift_v 10) (lift_int _))) (lift_op rl_ixP (lift_op rl_ixP (lift_v 3) (lift_int _)) (lift_int _))))) (lift_ret4 (lift_pu (lift_bl _))) lift_next4)
  (lift_seq4 (lift_drop4 (lift_popL (lift_pu (lift_op rl_ixP (lift_op rl_ixP (lift_v 3) (lift_int _)) (lift_int _)))))
  (lift_for4 (vs:=[4]) (lift_iR (lift_cons (lift_int _) lift_nil)) (lift_name 4 (by decide))
  (lift_ifs4 (lift_vwKB (e:=⟨true,false,[]⟩) (n:=3) (is:=[3,10]) (lift_or (lift_tst (lift_op rl_neP (lift_op (rl_eqO T.nf_Answer) (lift_op rl_ixP (lift_v 10) (lift_int _)) (lift_op rl_ixP (lift_v 10) (lift_v 4))) (lift_op rl_eqB (lift_op rl_ixP (lift_v 3) (lift_int _)) (lift_op rl_ixP (lift_v 3) (lift_v 4))))) (lift_tst (lift_op rl_neP (lift_op (rl_neO T.nf_Answer) (lift_op rl_ixP (lift_v 10) (lift_v 4)) (lift_op rl_ixP (lift_v 10) (lift_int _))) (lift_op rl_neB (lift_op rl_ixP (lift_v 3) (lift_int _)) (lift_op rl_ixP (lift_v 3) (lift_v 4))))))) (lift_ret4 (lift_pu (lift_bl _))) lift_next4)))))))))))))
  (lift_ret4 (lift_pu (lift_bl _)))) hpt (fun q hq=>LamX.TabS.nil (hH _ _ (hPL q hq))) hQ (hp p)
end
end Law
set_option maxHeartbeats 1000000
namespace Law
open PySem L2 M3
abbrev MOSTi:Int:=999999999999999999999999999999
def isCellTree (t:T):Prop:=t= .non∨∃i:Int,t= .int i∧ -MOSTi≤i∧i≤MOSTi
theorem cell_of (C:Cs) {p:Addr} {Q:T→Prop} {X:X3} (q:∀t,isCellTree t→Q t):Lcell C [.ref p] Q X:=by
 rw [Lcell_def]
 show LcellB C p {nx:=fun _=>Q .non,rt:=Q,xn:=fun _=>X} (start3 3 [.ref p])
 unfold LcellB
 have qi:∀i:Int, -MOSTi≤i→i≤MOSTi→Q (.int i):=fun i a b=>q _ (.inr ⟨i,rfl,a,b⟩)
 have qn:Q .non:=q _ (.inl rfl)
 refine seq_by (fun σ'=>∃r:Int,0≤r∧r<16∧σ'=[Sl.val (.ref p),Sl.val (.int r),Sl.no]) (fun nx hn=> ?_) ?_
 · refine ⟨rfl,rfl,by decide,by decide,fun r h0 h1=>hn _ ⟨r,h0,h1,rfl⟩⟩
 rintro σ' ⟨r,h0,h1,rfl⟩
 refine seq_by (fun σ'=>σ'=[Sl.val (.ref p),Sl.val (.int r),Sl.no]) (fun nx hn=> ?_) ?_
 · have e:=hn _ rfl
   by_cases a:r<2
   · simpa [seq3,next3,ret3,retN3,ifs3,drop3,asg3,name3,tst3,and3,or3,not3,andV3,orV3,notV3,if3,v3,k3,op3,un3,nil3,cons3,call3,tup3,lst3,chain3,fn30,fn3,fnN30,fnN3,fnP30,i2,i2c,i1,isN3,notN3,eqS3,neS3,ixL3,ixT3,len3,all3,any3,abs3,max23,min23,isi3,isB3,truth3,start3,slot,flatT,scal,tyn,M3.isNon,lenT,truT,isiB,Option.bind,take3,kbs,addP,mulP,ixP,slP,eqP,neP,isSeq,iterP,itemsP,no3,part3,sl3,raise3,brk3,cont3,M3.ltP,M3.leP,M3.gtP,M3.geP,a] using qn
   · simpa [seq3,next3,ret3,retN3,ifs3,drop3,asg3,name3,tst3,and3,or3,not3,andV3,orV3,notV3,if3,v3,k3,op3,un3,nil3,cons3,call3,tup3,lst3,chain3,fn30,fn3,fnN30,fnN3,fnP30,i2,i2c,i1,isN3,notN3,eqS3,neS3,ixL3,ixT3,len3,all3,any3,abs3,max23,min23,isi3,isB3,truth3,start3,slot,flatT,scal,tyn,M3.isNon,lenT,truT,isiB,Option.bind,take3,kbs,addP,mulP,ixP,slP,eqP,neP,isSeq,iterP,itemsP,no3,part3,sl3,raise3,brk3,cont3,M3.ltP,M3.leP,M3.gtP,M3.geP,a] using e
 rintro σ' rfl
 refine seq_by (fun σ'=>σ'=[Sl.val (.ref p),Sl.val (.int r),Sl.no]) (fun nx hn=> ?_) ?_
 · have e:=hn _ rfl
   by_cases a:r<15
   · by_cases a3:r<13
     · simp [next3,ret3,ifs3,tst3,if3,v3,k3,op3,nil3,cons3,fnP30,i2,slot,take3,M3.ltP,a,a3]
       intro z z0 z1
       exact qi _ (by simp only [MOSTi];omega) (by simp only [MOSTi];omega)
     · simp [next3,ret3,ifs3,tst3,if3,v3,k3,op3,nil3,cons3,fnP30,i2,slot,take3,M3.ltP,a,a3]
       intro z z0 z1
       exact qi _ (by simp only [MOSTi];omega) (by simp only [MOSTi];omega)
   · simpa [seq3,next3,ret3,retN3,ifs3,drop3,asg3,name3,tst3,and3,or3,not3,andV3,orV3,notV3,if3,v3,k3,op3,un3,nil3,cons3,call3,tup3,lst3,chain3,fn30,fn3,fnN30,fnN3,fnP30,i2,i2c,i1,isN3,notN3,eqS3,neS3,ixL3,ixT3,len3,all3,any3,abs3,max23,min23,isi3,isB3,truth3,start3,slot,flatT,scal,tyn,M3.isNon,lenT,truT,isiB,Option.bind,take3,kbs,addP,mulP,ixP,slP,eqP,neP,isSeq,iterP,itemsP,no3,part3,sl3,raise3,brk3,cont3,M3.ltP,M3.leP,M3.gtP,M3.geP,a] using e
 rintro σ' rfl
 refine seq_by (fun σ'=>σ'=[Sl.val (.ref p),Sl.val (.int r),Sl.val (.int MOSTi)]) (fun nx hn=> ?_) ?_
 · have e:=hn _ rfl
   simpa [seq3,next3,ret3,retN3,ifs3,drop3,asg3,name3,tst3,and3,or3,not3,andV3,orV3,notV3,if3,v3,k3,op3,un3,nil3,cons3,call3,tup3,lst3,chain3,fn30,fn3,fnN30,fnN3,fnP30,i2,i2c,i1,isN3,notN3,eqS3,neS3,ixL3,ixT3,len3,all3,any3,abs3,max23,min23,isi3,isB3,truth3,start3,slot,flatT,scal,tyn,M3.isNon,lenT,truT,isiB,Option.bind,take3,kbs,addP,mulP,ixP,slP,eqP,neP,isSeq,iterP,itemsP,no3,part3,sl3,raise3,brk3,cont3,M3.ltP,M3.leP,M3.gtP,M3.geP,CPow,MOSTi] using e
 rintro σ' rfl
 simp [ret3,v3,k3,op3,un3,nil3,cons3,lst3,fnP30,i2c,i1,slot,take3,addP,ixP,CPow]
 intro z z0 z1
 refine ⟨by decide,by decide,fun y y0 y1=>⟨by decide,draw_all rfl ?_⟩⟩
 intro t ht
 simp at ht
 simp only [MOSTi] at y1
 rcases ht with rfl | rfl | rfl | rfl
 all_goals exact qi _ (by simp only [MOSTi];omega) (by simp only [MOSTi];omega)
theorem sq4_of {t u:S4} {N:N4} {σ:List Sl} {M:Mem} (h:t {nx:=u N,ct:=N.ct,bk:=N.bk,rt:=N.rt,xn:=N.xn} σ M):seq4 t u N σ M:=h
theorem lp4_cons {i:Nat} {tb:S4} {N:N4} {x:T} {xs:List T} {σ:List Sl} {M:Mem}:loop4 (name3 i) tb N (x::xs) σ M=tb {nx:=loop4 (name3 i) tb N xs,ct:=loop4 (name3 i) tb N xs,bk:=N.nx,rt:=N.rt,xn:=N.xn} (σ.set i (.val x)) M:=rfl
def zz:T:=.tup [.str "z",.lst [],.lst []]
def netT:Option T→List T
 | none=>[]
 | some c=>[.tup [.str "a",.lst [.tup [c]],.lst []]]
def tallyL (i j:Int):List (Key×T):=[(.inr "put",.int i),(.inr "turned",.int 0),(.inr "taken",.int 1),(.inr "stayed",.int j)]
def cameT:Option Int→T
 | none=>.lst []
 | some i=>.lst [.tup [.str "r",.int i]]
def movedL:Option Int→List (Key×T)
 | none=>[]
 | some i=>[(.inr "a",.lst [.tup [.non,.tup [.int i]]])]
structure Pt where
 a:Addr
 c:Option T
 i:Int
 j:Int
 r:Option Int
 m:Option Int
def Pt.net (x:Pt):List T:=netT x.c
def Pt.d1 (x:Pt):T:=.dic (tallyL x.i x.j)
def Pt.d2 (x:Pt):T:=cameT x.r
def Pt.d3 (x:Pt):T:=.dic (movedL x.m)
def Pt.t (x:Pt):T:=.lst [.ref x.a,x.d1,x.d2,x.d3]
def insT (C:Cs) (a b c d:T):T:=.ins (C.at_ "Answer") [("net",a),("counts",b),("followed",c),("changes",d)]
structure PtOk (x:Pt):Prop where
 c:∀c,x.c=some c→isCellTree c
 i:0≤x.i∧x.i<3
 j:0≤x.j∧x.j<9
 r:∀i,x.r=some i→0≤i∧i<3
 m:∀i,x.m=some i→0≤i∧i<3
def Lk (t u:T) (b:Bool):Prop:=EqB 2 t u b∧EqB 2 u t b
def Sf (t:T):Prop:=EqB 2 t t true
theorem lk_dat {t u:T} {d e:PyData} (h1:dat t=some d) (h2:dat u=some e) (s1:SeqAt.shaped d=true) (s2:SeqAt.shaped e=true):Lk t u (PyData.eqv d e):=
 ⟨.data h1 h2 s1 s2,by rw [PySem.W.eqv_comm];exact .data h2 h1 s2 s1⟩
theorem sf_dat {t:T} {d:PyData} (h1:dat t=some d) (s1:SeqAt.shaped d=true):Sf t:=by
 have:=EqB.data (n:=2) h1 h1 s1 s1
 rw [eqv_lay d (SeqAt.canLay_of_shaped s1)] at this
 exact this
def D (t:T):PyData:=(dat t).getD .none
def Dat (t:T):Prop:=dat t=some (D t)∧SeqAt.shaped (D t)=true
theorem Dat.of {t:T} {d:PyData} (h:dat t=some d) (s:SeqAt.shaped d=true):Dat t:=by
 have:D t=d:=by unfold D;rw [h];rfl
 exact ⟨by rw [this];exact h,by rw [this];exact s⟩
def eD (ks ls:List (Key×T)) (k:Key):Bool:=PyData.eqv (D ((valT ks k).getD .non)) (D ((valT ls k).getD .non))
theorem eD_comm (ks ls:List (Key×T)) (k:Key):eD ks ls k=eD ls ks k:=PySem.W.eqv_comm _ _
theorem eqD {ks ls:List (Key×T)} (nd:(ks.map (·.1)).Nodup) (h1:∀z∈ks,Dat z.2) (h2:∀z∈ls,Dat z.2):EqB 2 (.dic ks) (.dic ls) (ks.length==ls.length&&ks.all fun p=>(valT ls p.1).isSome&&eD ks ls p.1):=by
 refine .dic fun k v u hm hu=> ?_
 have hv:=valT_of nd hm
 have a:=h1 _ hm
 have b:=h2 _ (valT_mem hu)
 have:=EqB.data (n:=1) a.1 b.1 a.2 b.2
 unfold eD
 rw [hv,hu]
 exact this
theorem all_key {ks ls:List (Key×T)} {G H:Key→Bool} (e:ks.map (·.1)=ls.map (·.1)) (h:∀k,G k=H k):(ks.all fun p=>G p.1)=ls.all fun p=>H p.1:=by
 have e1:(ks.all fun p=>G p.1)=(ks.map (·.1)).all G:=by rw [List.all_map];rfl
 have e2:(ls.all fun p=>H p.1)=(ls.map (·.1)).all H:=by rw [List.all_map];rfl
 rw [e1,e2,e,funext h]
theorem all_same {α:Type} {l:List α} {f g:α→Bool} (h:∀x∈l,f x=g x):l.all f=l.all g:=by
 induction l with
 | nil=>rfl
 | cons x l ih=>rw [List.all_cons,List.all_cons,h x (List.mem_cons_self ..),ih fun y hy=>h y (List.mem_cons_of_mem _ hy)]
theorem lk_dic {ks ls:List (Key×T)} (nd:(ks.map (·.1)).Nodup) (nd2:(ls.map (·.1)).Nodup) (h1:∀z∈ks,Dat z.2) (h2:∀z∈ls,Dat z.2) (e:ks.map (·.1)=ls.map (·.1)∨ks.length≠ls.length):
 Lk (.dic ks) (.dic ls) (ks.length==ls.length&&ks.all fun p=>(valT ls p.1).isSome&&eD ks ls p.1):=by
 refine ⟨eqD nd h1 h2, ?_⟩
 have:=eqD nd2 h2 h1
 rcases e with e | e
 · have el:ks.length=ls.length:=by simpa using congrArg List.length e
   have a:(ks.all fun p=>(valT ls p.1).isSome&&eD ks ls p.1)=ls.all fun p=>(valT ks p.1).isSome&&eD ls ks p.1:=by
    have h1:(ks.all fun p=>(valT ls p.1).isSome&&eD ks ls p.1)=ks.all fun p=>eD ks ls p.1:=by
     refine all_same fun p hp=> ?_
     rw [valT_some (by rw [←e];exact List.mem_map.mpr ⟨p,hp,rfl⟩),Bool.true_and]
    have h2:(ls.all fun p=>(valT ks p.1).isSome&&eD ls ks p.1)=ls.all fun p=>eD ls ks p.1:=by
     refine all_same fun p hp=> ?_
     rw [valT_some (by rw [e];exact List.mem_map.mpr ⟨p,hp,rfl⟩),Bool.true_and]
    rw [h1,h2]
    exact all_key e fun k=>eD_comm ks ls k
   rw [a,el]
   rw [el] at this
   exact this
 · have z1:(ks.length==ls.length)=false:=by simpa using e
   have z2:(ls.length==ks.length)=false:=by simpa using fun z=>e z.symm
   rw [z1,Bool.false_and]
   rw [z2,Bool.false_and] at this
   exact this
theorem sf_dic {ks:List (Key×T)} (nd:(ks.map (·.1)).Nodup) (h1:∀z∈ks,Dat z.2):Sf (.dic ks):=by
 have:=eqD nd h1 h1
 have e:(ks.length==ks.length&&ks.all fun p=>(valT ks p.1).isSome&&eD ks ks p.1)=true:=by
  rw [beq_self_eq_true,Bool.true_and,List.all_eq_true]
  intro p hp
  rw [valT_some (List.mem_map.mpr ⟨p,hp,rfl⟩),Bool.true_and]
  unfold eD
  rw [valT_of nd hp]
  exact eqv_lay _ (SeqAt.canLay_of_shaped (h1 p hp).2)
 rw [e] at this
 exact this
theorem ok_a:PyData.strOk "a"=true:=by decide +kernel
theorem ok_r:PyData.strOk "r"=true:=by decide +kernel
theorem ok_z:PyData.strOk "z"=true:=by decide +kernel
theorem shaped_of {d:PyData} (h:d.canLay0=true) (h2:d.depth≤64):SeqAt.shaped d=true:=by
 unfold SeqAt.shaped;simp [h,h2]
theorem dat_net {c:Option T} (h:∀x,c=some x→isCellTree x):Dat (.lst (netT c)):=by
 cases c with
 | none=>exact .of (d:=.list []) rfl rfl
 | some x=>
   rcases h x rfl with rfl | ⟨i,rfl,_⟩
   · exact .of (d:=.list [.tuple [.str "a",.list [.tuple [.none]],.list []]]) rfl (by decide +kernel)
   · exact .of (d:=.list [.tuple [.str "a",.list [.tuple [.int i]],.list []]]) rfl (shaped_of (by simp [PyData.canLay0,PyData.canLayAll0,ok_a,ok_r,ok_z]) (by simp [PyData.depth,PyData.depthAll]))
theorem dat_came (r:Option Int):Dat (cameT r):=by
 cases r with
 | none=>exact .of (d:=.list []) rfl rfl
 | some i=>exact .of (d:=.list [.tuple [.str "r",.int i]]) rfl (shaped_of (by simp [PyData.canLay0,PyData.canLayAll0,ok_a,ok_r,ok_z]) (by simp [PyData.depth,PyData.depthAll]))
theorem dat_int (i:Int):Dat (.int i):=.of (d:=.int i) rfl (shaped_of (by simp [PyData.canLay0,PyData.canLayAll0,ok_a,ok_r,ok_z]) (by simp [PyData.depth,PyData.depthAll]))
theorem dat_tally (i j:Int):∀z∈tallyL i j,Dat z.2:=by
 intro z hz
 simp only [tallyL,List.mem_cons,List.not_mem_nil,or_false] at hz
 rcases hz with rfl | rfl | rfl | rfl<;>exact dat_int _
theorem dat_moved (m:Option Int):∀z∈movedL m,Dat z.2:=by
 intro z hz
 cases m with
 | none=>cases hz
 | some i=>
   cases List.mem_singleton.mp hz
   exact .of (d:=.list [.tuple [.none,.tuple [.int i]]]) rfl (shaped_of (by simp [PyData.canLay0,PyData.canLayAll0,ok_a,ok_r,ok_z]) (by simp [PyData.depth,PyData.depthAll]))
theorem nd_tally (i j:Int):((tallyL i j).map (·.1)).Nodup:=by
 show (([.inr "put",.inr "turned",.inr "taken",.inr "stayed"]:List Key)).Nodup
 decide +kernel
theorem nd_moved (m:Option Int):((movedL m).map (·.1)).Nodup:=by
 cases m with
 | none=>exact List.nodup_nil
 | some i=>simp [movedL]
def Pt.l (x:Pt):List T:=[.lst x.net,x.d1,x.d2,x.d3]
def Pt.s (x:Pt):T:=.lst x.l
theorem lk_parts {x y:Pt} (hx:PtOk x) (hy:PtOk y):∃b0 b1 b2 b3:Bool,Lk (.lst x.net) (.lst y.net) b0∧Lk x.d1 y.d1 b1∧Lk x.d2 y.d2 b2∧Lk x.d3 y.d3 b3:=by
 have a:=dat_net hx.c
 have b:=dat_net hy.c
 have c:=dat_came x.r
 have d:=dat_came y.r
 refine ⟨_,_,_,_,lk_dat a.1 b.1 a.2 b.2,lk_dic (nd_tally _ _) (nd_tally _ _) (dat_tally _ _) (dat_tally _ _) (.inl rfl),lk_dat c.1 d.1 c.2 d.2,lk_dic (nd_moved _) (nd_moved _) (dat_moved _) (dat_moved _) ?_⟩
 cases x.m<;>cases y.m<;>simp [movedL]
def four (b0 b1 b2 b3:Bool):Nat→Bool
 | 0=>b0
 | 1=>b1
 | 2=>b2
 | _=>b3
theorem four_get {xs ys:List T} {a b c d a' b' c' d':T} {b0 b1 b2 b3:Bool} (h0:EqB 2 a a' b0) (h1:EqB 2 b b' b1) (h2:EqB 2 c c' b2) (h3:EqB 2 d d' b3):
 ∀(i:Nat) x y,[a,b,c,d][i]? =some x→[a',b',c',d'][i]? =some y→EqB 2 x y (four b0 b1 b2 b3 i):=by
 intro i x y hx hy
 match i with
 | 0=>cases hx;cases hy;exact h0
 | 1=>cases hx;cases hy;exact h1
 | 2=>cases hx;cases hy;exact h2
 | 3=>cases hx;cases hy;exact h3
 | n+4=>simp at hx
theorem four_all (b0 b1 b2 b3:Bool):(List.range 4).all (four b0 b1 b2 b3)=(b0&&(b1&&(b2&&b3))):=by
 show (four b0 b1 b2 b3 0&&(four b0 b1 b2 b3 1&&(four b0 b1 b2 b3 2&&(four b0 b1 b2 b3 3&&true))))=_
 rw [Bool.and_true]
 rfl
theorem eq4 {a b c d a' b' c' d':T} {b0 b1 b2 b3:Bool} (h0:EqB 2 a a' b0) (h1:EqB 2 b b' b1) (h2:EqB 2 c c' b2) (h3:EqB 2 d d' b3) {Q:T→Prop} (q:Q (.bl (b0&&(b1&&(b2&&b3))))):
 eqB3 (.lst [a,b,c,d]) (.lst [a',b',c',d']) Q∧eqB3 (.tup [a,b,c,d]) (.tup [a',b',c',d']) Q:=by
 rw [←four_all] at q
 exact ⟨⟨3,_,by decide,.lst rfl (four_get (xs:=[]) (ys:=[]) h0 h1 h2 h3),rfl,q⟩,⟨3,_,by decide,.tup rfl (four_get (xs:=[]) (ys:=[]) h0 h1 h2 h3),rfl,q⟩⟩
theorem ne4 {a b c d a' b' c' d':T} {b0 b1 b2 b3:Bool} (h0:EqB 2 a a' b0) (h1:EqB 2 b b' b1) (h2:EqB 2 c c' b2) (h3:EqB 2 d d' b3) {Q:T→Prop} (q:Q (.bl (!(b0&&(b1&&(b2&&b3)))))):
 neB3 (.lst [a,b,c,d]) (.lst [a',b',c',d']) Q:=by
 rw [←four_all] at q
 show ob (some [a,b,c,d]) _
 rw [ob_some]
 show ob (some [a',b',c',d']) _
 rw [ob_some]
 exact ⟨2,_,by decide,rfl,four_get (xs:=[]) (ys:=[]) h0 h1 h2 h3,q⟩
theorem n1:(("counts":Str)=="net")=false:=by decide +kernel
theorem n2:(("followed":Str)=="net")=false:=by decide +kernel
theorem n3:(("changes":Str)=="net")=false:=by decide +kernel
theorem n4:(("followed":Str)=="counts")=false:=by decide +kernel
theorem n5:(("changes":Str)=="counts")=false:=by decide +kernel
theorem n6:(("changes":Str)=="followed")=false:=by decide +kernel
theorem m1:¬(("net":Str)="counts"):=by decide +kernel
theorem m2:¬(("net":Str)="followed"):=by decide +kernel
theorem m3:¬(("net":Str)="changes"):=by decide +kernel
theorem m4:¬(("counts":Str)="followed"):=by decide +kernel
theorem m5:¬(("counts":Str)="changes"):=by decide +kernel
theorem m6:¬(("followed":Str)="changes"):=by decide +kernel
theorem answer_eq {C:Cs} {a b c d a' b' c' d':T} {b0 b1 b2 b3:Bool} (h0:EqB 2 a a' b0) (h1:EqB 2 b b' b1) (h2:EqB 2 c c' b2) (h3:EqB 2 d d' b3) {Q:T→Prop} {X:X3} (q:Q (.bl (b0&&(b1&&(b2&&b3))))):
 Answer_eq C [insT C a b c d,insT C a' b' c' d'] Q X:=by
 have z:=(eq4 h0 h1 h2 h3 q).2
 rw [Answer_eq_def]
 show Answer_eqB C {nx:=fun _=>Q .non,rt:=Q,xn:=fun _=>X} (start3 3 [insT C a b c d,insT C a' b' c' d'])
 unfold Answer_eqB
 generalize eqB3=E at z ⊢
 simp [seq3,next3,ret3,retN3,ifs3,drop3,asg3,name3,tst3,and3,or3,not3,andV3,orV3,notV3,if3,v3,k3,op3,un3,nil3,cons3,call3,tup3,lst3,chain3,fn30,fn3,fnN30,fnN3,fnP30,i2,i2c,i1,isN3,notN3,eqS3,neS3,ixL3,ixT3,len3,all3,any3,abs3,max23,min23,isi3,isB3,truth3,start3,slot,flatT,scal,tyn,M3.isNon,lenT,truT,isiB,Option.bind,take3,kbs,addP,mulP,ixP,slP,eqP,neP,isSeq,iterP,itemsP,no3,part3,sl3,raise3,brk3,cont3,M3.ltP,M3.leP,M3.gtP,M3.geP,isiO3,kindO,insT,fld3,asIns,asB,List.lookup,n1,n2,n3,n4,n5,n6]
 exact ⟨by decide,z⟩
theorem answer_lst {C:Cs} {a b c d:T} {xs:List T} {Q:T→Prop} {X:X3} (q:Q (.bl false)):
 Answer_eq C [insT C a b c d,.lst xs] Q X:=by
 rw [Answer_eq_def]
 show Answer_eqB C {nx:=fun _=>Q .non,rt:=Q,xn:=fun _=>X} (start3 3 [insT C a b c d,.lst xs])
 unfold Answer_eqB
 generalize eqB3=E
 simp [seq3,next3,ret3,retN3,ifs3,drop3,asg3,name3,tst3,and3,or3,not3,andV3,orV3,notV3,if3,v3,k3,op3,un3,nil3,cons3,call3,tup3,lst3,chain3,fn30,fn3,fnN30,fnN3,fnP30,i2,i2c,i1,isN3,notN3,eqS3,neS3,ixL3,ixT3,len3,all3,any3,abs3,max23,min23,isi3,isB3,truth3,start3,slot,flatT,scal,tyn,M3.isNon,lenT,truT,isiB,Option.bind,take3,kbs,addP,mulP,ixP,slP,eqP,neP,isSeq,iterP,itemsP,no3,part3,sl3,raise3,brk3,cont3,M3.ltP,M3.leP,M3.gtP,M3.geP,isiO3,kindO,insT,fld3,asIns,asB,List.lookup,n1,n2,n3,n4,n5,n6]
 exact q
theorem answer_init {C:Cs} {a b c d:T} {Q:T→Prop} {X:X3} (q:Q (insT C a b c d)):Answer_init C [a,b,c,d] Q X:=by
 rw [Answer_init_def]
 intro x
 unfold Answer_initB
 simp [seq3,next3,ret3,retN3,ifs3,drop3,asg3,name3,tst3,and3,or3,not3,andV3,orV3,notV3,if3,v3,k3,op3,un3,nil3,cons3,call3,tup3,lst3,chain3,fn30,fn3,fnN30,fnN3,fnP30,i2,i2c,i1,isN3,notN3,eqS3,neS3,ixL3,ixT3,len3,all3,any3,abs3,max23,min23,isi3,isB3,truth3,start3,slot,flatT,scal,tyn,M3.isNon,lenT,truT,isiB,Option.bind,take3,kbs,addP,mulP,ixP,slP,eqP,neP,isSeq,iterP,itemsP,no3,part3,sl3,raise3,brk3,cont3,M3.ltP,M3.leP,M3.gtP,M3.geP,setO3,ownI,selfT,putF3,insT,m1,m2,m3,m4,m5,m6]
 simpa [insT] using q
section
variable {C:Cs} {p:Addr} {N:N4} {M:Mem} {s2 s3 s4 s5 s6 s7 s8 s9 s10 s11 s12 s13 s14 s15:Sl}
abbrev st (p:Addr) (s2 s3 s4 s5 s6 s7 s8 s9 s10 s11 s12 s13 s14 s15:Sl):List Sl:=[.no,.val (.ref p),s2,s3,s4,s5,s6,s7,s8,s9,s10,s11,s12,s13,s14,s15]
theorem cut01 {α:Type} (x:α) {r:Int} (h0:0≤r) (h1:r<2):cut [x] none (some r)=if r=0 then [] else [x]:=by
 rcases (show r=0∨r=1 by omega) with rfl | rfl<;>rfl
theorem part_step {L:Addr} {xs:List T} (hM:M L=some (.lst xs)) (hl:xs.length<10)
 (h:∀(x:Pt) (s5 s6 s7 s8:Sl) M',PtOk x→M x.a=none→M'=mset (mset M x.a (some (.lst x.net))) L (some (.lst (xs++[x.t])))→N.nx (st p s2 (.val (.ref L)) s4 s5 s6 s7 s8 s9 s10 s11 s12 s13 s14 s15) M'):
 law_1b_2b C p N (st p s2 (.val (.ref L)) s4 s5 s6 s7 s8 s9 s10 s11 s12 s13 s14 s15) M:=by
 have cl:=fun (Q:T→Prop) (X:X3) (q:∀t,isCellTree t→Q t)=>cell_of C (p:=p) (Q:=Q) (X:=X) q
 unfold law_1b_2b
 refine sq4_of ?_
 have t1:∀N:N4,(∀(c:Option T) A,(∀x,c=some x→isCellTree x)→M A=none→N.nx (st p s2 (.val (.ref L)) s4 (.val (.ref A)) s6 s7 s8 s9 s10 s11 s12 s13 s14 s15) (mset M A (some (.lst (netT c)))))→law_1b_2b_1 C p N (st p s2 (.val (.ref L)) s4 s5 s6 s7 s8 s9 s10 s11 s12 s13 s14 s15) M:=by
  intro N hN
  unfold law_1b_2b_1
  simp [asg4,newC4,seq3,next3,ret3,retN3,ifs3,drop3,asg3,name3,tst3,and3,or3,not3,andV3,orV3,notV3,if3,v3,k3,op3,un3,nil3,cons3,call3,tup3,lst3,chain3,fn30,fn3,fnN30,fnN3,fnP30,i2,i2c,i1,isN3,notN3,eqS3,neS3,ixL3,ixT3,len3,all3,any3,abs3,max23,min23,isi3,isB3,truth3,start3,slot,flatT,scal,tyn,M3.isNon,lenT,truT,isiB,Option.bind,take3,kbs,addP,mulP,ixP,slP,eqP,neP,isSeq,iterP,itemsP,no3,part3,sl3,raise3,brk3,cont3,M3.ltP,M3.leP,M3.gtP,M3.geP,fnP30,cutL3,asL,i2]
  refine cl _ _ fun t ht=>⟨by decide,by decide,by decide,fun r h0 h1 A hA=> ?_⟩
  rw [cut01 _ h0 h1]
  by_cases e:r=0
  · rw [if_pos e];exact hN none A (fun x z=>by cases z) hA
  · rw [if_neg e];exact hN (some t) A (fun x z=>by cases z;exact ht) hA
 refine t1 _ fun c A hc hA=> ?_
 clear t1
 dsimp only
 refine sq4_of ?_
 have nL:L≠A:=fun z=>by rw [←z,hM] at hA;cases hA
 generalize hM1:mset M A (some (.lst (netT c)))=M1
 have hL:M1 L=some (.lst xs):=by rw [←hM1,mset_ne nL];exact hM
 have t2:∀N:N4,(∀i j:Int,0≤i→i<3→0≤j→j<9→N.nx (st p s2 (.val (.ref L)) s4 (.val (.ref A)) (.val (.dic (tallyL i j))) s7 s8 s9 s10 s11 s12 s13 s14 s15) M1)→law_1b_2b_2 C p N (st p s2 (.val (.ref L)) s4 (.val (.ref A)) s6 s7 s8 s9 s10 s11 s12 s13 s14 s15) M1:=by
  intro N hN
  unfold law_1b_2b_2
  simp [asg4,pu,disp3,vals3,seq3,next3,ret3,retN3,ifs3,drop3,asg3,name3,tst3,and3,or3,not3,andV3,orV3,notV3,if3,v3,k3,op3,un3,nil3,cons3,call3,tup3,lst3,chain3,fn30,fn3,fnN30,fnN3,fnP30,i2,i2c,i1,isN3,notN3,eqS3,neS3,ixL3,ixT3,len3,all3,any3,abs3,max23,min23,isi3,isB3,truth3,start3,slot,flatT,scal,tyn,M3.isNon,lenT,truT,isiB,Option.bind,take3,kbs,addP,mulP,ixP,slP,eqP,neP,isSeq,iterP,itemsP,no3,part3,sl3,raise3,brk3,cont3,M3.ltP,M3.leP,M3.gtP,M3.geP,fnP30]
  intro i h0 h1 j g0 g1
  exact hN i j h0 h1 g0 g1
 refine t2 _ fun i j h0 h1 g0 g1=> ?_
 clear t2
 dsimp only
 refine sq4_of ?_
 have t3:∀N:N4,(∀r:Option Int,(∀i,r=some i→0≤i∧i<3)→N.nx (st p s2 (.val (.ref L)) s4 (.val (.ref A)) (.val (.dic (tallyL i j))) (.val (cameT r)) s8 s9 s10 s11 s12 s13 s14 s15) M1)→law_1b_2b_3 C p N (st p s2 (.val (.ref L)) s4 (.val (.ref A)) (.val (.dic (tallyL i j))) s7 s8 s9 s10 s11 s12 s13 s14 s15) M1:=by
  intro N hN
  unfold law_1b_2b_3
  simp [asg4,pu,seq3,next3,ret3,retN3,ifs3,drop3,asg3,name3,tst3,and3,or3,not3,andV3,orV3,notV3,if3,v3,k3,op3,un3,nil3,cons3,call3,tup3,lst3,chain3,fn30,fn3,fnN30,fnN3,fnP30,i2,i2c,i1,isN3,notN3,eqS3,neS3,ixL3,ixT3,len3,all3,any3,abs3,max23,min23,isi3,isB3,truth3,start3,slot,flatT,scal,tyn,M3.isNon,lenT,truT,isiB,Option.bind,take3,kbs,addP,mulP,ixP,slP,eqP,neP,isSeq,iterP,itemsP,no3,part3,sl3,raise3,brk3,cont3,M3.ltP,M3.leP,M3.gtP,M3.geP,fnP30]
  intro k k0 k1
  refine ⟨by decide,by decide,fun r r0 r1=> ?_⟩
  rw [cut01 _ r0 r1]
  by_cases e:r=0
  · rw [if_pos e];exact hN none (fun x z=>by cases z)
  · rw [if_neg e];exact hN (some k) (fun x z=>by cases z;exact ⟨k0,k1⟩)
 refine t3 _ fun r hr=> ?_
 clear t3
 dsimp only
 refine sq4_of ?_
 have t4:∀N:N4,(∀m:Option Int,(∀i,m=some i→0≤i∧i<3)→N.nx (st p s2 (.val (.ref L)) s4 (.val (.ref A)) (.val (.dic (tallyL i j))) (.val (cameT r)) (.val (.dic (movedL m))) s9 s10 s11 s12 s13 s14 s15) M1)→law_1b_2b_4 C p N (st p s2 (.val (.ref L)) s4 (.val (.ref A)) (.val (.dic (tallyL i j))) (.val (cameT r)) s8 s9 s10 s11 s12 s13 s14 s15) M1:=by
  intro N hN
  unfold law_1b_2b_4
  simp [asg4,pu,seq3,next3,ret3,retN3,ifs3,drop3,asg3,name3,tst3,and3,or3,not3,andV3,orV3,notV3,if3,v3,k3,op3,un3,nil3,cons3,call3,tup3,lst3,chain3,fn30,fn3,fnN30,fnN3,fnP30,i2,i2c,i1,isN3,notN3,eqS3,neS3,ixL3,ixT3,len3,all3,any3,abs3,max23,min23,isi3,isB3,truth3,start3,slot,flatT,scal,tyn,M3.isNon,lenT,truT,isiB,Option.bind,take3,kbs,addP,mulP,ixP,slP,eqP,neP,isSeq,iterP,itemsP,no3,part3,sl3,raise3,brk3,cont3,M3.ltP,M3.leP,M3.gtP,M3.geP,fnP30,dict3]
  intro k k0 k1
  refine ⟨by decide,by decide,by decide,by decide,by decide,fun r r0 r1=> ?_⟩
  rw [cut01 _ r0 r1]
  by_cases e:r=0
  · rw [if_pos e];exact hN none (fun x z=>by cases z)
  · rw [if_neg e];exact hN (some k) (fun x z=>by cases z;exact ⟨k0,k1⟩)
 refine t4 _ fun m hm=> ?_
 clear t4
 dsimp only
 have z:=h ⟨A,c,i,j,r,m⟩ (.val (.ref A)) (.val (.dic (tallyL i j))) (.val (cameT r)) (.val (.dic (movedL m))) _ ⟨hc,⟨h0,h1⟩,⟨g0,g1⟩,hr,hm⟩ hA rfl
 unfold law_1b_2b_5
 simp [drop4,app4,pu,seq3,next3,ret3,retN3,ifs3,drop3,asg3,name3,tst3,and3,or3,not3,andV3,orV3,notV3,if3,v3,k3,op3,un3,nil3,cons3,call3,tup3,lst3,chain3,fn30,fn3,fnN30,fnN3,fnP30,i2,i2c,i1,isN3,notN3,eqS3,neS3,ixL3,ixT3,len3,all3,any3,abs3,max23,min23,isi3,isB3,truth3,start3,slot,flatT,scal,tyn,M3.isNon,lenT,truT,isiB,Option.bind,take3,kbs,addP,mulP,ixP,slP,eqP,neP,isSeq,iterP,itemsP,no3,part3,sl3,raise3,brk3,cont3,M3.ltP,M3.leP,M3.gtP,M3.geP,asR,cellL,hL,Pt.t,Pt.net,Pt.d1,Pt.d2,Pt.d3] at z ⊢
 subst hM1
 exact ⟨by decide,Nat.lt_trans hl (by decide),z⟩
structure Tn (M:Mem) (L:Addr) (x y z:Pt):Prop where
 ox:PtOk x
 oy:PtOk y
 oz:PtOk z
 mx:M x.a=some (.lst x.net)
 my:M y.a=some (.lst y.net)
 mz:M z.a=some (.lst z.net)
 lx:L≠x.a
 ly:L≠y.a
 lz:L≠z.a
 xz:z.a=x.a→z.c=x.c
 xy:y.a≠x.a
theorem rg4:rangeT 0 4=[.int 0,.int 1,.int 2,.int 3]:=rfl
theorem at20 {a b:T}:atI [a,b] 0=some a:=rfl
theorem at21 {a b:T}:atI [a,b] 1=some b:=rfl
theorem at40 {a b c d:T}:atI [a,b,c,d] 0=some a:=rfl
theorem at41 {a b c d:T}:atI [a,b,c,d] 1=some b:=rfl
theorem at42 {a b c d:T}:atI [a,b,c,d] 2=some c:=rfl
theorem at43 {a b c d:T}:atI [a,b,c,d] 3=some d:=rfl
theorem third {L:Addr} {x y:Pt} {r:Int} (h0:0≤r) (h1:r<5) (hx:PtOk x) (hy:PtOk y) (mx:M x.a=some (.lst x.net)) (my:M y.a=some (.lst y.net)) (lx:L≠x.a) (ly:L≠y.a) (xy:y.a≠x.a) (hM:M L=some (.lst [x.t,y.t]))
 (h:∀z M',Tn M' L x y z→M' L=some (.lst [x.t,y.t,z.t])→N.nx (st p s2 (.val (.ref L)) s4 s5 s6 s7 s8 (.val (.int r)) s10 s11 s12 s13 s14 s15) M'):
 law_1b_4 C p N (st p s2 (.val (.ref L)) s4 s5 s6 s7 s8 (.val (.int r)) s10 s11 s12 s13 s14 s15) M:=by
 have k:∀z:Pt,PtOk z→((z.a=x.a∧z.c=x.c)∨(z.a=y.a∧z.c=y.c))→N.nx (st p s2 (.val (.ref L)) s4 s5 s6 s7 s8 (.val (.int r)) s10 s11 s12 s13 s14 s15) (mset M L (some (.lst [x.t,y.t,z.t]))):=by
  intro z hz e
  have nz:L≠z.a:=by rcases e with ⟨e,_⟩ | ⟨e,_⟩<;>rw [e]<;>assumption
  refine h z _ ⟨hx,hy,hz,by rw [mset_ne lx.symm];exact mx,by rw [mset_ne ly.symm];exact my, ?_,lx,ly,nz, ?_,xy⟩ mset_same
  · rw [mset_ne nz.symm]
    rcases e with ⟨e,f⟩ | ⟨e,f⟩
    · rw [e,mx];unfold Pt.net;rw [f]
    · rw [e,my];unfold Pt.net;rw [f]
  · intro q
    rcases e with ⟨e,f⟩ | ⟨e,f⟩
    · exact f
    · exact absurd (e.symm.trans q) xy
 have hc:cellL M L=some [x.t,y.t]:=by unfold cellL;rw [hM];rfl
 have fin:(3:Nat)<sizeLine:=by decide
 have f2:(2:Nat)<sizeLine:=by decide
 have f1:(1:Nat)<sizeLine:=by decide
 have f0:(0:Nat)<sizeLine:=by decide
 unfold law_1b_4
 rcases (show r=0∨r=1∨r=2∨r=3∨r=4 by omega) with rfl | rfl | rfl | rfl | rfl
 · have w:=k ⟨y.a,y.c,x.i,x.j,x.r,x.m⟩ ⟨hy.c,hx.i,hx.j,hx.r,hx.m⟩ (.inr ⟨rfl,rfl⟩)
   simp [drop4,app4,pu,seq3,next3,ret3,retN3,ifs3,drop3,asg3,name3,tst3,and3,or3,not3,andV3,orV3,notV3,if3,v3,k3,op3,un3,nil3,cons3,call3,tup3,lst3,chain3,fn30,fn3,fnN30,fnN3,fnP30,i2,i2c,i1,isN3,notN3,eqS3,neS3,ixL3,ixT3,len3,all3,any3,abs3,max23,min23,isi3,isB3,truth3,start3,slot,flatT,scal,tyn,M3.isNon,lenT,truT,isiB,Option.bind,take3,kbs,addP,mulP,ixP,slP,eqP,neP,isSeq,iterP,itemsP,no3,part3,sl3,raise3,brk3,cont3,M3.ltP,M3.leP,M3.gtP,M3.geP,asR,hc,lc4,iterR3,one,asI,rg4,comp4,wipe3,op4,ixC4,int13,toI,asN,yes3,at20,at21,at40,at41,at42,at43,Pt.t,Pt.d1,Pt.d2,Pt.d3,f0,f1,f2,fin] at w ⊢
   exact w
 · have w:=k ⟨x.a,x.c,y.i,y.j,x.r,x.m⟩ ⟨hx.c,hy.i,hy.j,hx.r,hx.m⟩ (.inl ⟨rfl,rfl⟩)
   simp [drop4,app4,pu,seq3,next3,ret3,retN3,ifs3,drop3,asg3,name3,tst3,and3,or3,not3,andV3,orV3,notV3,if3,v3,k3,op3,un3,nil3,cons3,call3,tup3,lst3,chain3,fn30,fn3,fnN30,fnN3,fnP30,i2,i2c,i1,isN3,notN3,eqS3,neS3,ixL3,ixT3,len3,all3,any3,abs3,max23,min23,isi3,isB3,truth3,start3,slot,flatT,scal,tyn,M3.isNon,lenT,truT,isiB,Option.bind,take3,kbs,addP,mulP,ixP,slP,eqP,neP,isSeq,iterP,itemsP,no3,part3,sl3,raise3,brk3,cont3,M3.ltP,M3.leP,M3.gtP,M3.geP,asR,hc,lc4,iterR3,one,asI,rg4,comp4,wipe3,op4,ixC4,int13,toI,asN,yes3,at20,at21,at40,at41,at42,at43,Pt.t,Pt.d1,Pt.d2,Pt.d3,f0,f1,f2,fin] at w ⊢
   exact w
 · have w:=k ⟨x.a,x.c,x.i,x.j,y.r,x.m⟩ ⟨hx.c,hx.i,hx.j,hy.r,hx.m⟩ (.inl ⟨rfl,rfl⟩)
   simp [drop4,app4,pu,seq3,next3,ret3,retN3,ifs3,drop3,asg3,name3,tst3,and3,or3,not3,andV3,orV3,notV3,if3,v3,k3,op3,un3,nil3,cons3,call3,tup3,lst3,chain3,fn30,fn3,fnN30,fnN3,fnP30,i2,i2c,i1,isN3,notN3,eqS3,neS3,ixL3,ixT3,len3,all3,any3,abs3,max23,min23,isi3,isB3,truth3,start3,slot,flatT,scal,tyn,M3.isNon,lenT,truT,isiB,Option.bind,take3,kbs,addP,mulP,ixP,slP,eqP,neP,isSeq,iterP,itemsP,no3,part3,sl3,raise3,brk3,cont3,M3.ltP,M3.leP,M3.gtP,M3.geP,asR,hc,lc4,iterR3,one,asI,rg4,comp4,wipe3,op4,ixC4,int13,toI,asN,yes3,at20,at21,at40,at41,at42,at43,Pt.t,Pt.d1,Pt.d2,Pt.d3,f0,f1,f2,fin] at w ⊢
   exact w
 · have w:=k ⟨x.a,x.c,x.i,x.j,x.r,y.m⟩ ⟨hx.c,hx.i,hx.j,hx.r,hy.m⟩ (.inl ⟨rfl,rfl⟩)
   simp [drop4,app4,pu,seq3,next3,ret3,retN3,ifs3,drop3,asg3,name3,tst3,and3,or3,not3,andV3,orV3,notV3,if3,v3,k3,op3,un3,nil3,cons3,call3,tup3,lst3,chain3,fn30,fn3,fnN30,fnN3,fnP30,i2,i2c,i1,isN3,notN3,eqS3,neS3,ixL3,ixT3,len3,all3,any3,abs3,max23,min23,isi3,isB3,truth3,start3,slot,flatT,scal,tyn,M3.isNon,lenT,truT,isiB,Option.bind,take3,kbs,addP,mulP,ixP,slP,eqP,neP,isSeq,iterP,itemsP,no3,part3,sl3,raise3,brk3,cont3,M3.ltP,M3.leP,M3.gtP,M3.geP,asR,hc,lc4,iterR3,one,asI,rg4,comp4,wipe3,op4,ixC4,int13,toI,asN,yes3,at20,at21,at40,at41,at42,at43,Pt.t,Pt.d1,Pt.d2,Pt.d3,f0,f1,f2,fin] at w ⊢
   exact w
 · have w:=k ⟨x.a,x.c,x.i,x.j,x.r,x.m⟩ ⟨hx.c,hx.i,hx.j,hx.r,hx.m⟩ (.inl ⟨rfl,rfl⟩)
   simp [drop4,app4,pu,seq3,next3,ret3,retN3,ifs3,drop3,asg3,name3,tst3,and3,or3,not3,andV3,orV3,notV3,if3,v3,k3,op3,un3,nil3,cons3,call3,tup3,lst3,chain3,fn30,fn3,fnN30,fnN3,fnP30,i2,i2c,i1,isN3,notN3,eqS3,neS3,ixL3,ixT3,len3,all3,any3,abs3,max23,min23,isi3,isB3,truth3,start3,slot,flatT,scal,tyn,M3.isNon,lenT,truT,isiB,Option.bind,take3,kbs,addP,mulP,ixP,slP,eqP,neP,isSeq,iterP,itemsP,no3,part3,sl3,raise3,brk3,cont3,M3.ltP,M3.leP,M3.gtP,M3.geP,asR,hc,lc4,iterR3,one,asI,rg4,comp4,wipe3,op4,ixC4,int13,toI,asN,yes3,at20,at21,at40,at41,at42,at43,Pt.t,Pt.d1,Pt.d2,Pt.d3,f0,f1,f2,fin] at w ⊢
   exact w
theorem seen_0 (e:See) (M:Mem) (d:T):seen e M 0 d=d:=by cases d<;>rfl
abbrev eL:See:=⟨true,false,[]⟩
def insR (C:Cs) (x:Pt):T:=insT C (.ref x.a) x.d1 x.d2 x.d3
theorem seen_pt {x:Pt} {xs:List T} (h:M x.a=some (.lst xs)):seen eL M 2 x.t= .lst [.lst xs,x.d1,x.d2,x.d3]:=by
 have e:seen eL M 1 (.ref x.a)= .lst xs:=by
  show seeO _ x.a (seen _ M 0) (M x.a)=_
  rw [h]
  show T.lst (xs.map (seen _ M 0))=_
  rw [List.map_congr_left (g:=id) fun y _=>seen_0 _ _ y,List.map_id]
 have e2:seen eL M 1 x.d2=x.d2:=by
  unfold Pt.d2
  cases x.r with
  | none=>rfl
  | some i=>show T.lst [seen _ M 0 _]=_;rw [seen_0];rfl
 show T.lst [seen eL M 1 (.ref x.a),seen eL M 1 x.d1,seen eL M 1 x.d2,seen eL M 1 x.d3]=_
 rw [e,e2]
 rfl
theorem seen_ins {x:Pt} {xs:List T} (h:M x.a=some (.lst xs)):seen eL M 2 (insR C x)=insT C (.lst xs) x.d1 x.d2 x.d3:=by
 have e:seen eL M 1 (.ref x.a)= .lst xs:=by
  show seeO _ x.a (seen _ M 0) (M x.a)=_
  rw [h]
  show T.lst (xs.map (seen _ M 0))=_
  rw [List.map_congr_left (g:=id) fun y _=>seen_0 _ _ y,List.map_id]
 have e2:seen eL M 1 x.d2=x.d2:=by
  unfold Pt.d2
  cases x.r with
  | none=>rfl
  | some i=>show T.lst [seen _ M 0 _]=_;rw [seen_0];rfl
 show T.ins (C.at_ "Answer") [("net",seen eL M 1 (.ref x.a)),("counts",seen eL M 1 x.d1),("followed",seen eL M 1 x.d2),("changes",seen eL M 1 x.d3)]=_
 rw [e,e2]
 rfl
abbrev made (C:Cs) (x y z:Pt):Sl:=.val (.lst [insR C x,insR C y,insR C z])
abbrev parts (x y z:Pt):Sl:=.val (.lst [x.t,y.t,z.t])
theorem selfs {x:Pt} (o:PtOk x):EqB 2 (.lst x.net) (.lst x.net) true∧EqB 2 x.d1 x.d1 true∧EqB 2 x.d2 x.d2 true∧EqB 2 x.d3 x.d3 true:=
 ⟨sf_dat (dat_net o.c).1 (dat_net o.c).2,sf_dic (nd_tally _ _) (dat_tally _ _),sf_dat (dat_came _).1 (dat_came _).2,sf_dic (nd_moved _) (dat_moved _)⟩
theorem w5 {L:Addr} {x y z:Pt} (hM:M L=some (.lst [x.t,y.t,z.t]))
 (h:N.nx (st p s2 (parts x y z) s4 s5 s6 s7 s8 s9 (made C x y z) s11 .no .no .no .no) (mset M L none)):
 law_1b_5 C p N (st p s2 (.val (.ref L)) s4 s5 s6 s7 s8 s9 s10 s11 .no .no .no .no) M:=by
 have hc:cellL M L=some [x.t,y.t,z.t]:=by unfold cellL;rw [hM];rfl
 have ai:=fun (a b c d:T) (Q:T→Prop) (X:X3) (q:Q (insT C a b c d))=>answer_init (C:=C) (X:=X) q
 have f2:(2:Nat)<sizeLine:=by decide
 have f1:(1:Nat)<sizeLine:=by decide
 have f0:(0:Nat)<sizeLine:=by decide
 unfold law_1b_5
 simp [frz4,thaw4,hc,asg4,pu,lc3,seq3,next3,ret3,retN3,ifs3,drop3,asg3,name3,tst3,and3,or3,not3,andV3,orV3,notV3,if3,v3,k3,op3,un3,nil3,cons3,call3,tup3,lst3,chain3,fn30,fn3,fnN30,fnN3,fnP30,i2,i2c,i1,isN3,notN3,eqS3,neS3,ixL3,ixT3,len3,all3,any3,abs3,max23,min23,isi3,isB3,truth3,start3,slot,flatT,scal,tyn,M3.isNon,lenT,truT,isiB,Option.bind,take3,kbs,addP,mulP,ixP,slP,eqP,neP,isSeq,iterP,itemsP,no3,part3,sl3,raise3,brk3,cont3,M3.ltP,M3.leP,M3.gtP,M3.geP,comp3,wipe3,glst3,gcons3,gnil3,asL,yes3,mkN30,sel,Pt.t]
 refine ⟨fun i hi t=> ?_,ai _ _ _ _ _ _ ?_⟩
 · simp only [List.mem_cons,List.not_mem_nil,or_false] at hi
   rcases hi with rfl | rfl | rfl | rfl<;>simp
 refine ⟨f0,ai _ _ _ _ _ _ ?_⟩
 refine ⟨f1,ai _ _ _ _ _ _ ?_⟩
 exact ⟨f2,h⟩
theorem w6 {x y z:Pt} (h:N.nx (st p s2 s3 s4 s5 s6 s7 s8 s9 (made C x y z) (.val (.lst [.ref x.a,x.d1,x.d2,x.d3])) s12 s13 s14 s15) M):law_1b_6 C p N (st p s2 s3 s4 s5 s6 s7 s8 s9 (made C x y z) s11 s12 s13 s14 s15) M:=by
 have f4:(4:Nat)≤sizeLine:=by decide
 have a0:∀a b c:T,atI [a,b,c] 0=some a:=fun _ _ _=>rfl
 unfold law_1b_6
 simp [asg4,pu,seq3,next3,ret3,retN3,ifs3,drop3,asg3,name3,tst3,and3,or3,not3,andV3,orV3,notV3,if3,v3,k3,op3,un3,nil3,cons3,call3,tup3,lst3,chain3,fn30,fn3,fnN30,fnN3,fnP30,i2,i2c,i1,isN3,notN3,eqS3,neS3,ixL3,ixT3,len3,all3,any3,abs3,max23,min23,isi3,isB3,truth3,start3,slot,flatT,scal,tyn,M3.isNon,lenT,truT,isiB,Option.bind,take3,kbs,addP,mulP,ixP,slP,eqP,neP,isSeq,iterP,itemsP,no3,part3,sl3,raise3,brk3,cont3,M3.ltP,M3.leP,M3.gtP,M3.geP,fld3,asIns,a0,f4,insR,insT,List.lookup,n1,n2,n3,n4,n5,n6]
 exact h
theorem seen_found {x:Pt} (h:M x.a=some (.lst x.net)):seen eL M 3 (.lst [.ref x.a,x.d1,x.d2,x.d3])= .lst [.lst x.net,x.d1,x.d2,x.d3]:=by
 have e:seen eL M 2 (.ref x.a)= .lst x.net:=by
  show seeO _ x.a (seen _ M 1) (M x.a)=_
  rw [h]
  show T.lst (x.net.map (seen _ M 1))=_
  unfold Pt.net
  cases x.c<;>rfl
 have e2:seen eL M 2 x.d2=x.d2:=by
  unfold Pt.d2
  cases x.r<;>rfl
 show T.lst [seen eL M 2 (.ref x.a),seen eL M 2 x.d1,seen eL M 2 x.d2,seen eL M 2 x.d3]=_
 rw [e,e2]
 rfl
theorem not4_:(!(true&&(true&&(true&&true))))=false:=rfl
theorem nf:¬(false=true):=by decide
theorem ob_bl {b:Bool} {f:Bool→Prop}:ob (asB (.bl b)) f=f b:=rfl
theorem dat_items {c:Option T} (h:∀x,c=some x→isCellTree x):∀t∈netT c++[zz],Dat t:=by
 have z:Dat zz:=.of (d:=.tuple [.str "z",.list [],.list []]) rfl (shaped_of (by simp [PyData.canLay0,PyData.canLayAll0,ok_a,ok_r,ok_z]) (by simp [PyData.depth,PyData.depthAll]))
 intro t ht
 rcases List.mem_append.mp ht with ht | ht
 · cases c with
   | none=>cases ht
   | some x=>
     cases List.mem_singleton.mp ht
     rcases h x rfl with rfl | ⟨i,rfl,_⟩
     · exact .of (d:=.tuple [.str "a",.list [.tuple [.none]],.list []]) rfl (shaped_of (by simp [PyData.canLay0,PyData.canLayAll0,ok_a,ok_r,ok_z]) (by simp [PyData.depth,PyData.depthAll]))
     · exact .of (d:=.tuple [.str "a",.list [.tuple [.int i]],.list []]) rfl (shaped_of (by simp [PyData.canLay0,PyData.canLayAll0,ok_a,ok_r,ok_z]) (by simp [PyData.depth,PyData.depthAll]))
 · cases List.mem_singleton.mp ht
   exact z
theorem ne_self {xs:List T} (h:∀t∈xs,Dat t) {Q:T→Prop} (q:Q (.bl false)):neB3 (.lst xs) (.lst xs) Q:=by
 show ob (some xs) _
 rw [ob_some]
 show ob (some xs) _
 rw [ob_some]
 refine ⟨2,fun _=>true,by decide,rfl,fun i x y hx hy=> ?_, ?_⟩
 · rw [hx] at hy
   cases hy
   have d:=h x (List.mem_of_getElem? hx)
   exact sf_dat d.1 d.2
 · have:((List.range xs.length).all fun _=>true)=true:=by simp
   rw [this]
   exact q
theorem neP_bl {b:Bool} {Q:T→Prop}:neP (.bl b) (.bl b) Q=Q (.bl false):=by
 cases b<;>simp [neP,isSeq,neS3,scal,flatT]
theorem w7 {L:Addr} {x y z:Pt} (t:Tn M L x y z) (h:N.nx (st p s2 (parts x y z) s4 s5 s6 s7 s8 s9 (made C x y z) (.val (.lst [.ref x.a,x.d1,x.d2,x.d3])) s12 s13 s14 s15) M):law_1b_7 C p N (st p s2 (parts x y z) s4 s5 s6 s7 s8 s9 (made C x y z) (.val (.lst [.ref x.a,x.d1,x.d2,x.d3])) s12 s13 s14 s15) M:=by
 have a0:∀a b c:T,atI [a,b,c] 0=some a:=fun _ _ _=>rfl
 have vw:vwS ⟨true,false,[]⟩ 3 M [11,3,10] (st p s2 (parts x y z) s4 s5 s6 s7 s8 s9 (made C x y z) (.val (.lst [.ref x.a,x.d1,x.d2,x.d3])) s12 s13 s14 s15)=st p s2 (.val (.lst [seen eL M 2 x.t,seen eL M 2 y.t,seen eL M 2 z.t])) s4 s5 s6 s7 s8 s9 (.val (.lst [seen eL M 2 (insR C x),seen eL M 2 (insR C y),seen eL M 2 (insR C z)])) (.val (seen eL M 3 (.lst [.ref x.a,x.d1,x.d2,x.d3]))) s12 s13 s14 s15:=rfl
 unfold law_1b_7
 generalize law_1b_7t_1 C p=B
 unfold ifs4 vwKB4
 rw [vw]
 rw [seen_found t.mx,seen_pt t.mx,seen_ins t.mx]
 simp [seq3,next3,ret3,retN3,ifs3,drop3,asg3,name3,tst3,and3,or3,not3,andV3,orV3,notV3,if3,v3,k3,op3,un3,nil3,cons3,call3,tup3,lst3,chain3,fn30,fn3,fnN30,fnN3,fnP30,i2,i2c,i1,isN3,notN3,eqS3,neS3,ixL3,ixT3,len3,all3,any3,abs3,max23,min23,isi3,isB3,truth3,start3,slot,flatT,scal,tyn,M3.isNon,lenT,truT,isiB,Option.bind,take3,kbs,addP,mulP,ixP,slP,eqP,neP,isSeq,iterP,itemsP,no3,part3,sl3,raise3,brk3,cont3,M3.ltP,M3.leP,M3.gtP,M3.geP,a0]
 obtain ⟨g0,g1,g2,g3⟩:=selfs t.ox
 refine ne4 g0 g1 g2 g3 ?_
 rw [not4_,ob_bl,if_neg nf]
 refine ⟨rfl,rfl,answer_lst ?_⟩
 rw [ob_bl]
 dsimp only
 rw [ob_bl,if_neg nf]
 exact h
theorem w8 {L:Addr} {x y z:Pt} (t:Tn M L x y z) (h:N.nx (st p s2 (parts x y z) s4 s5 s6 s7 s8 s9 s10 s11 s12 s13 s14 s15) (mset M x.a (some (.lst (x.net++[zz]))))):law_1b_8 C p N (st p s2 (parts x y z) s4 s5 s6 s7 s8 s9 s10 s11 s12 s13 s14 s15) M:=by
 have a0:∀a b c:T,atI [a,b,c] 0=some a:=fun _ _ _=>rfl
 have hc:cellL M x.a=some x.net:=by unfold cellL;rw [t.mx];rfl
 have nl:x.net.length<sizeLine:=by
  unfold Pt.net
  cases x.c
  · show 0<sizeLine;decide
  · show 1<sizeLine;decide
 have f3:(3:Nat)≤sizeLine:=by decide
 unfold law_1b_8
 simp [drop4,app4,pu,seq3,next3,ret3,retN3,ifs3,drop3,asg3,name3,tst3,and3,or3,not3,andV3,orV3,notV3,if3,v3,k3,op3,un3,nil3,cons3,call3,tup3,lst3,chain3,fn30,fn3,fnN30,fnN3,fnP30,i2,i2c,i1,isN3,notN3,eqS3,neS3,ixL3,ixT3,len3,all3,any3,abs3,max23,min23,isi3,isB3,truth3,start3,slot,flatT,scal,tyn,M3.isNon,lenT,truT,isiB,Option.bind,take3,kbs,addP,mulP,ixP,slP,eqP,neP,isSeq,iterP,itemsP,no3,part3,sl3,raise3,brk3,cont3,M3.ltP,M3.leP,M3.gtP,M3.geP,a0,at40,Pt.t,asR,hc,nl,f3]
 exact h
theorem w9 {x y z:Pt} (ox:PtOk x) (hx:M x.a=some (.lst (x.net++[zz]))) (h:N.nx (st p s2 (parts x y z) s4 s5 s6 s7 s8 s9 (made C x y z) s11 s12 s13 s14 s15) M):law_1b_9 C p N (st p s2 (parts x y z) s4 s5 s6 s7 s8 s9 (made C x y z) s11 s12 s13 s14 s15) M:=by
 have a0:∀a b c:T,atI [a,b,c] 0=some a:=fun _ _ _=>rfl
 have vw:vwS ⟨true,false,[]⟩ 3 M [3,10] (st p s2 (parts x y z) s4 s5 s6 s7 s8 s9 (made C x y z) s11 s12 s13 s14 s15)=st p s2 (.val (.lst [seen eL M 2 x.t,seen eL M 2 y.t,seen eL M 2 z.t])) s4 s5 s6 s7 s8 s9 (.val (.lst [seen eL M 2 (insR C x),seen eL M 2 (insR C y),seen eL M 2 (insR C z)])) s11 s12 s13 s14 s15:=rfl
 unfold law_1b_9
 generalize law_1b_9t_1 C p=B
 unfold ifs4 vwKB4
 rw [vw]
 rw [seen_pt hx,seen_ins hx]
 simp [seq3,next3,ret3,retN3,ifs3,drop3,asg3,name3,tst3,and3,or3,not3,andV3,orV3,notV3,if3,v3,k3,op3,un3,nil3,cons3,call3,tup3,lst3,chain3,fn30,fn3,fnN30,fnN3,fnP30,i2,i2c,i1,isN3,notN3,eqS3,neS3,ixL3,ixT3,len3,all3,any3,abs3,max23,min23,isi3,isB3,truth3,start3,slot,flatT,scal,tyn,M3.isNon,lenT,truT,isiB,Option.bind,take3,kbs,addP,mulP,ixP,slP,eqP,neP,isSeq,iterP,itemsP,no3,part3,sl3,raise3,brk3,cont3,M3.ltP,M3.leP,M3.gtP,M3.geP,a0,at40,fld3,asIns,insT,List.lookup]
 refine ne_self (dat_items ox.c) ?_
 rw [ob_bl,if_neg nf]
 exact h
theorem w10 {x y z:Pt} (hx:M x.a=some (.lst (x.net++[zz]))) (h:N.nx (st p s2 (parts x y z) s4 s5 s6 s7 s8 s9 s10 s11 s12 s13 s14 s15) (mset M x.a (some (.lst x.net)))):law_1b_10 C p N (st p s2 (parts x y z) s4 s5 s6 s7 s8 s9 s10 s11 s12 s13 s14 s15) M:=by
 have a0:∀a b c:T,atI [a,b,c] 0=some a:=fun _ _ _=>rfl
 have hc:cellL M x.a=some (x.net++[zz]):=by unfold cellL;rw [hx];rfl
 unfold law_1b_10
 simp [drop4,popL4,pu,seq3,next3,ret3,retN3,ifs3,drop3,asg3,name3,tst3,and3,or3,not3,andV3,orV3,notV3,if3,v3,k3,op3,un3,nil3,cons3,call3,tup3,lst3,chain3,fn30,fn3,fnN30,fnN3,fnP30,i2,i2c,i1,isN3,notN3,eqS3,neS3,ixL3,ixT3,len3,all3,any3,abs3,max23,min23,isi3,isB3,truth3,start3,slot,flatT,scal,tyn,M3.isNon,lenT,truT,isiB,Option.bind,take3,kbs,addP,mulP,ixP,slP,eqP,neP,isSeq,iterP,itemsP,no3,part3,sl3,raise3,brk3,cont3,M3.ltP,M3.leP,M3.gtP,M3.geP,a0,at40,Pt.t,asR,hc]
 exact h
theorem ask {x y z w:Pt} {k:Int} (ox:PtOk x) (ow:PtOk w) (mx:M x.a=some (.lst x.net)) (mw:M w.a=some (.lst w.net))
 (e1:atI [seen eL M 2 x.t,seen eL M 2 y.t,seen eL M 2 z.t] k=some (seen eL M 2 w.t))
 (e2:atI [seen eL M 2 (insR C x),seen eL M 2 (insR C y),seen eL M 2 (insR C z)] k=some (seen eL M 2 (insR C w)))
 (h:N.nx (st p s2 (parts x y z) (.val (.int k)) s5 s6 s7 s8 s9 (made C x y z) s11 s12 s13 s14 s15) M):law_1b_11b C p N (st p s2 (parts x y z) (.val (.int k)) s5 s6 s7 s8 s9 (made C x y z) s11 s12 s13 s14 s15) M:=by
 have a0:∀a b c:T,atI [a,b,c] 0=some a:=fun _ _ _=>rfl
 have vw:vwS ⟨true,false,[]⟩ 3 M [3,10] (st p s2 (parts x y z) (.val (.int k)) s5 s6 s7 s8 s9 (made C x y z) s11 s12 s13 s14 s15)=st p s2 (.val (.lst [seen eL M 2 x.t,seen eL M 2 y.t,seen eL M 2 z.t])) (.val (.int k)) s5 s6 s7 s8 s9 (.val (.lst [seen eL M 2 (insR C x),seen eL M 2 (insR C y),seen eL M 2 (insR C z)])) s11 s12 s13 s14 s15:=rfl
 obtain ⟨b0,b1,b2,b3,g0,g1,g2,g3⟩:=lk_parts ox ow
 unfold law_1b_11b law_1b_11b_1
 generalize law_1b_11b_1t_1 C p=B
 unfold ifs4 vwKB4
 rw [vw]
 simp only [or3,tst3,op3,v3,k3,slot,List.getElem?_cons_succ,List.getElem?_cons_zero,ob_some,ixP,a0,e1,e2]
 rw [seen_pt mx,seen_pt mw,seen_ins mx,seen_ins mw]
 have q1:=fun (Q:T→Prop) (q:Q (.bl (b0&&(b1&&(b2&&b3)))))=>(eq4 g0.1 g1.1 g2.1 g3.1 q).1
 have q2:=fun (Q:T→Prop) (q:Q (.bl (!(b0&&(b1&&(b2&&b3))))))=>ne4 g0.1 g1.1 g2.1 g3.1 q
 have q3:=fun (Q:T→Prop) (X:X3) (q:Q (.bl (b0&&(b1&&(b2&&b3)))))=>answer_eq (C:=C) (X:=X) g0.1 g1.1 g2.1 g3.1 q
 have q4:=fun (Q:T→Prop) (X:X3) (q:Q (.bl (b0&&(b1&&(b2&&b3)))))=>answer_eq (C:=C) (X:=X) g0.2 g1.2 g2.2 g3.2 q
 generalize (b0&&(b1&&(b2&&b3)))=b at q1 q2 q3 q4
 refine ⟨rfl,by simp [insT,sideT],q3 _ _ ?_⟩
 rw [ob_bl]
 refine q1 _ ?_
 rw [neP_bl]
 rw [ob_bl,if_neg nf]
 refine ⟨rfl,by simp [insT,sideT],q4 _ _ ?_⟩
 rw [ob_bl]
 refine q2 _ ?_
 rw [neP_bl]
 rw [ob_bl,if_neg nf]
 exact h
theorem rg3:rangeT 0 3=[.int 0,.int 1,.int 2]:=rfl
theorem rg2:rangeT 0 2=[.int 0,.int 1]:=rfl
theorem w11 {L:Addr} {x y z:Pt} (t:Tn M L x y z) (h:∀s4,N.nx (st p s2 (parts x y z) s4 s5 s6 s7 s8 s9 (made C x y z) s11 s12 s13 s14 s15) M):law_1b_11 C p N (st p s2 (parts x y z) s4 s5 s6 s7 s8 s9 (made C x y z) s11 s12 s13 s14 s15) M:=by
 unfold law_1b_11
 have a:=fun (N:N4)=>ask (C:=C) (p:=p) (N:=N) (M:=M) (s2:=s2) (s5:=s5) (s6:=s6) (s7:=s7) (s8:=s8) (s9:=s9) (s11:=s11) (s12:=s12) (s13:=s13) (s14:=s14) (s15:=s15) (x:=x) (y:=y) (z:=z) (w:=x) (k:=0) t.ox t.ox t.mx t.mx rfl rfl
 have b:=fun (N:N4)=>ask (C:=C) (p:=p) (N:=N) (M:=M) (s2:=s2) (s5:=s5) (s6:=s6) (s7:=s7) (s8:=s8) (s9:=s9) (s11:=s11) (s12:=s12) (s13:=s13) (s14:=s14) (s15:=s15) (x:=x) (y:=y) (z:=z) (w:=y) (k:=1) t.ox t.oy t.mx t.my rfl rfl
 have c:=fun (N:N4)=>ask (C:=C) (p:=p) (N:=N) (M:=M) (s2:=s2) (s5:=s5) (s6:=s6) (s7:=s7) (s8:=s8) (s9:=s9) (s11:=s11) (s12:=s12) (s13:=s13) (s14:=s14) (s15:=s15) (x:=x) (y:=y) (z:=z) (w:=z) (k:=2) t.ox t.oz t.mx t.mz rfl rfl
 generalize law_1b_11b C p=B at a b c
 have e:for4 (iterR3 (cons3 (k3 (.int 3)) nil3)) (name3 4) B N (st p s2 (parts x y z) s4 s5 s6 s7 s8 s9 (made C x y z) s11 s12 s13 s14 s15) M=loop4 (name3 4) B N [.int 0,.int 1,.int 2] (st p s2 (parts x y z) s4 s5 s6 s7 s8 s9 (made C x y z) s11 s12 s13 s14 s15) M:=by
  simp [for4,iterR3,cons3,nil3,k3,one,asI,rg3]
 rw [e,lp4_cons]
 refine a _ ?_
 dsimp only
 rw [lp4_cons]
 refine b _ ?_
 dsimp only
 rw [lp4_cons]
 refine c _ ?_
 exact h _
theorem w2 {L:Addr} (hM:M L=some (.lst [])) (h:∀(x y:Pt) s4 s5 s6 s7 s8 M',PtOk x→PtOk y→M' x.a=some (.lst x.net)→M' y.a=some (.lst y.net)→L≠x.a→L≠y.a→y.a≠x.a→M' L=some (.lst [x.t,y.t])→N.nx (st p s2 (.val (.ref L)) s4 s5 s6 s7 s8 s9 s10 s11 s12 s13 s14 s15) M'):
 law_1b_2 C p N (st p s2 (.val (.ref L)) s4 s5 s6 s7 s8 s9 s10 s11 s12 s13 s14 s15) M:=by
 unfold law_1b_2
 have a:=fun (N:N4) (M:Mem) (xs:List T) s4 s5 s6 s7 s8=>part_step (C:=C) (p:=p) (N:=N) (M:=M) (s2:=s2) (s4:=s4) (s5:=s5) (s6:=s6) (s7:=s7) (s8:=s8) (s9:=s9) (s10:=s10) (s11:=s11) (s12:=s12) (s13:=s13) (s14:=s14) (s15:=s15) (L:=L) (xs:=xs)
 generalize law_1b_2b C p=B at a
 have e:for4 (iterR3 (cons3 (k3 (.int 2)) nil3)) (name3 4) B N (st p s2 (.val (.ref L)) s4 s5 s6 s7 s8 s9 s10 s11 s12 s13 s14 s15) M=loop4 (name3 4) B N [.int 0,.int 1] (st p s2 (.val (.ref L)) s4 s5 s6 s7 s8 s9 s10 s11 s12 s13 s14 s15) M:=by
  simp [for4,iterR3,cons3,nil3,k3,one,asI,rg2]
 rw [e,lp4_cons]
 refine a _ _ _ _ _ _ _ _ hM (by decide) fun x t5 t6 t7 t8 M1 hx ax e1=> ?_
 dsimp only
 rw [lp4_cons]
 have lx:L≠x.a:=fun z=>by rw [←z,hM] at ax;cases ax
 have hM1:M1 L=some (.lst [x.t]):=by rw [e1,mset_same];rfl
 have mx1:M1 x.a=some (.lst x.net):=by rw [e1,mset_ne lx.symm,mset_same]
 refine a _ _ _ _ _ _ _ _ hM1 (by show 1<10;decide) fun y u5 u6 u7 u8 M2 hy ay e2=> ?_
 have ly:L≠y.a:=fun z=>by rw [←z,hM1] at ay;cases ay
 have xy:y.a≠x.a:=fun z=>by rw [z,mx1] at ay;cases ay
 exact h x y _ _ _ _ _ M2 hx hy (by rw [e2,mset_ne lx.symm,mset_ne xy.symm];exact mx1) (by rw [e2,mset_ne ly.symm,mset_same]) lx ly xy (by rw [e2,mset_same];rfl)
theorem turn (h:∀s3 s4 s5 s6 s7 s8 s9 s10 s11 M',N.nx (st p s2 s3 s4 s5 s6 s7 s8 s9 s10 s11 .no .no .no .no) M'):law_1b C p N (st p s2 s3 s4 s5 s6 s7 s8 s9 s10 s11 .no .no .no .no) M:=by
 unfold law_1b
 refine sq4_of ?_
 have t1:∀N:N4,(∀L M',M' L=some (.lst [])→N.nx (st p s2 (.val (.ref L)) s4 s5 s6 s7 s8 s9 s10 s11 .no .no .no .no) M')→law_1b_1 C p N (st p s2 s3 s4 s5 s6 s7 s8 s9 s10 s11 .no .no .no .no) M:=fun N hN=>by
  unfold law_1b_1
  simp [asg4,newC4,seq3,next3,ret3,retN3,ifs3,drop3,asg3,name3,tst3,and3,or3,not3,andV3,orV3,notV3,if3,v3,k3,op3,un3,nil3,cons3,call3,tup3,lst3,chain3,fn30,fn3,fnN30,fnN3,fnP30,i2,i2c,i1,isN3,notN3,eqS3,neS3,ixL3,ixT3,len3,all3,any3,abs3,max23,min23,isi3,isB3,truth3,start3,slot,flatT,scal,tyn,M3.isNon,lenT,truT,isiB,Option.bind,take3,kbs,addP,mulP,ixP,slP,eqP,neP,isSeq,iterP,itemsP,no3,part3,sl3,raise3,brk3,cont3,M3.ltP,M3.leP,M3.gtP,M3.geP,asL]
  exact fun L _=>hN L _ mset_same
 refine t1 _ fun L M1 hL=> ?_
 dsimp only
 refine sq4_of (w2 hL fun x y s4 s5 s6 s7 s8 M2 hx hy mx my lx ly xy hM2=> ?_)
 dsimp only
 refine sq4_of ?_
 have t3:∀N:N4,(∀r:Int,0≤r→r<5→N.nx (st p s2 (.val (.ref L)) s4 s5 s6 s7 s8 (.val (.int r)) s10 s11 .no .no .no .no) M2)→law_1b_3 C p N (st p s2 (.val (.ref L)) s4 s5 s6 s7 s8 s9 s10 s11 .no .no .no .no) M2:=fun N hN=>by
  unfold law_1b_3
  simp [asg4,pu,seq3,next3,ret3,retN3,ifs3,drop3,asg3,name3,tst3,and3,or3,not3,andV3,orV3,notV3,if3,v3,k3,op3,un3,nil3,cons3,call3,tup3,lst3,chain3,fn30,fn3,fnN30,fnN3,fnP30,i2,i2c,i1,isN3,notN3,eqS3,neS3,ixL3,ixT3,len3,all3,any3,abs3,max23,min23,isi3,isB3,truth3,start3,slot,flatT,scal,tyn,M3.isNon,lenT,truT,isiB,Option.bind,take3,kbs,addP,mulP,ixP,slP,eqP,neP,isSeq,iterP,itemsP,no3,part3,sl3,raise3,brk3,cont3,M3.ltP,M3.leP,M3.gtP,M3.geP,fnP30]
  exact hN
 refine t3 _ fun r h0 h1=> ?_
 dsimp only
 refine sq4_of (third h0 h1 hx hy mx my lx ly xy hM2 fun z M3 t hM3=> ?_)
 dsimp only
 refine sq4_of (w5 hM3 ?_)
 have nl:∀a,L≠a→mset M3 L none a=M3 a:=fun a h=>mset_ne h.symm
 have t':Tn (mset M3 L none) L x y z:=⟨t.ox,t.oy,t.oz,by rw [nl _ t.lx];exact t.mx,by rw [nl _ t.ly];exact t.my,by rw [nl _ t.lz];exact t.mz,t.lx,t.ly,t.lz,t.xz,t.xy⟩
 generalize mset M3 L none=M4 at t'
 dsimp only
 refine sq4_of (w6 ?_)
 dsimp only
 refine sq4_of (w7 t' ?_)
 dsimp only
 refine sq4_of (w8 t' ?_)
 dsimp only
 refine sq4_of (w9 t'.ox mset_same ?_)
 dsimp only
 refine sq4_of (w10 mset_same ?_)
 have em:mset (mset M4 x.a (some (.lst (x.net++[zz])))) x.a (some (.lst x.net))=M4:=by
  funext a
  by_cases e:a=x.a
  · rw [e,mset_same,t'.mx]
  · rw [mset_ne e,mset_ne e]
 rw [em]
 dsimp only
 exact w11 t' fun s4=>h ..
end
theorem law_plain (C:Cs):Plain C:=by
 intro p
 unfold lawB
 refine sq4_of ?_
 unfold law_1
 have tn:=fun (N:N4) (M:Mem) s2 s3 s4 s5 s6 s7 s8 s9 s10 s11=>turn (C:=C) (p:=p) (N:=N) (M:=M) (s2:=s2) (s3:=s3) (s4:=s4) (s5:=s5) (s6:=s6) (s7:=s7) (s8:=s8) (s9:=s9) (s10:=s10) (s11:=s11)
 generalize law_1b C p=B at tn
 have lp:∀(ds:List T) (N:N4) (M:Mem) s2 s3 s4 s5 s6 s7 s8 s9 s10 s11,(∀s2 s3 s4 s5 s6 s7 s8 s9 s10 s11 M',N.nx (st p s2 s3 s4 s5 s6 s7 s8 s9 s10 s11 .no .no .no .no) M')→loop4 (name3 2) B N ds (st p s2 s3 s4 s5 s6 s7 s8 s9 s10 s11 .no .no .no .no) M:=by
  intro ds
  induction ds with
  | nil=>intro N M s2 s3 s4 s5 s6 s7 s8 s9 s10 s11 h;exact h ..
  | cons d ds ih=>
    intro N M s2 s3 s4 s5 s6 s7 s8 s9 s10 s11 h
    rw [lp4_cons]
    refine tn _ _ _ _ _ _ _ _ _ _ _ _ fun s3 s4 s5 s6 s7 s8 s9 s10 s11 M'=> ?_
    exact ih N M' _ _ _ _ _ _ _ _ _ _ h
 simp only [for4,iterR3,cons3,nil3,k3,one,asI,ob_some]
 refine ⟨by decide,by decide,lp _ _ _ _ _ _ _ _ _ _ _ _ _ fun s2 s3 s4 s5 s6 s7 s8 s9 s10 s11 M'=> ?_⟩
 rfl
end Law
namespace Law
open PySem L2 M3
theorem all_mk {l:PySem.W.OpenLaw} {w:World} {K:PySem.W.Frag} {h:Heap} {mg:Str→Option Value} {fa:Addr} (X:K.In h) (G:h.Ns mainGlobals mg) (hfa:mg "law"=some (.ref fa))
 {C_Answer:Addr} {f0:Addr} {od0 an0:Option Addr} {sl0:Array (Option Value)} {oc0 dc0 pm0 ct0:Value} {kV0:Value} {cd0:Value} {f1:Addr} {od1 an1:Option Addr} {sl1:Array (Option Value)} {oc1 dc1 pm1 ct1:Value} {kV1:Value} {cd1:Value} {f2:Addr} {od2 an2:Option Addr} {sl2:Array (Option Value)} {oc2 dc2 pm2 ct2:Value} {kV2:Value} {cd2:Value} {f3:Addr} {od3 an3:Option Addr} {sl3:Array (Option Value)} {oc3 dc3 pm3 ct3:Value} {kV3:Value} {cd3:Value} {f4:Addr} {od4 an4:Option Addr} {sl4:Array (Option Value)} {oc4 dc4 pm4 ct4:Value} {kV4:Value} {cd4:Value} {f5:Addr} {od5 an5:Option Addr} {sl5:Array (Option Value)} {oc5 dc5 pm5 ct5:Value} {kV5:Value} {cd5:Value}
 (ac_Answer:PySem.W.nsIn K mainGlobals "Answer"=some (some (.ref C_Answer)))
 (pg_Answer:PySem.W.plainGet K C_Answer Str.empty=true)
 (hd_Answer:PySem.W.hasDictIn K C_Answer=true)
 (po_Answer:PySem.W.plainOver K C_Answer=true)
 (sa_Answer:PySem.W.findIn K (.ref C_Answer) "__setattr__"=some (some (.builtin "object.__setattr__")))
 (mk_Answer:PySem.W.makesIn K C_Answer=true)
 (kp_Answer:PySem.W.keepIn K (.ref C_Answer)=true)
 (ka_Answer:PySem.W.findIn K (.ref C_Answer) "__class__"=some (some (.builtin "object.__class__")))
 (kn_Answer:PySem.W.specialIn K (.builtin "object.__class__") "__get__"=some (some (.builtin "getset_descriptor.__get__")))
 (kt_Answer:PySem.W.takesIn K (.builtin "object.__class__")=some true)
 (km_Answer:PySem.W.mroIn K C_Answer (.type "object")=some true)
 (kj_Answer:PySem.W.isClsIn K C_Answer=true)
 (kq_Answer:PySem.W.typeIn K (.ref C_Answer)=some (.type "type"))
 (ko_Answer_NoneType:PySem.W.subIn K (.type "NoneType") (.ref C_Answer)=some false)
 (ko_Answer_bool:PySem.W.subIn K (.type "bool") (.ref C_Answer)=some false)
 (ko_Answer_int:PySem.W.subIn K (.type "int") (.ref C_Answer)=some false)
 (ko_Answer_str:PySem.W.subIn K (.type "str") (.ref C_Answer)=some false)
 (ko_Answer_list:PySem.W.subIn K (.type "list") (.ref C_Answer)=some false)
 (ko_Answer_tuple:PySem.W.subIn K (.type "tuple") (.ref C_Answer)=some false)
 (ko_Answer_dict:PySem.W.subIn K (.type "dict") (.ref C_Answer)=some false)
 (kne_Answer:PySem.W.findIn K (.ref C_Answer) "__ne__"=some (some (.builtin "object.__ne__")))
 (kso_Answer:PySem.W.subIn K (.ref C_Answer) (.type "object")=some true)
 (kf_Answer_NoneType:PySem.W.notFirst K C_Answer (.type "NoneType")=true)
 (kf_Answer_bool:PySem.W.notFirst K C_Answer (.type "bool")=true)
 (kf_Answer_int:PySem.W.notFirst K C_Answer (.type "int")=true)
 (kf_Answer_str:PySem.W.notFirst K C_Answer (.type "str")=true)
 (kf_Answer_list:PySem.W.notFirst K C_Answer (.type "list")=true)
 (kf_Answer_tuple:PySem.W.notFirst K C_Answer (.type "tuple")=true)
 (kf_Answer_dict:PySem.W.notFirst K C_Answer (.type "dict")=true)
 (na_Answer_changes:PySem.W.findIn K (.ref C_Answer) "changes"=some none)
 (na_Answer_counts:PySem.W.findIn K (.ref C_Answer) "counts"=some none)
 (na_Answer_followed:PySem.W.findIn K (.ref C_Answer) "followed"=some none)
 (na_Answer_net:PySem.W.findIn K (.ref C_Answer) "net"=some none)
 (a0:PySem.W.findIn K (.ref C_Answer) "__init__"=some (some (.ref f0)))
 (l0:K.lookup f0=some ⟨oc0,od0,.func (PySem.W.fnOf "__init__" "Answer.__init__" (defArgs s_Answer_init) (defBody s_Answer_init) (defScope s_Answer_init) .none kV0 dc0 pm0 an0 cd0 ct0),sl0⟩)
 (c0:PySem.W.codeIn K cd0 "Answer.__init__"=true)
 (k0:PySem.W.keepIn K (.ref f0)=true)
 (fn0:PySem.W.isFn K (.ref f0)=true)
 (a1:PySem.W.findIn K (.ref C_Answer) "__eq__"=some (some (.ref f1)))
 (l1:K.lookup f1=some ⟨oc1,od1,.func (PySem.W.fnOf "__eq__" "Answer.__eq__" (defArgs s_Answer_eq) (defBody s_Answer_eq) (defScope s_Answer_eq) .none kV1 dc1 pm1 an1 cd1 ct1),sl1⟩)
 (c1:PySem.W.codeIn K cd1 "Answer.__eq__"=true)
 (k1:PySem.W.keepIn K (.ref f1)=true)
 (fn1:PySem.W.isFn K (.ref f1)=true)
 (a2:PySem.W.nsIn K mainGlobals "_law_pot"=some (some (.ref f2)))
 (l2:K.lookup f2=some ⟨oc2,od2,.func (PySem.W.fnOf "_law_pot" "_law_pot" (defArgs s_Lpot) (defBody s_Lpot) (defScope s_Lpot) .none kV2 dc2 pm2 an2 cd2 ct2),sl2⟩)
 (c2:PySem.W.codeIn K cd2 "_law_pot"=true)
 (k2:PySem.W.keepIn K (.ref f2)=true)
 (a3:PySem.W.nsIn K mainGlobals "_law_take"=some (some (.ref f3)))
 (l3:K.lookup f3=some ⟨oc3,od3,.func (PySem.W.fnOf "_law_take" "_law_take" (defArgs s_Ltake) (defBody s_Ltake) (defScope s_Ltake) .none kV3 dc3 pm3 an3 cd3 ct3),sl3⟩)
 (c3:PySem.W.codeIn K cd3 "_law_take"=true)
 (k3:PySem.W.keepIn K (.ref f3)=true)
 (a4:PySem.W.nsIn K mainGlobals "_law_cell"=some (some (.ref f4)))
 (l4:K.lookup f4=some ⟨oc4,od4,.func (PySem.W.fnOf "_law_cell" "_law_cell" (defArgs s_Lcell) (defBody s_Lcell) (defScope s_Lcell) .none kV4 dc4 pm4 an4 cd4 ct4),sl4⟩)
 (c4:PySem.W.codeIn K cd4 "_law_cell"=true)
 (k4:PySem.W.keepIn K (.ref f4)=true)
 (a5:PySem.W.nsIn K mainGlobals "law"=some (some (.ref f5)))
 (l5:K.lookup f5=some ⟨oc5,od5,.func (PySem.W.fnOf "law" "law" (defArgs s_law) (defBody s_law) (defScope s_law) .none kV5 dc5 pm5 an5 cd5 ct5),sl5⟩)
 (c5:PySem.W.codeIn K cd5 "law"=true)
 (k5:PySem.W.keepIn K (.ref f5)=true)
 (z_abs:PySem.W.nsIn K mainGlobals "abs"=some none)
 (z_dict:PySem.W.nsIn K mainGlobals "dict"=some none)
 (z_int:PySem.W.nsIn K mainGlobals "int"=some none)
 (z_isinstance:PySem.W.nsIn K mainGlobals "isinstance"=some none)
 (z_len:PySem.W.nsIn K mainGlobals "len"=some none)
 (z_range:PySem.W.nsIn K mainGlobals "range"=some none)
 (ndP:([]:List Addr).Nodup):
 LamX.LawAtS l w K CX0 3 63 "_law_script" mg fa h:=by
 have mc_Answer:=PySem.W.mg_of X G ac_Answer
 have at_Answer:(csOf w K mg).at_ "Answer"=C_Answer:=csOf_at mc_Answer
 have D_Answer_init:MethAt K ((csOf w K mg).at_ "Answer") "__init__" "__init__" "Answer.__init__" s_Answer_init [] [] []:=by
  rw [at_Answer]
  exact methAt_mk a0 l0 c0 k0 (.inl ⟨rfl,rfl⟩) (.inl ⟨rfl,rfl⟩)
 have D_Answer_eq:MethAt K ((csOf w K mg).at_ "Answer") "__eq__" "__eq__" "Answer.__eq__" s_Answer_eq [] [] []:=by
  rw [at_Answer]
  exact methAt_mk a1 l1 c1 k1 (.inl ⟨rfl,rfl⟩) (.inl ⟨rfl,rfl⟩)
 have m2:=PySem.W.mg_of X G a2
 have D_Lpot:DefAt K mg "_law_pot" "_law_pot" s_Lpot [] [] []:=defAt_mk m2 l2 c2 k2 (.inl ⟨rfl,rfl⟩) (.inl ⟨rfl,rfl⟩)
 have m3:=PySem.W.mg_of X G a3
 have D_Ltake:DefAt K mg "_law_take" "_law_take" s_Ltake [] [] []:=defAt_mk m3 l3 c3 k3 (.inl ⟨rfl,rfl⟩) (.inl ⟨rfl,rfl⟩)
 have m4:=PySem.W.mg_of X G a4
 have D_Lcell:DefAt K mg "_law_cell" "_law_cell" s_Lcell [] [] []:=defAt_mk m4 l4 c4 k4 (.inl ⟨rfl,rfl⟩) (.inl ⟨rfl,rfl⟩)
 have m5:=PySem.W.mg_of X G a5
 have zb_abs:=PySem.W.mg_none_of X G z_abs
 have zb_dict:=PySem.W.mg_none_of X G z_dict
 have zb_int:=PySem.W.mg_none_of X G z_int
 have zb_isinstance:=PySem.W.mg_none_of X G z_isinstance
 have zb_len:=PySem.W.mg_none_of X G z_len
 have zb_range:=PySem.W.mg_none_of X G z_range
 have T:Top w K mg:=⟨D_Answer_init,
  D_Answer_eq,
  D_Lpot,
  D_Ltake,
  D_Lcell,
  ⟨by rw [at_Answer];exact mc_Answer,by rw [at_Answer];exact ⟨pg_Answer,hd_Answer,po_Answer,sa_Answer⟩,by rw [at_Answer];exact mk_Answer,by rw [at_Answer];exact kp_Answer⟩,
  (fun f hf=>by rw [at_Answer,a0] at hf;cases hf;exact fn0),
  (by rw [at_Answer];exact ⟨⟨pg_Answer,hd_Answer,po_Answer,sa_Answer⟩,ka_Answer,kn_Answer,kt_Answer,km_Answer,M3.kit_self,fun a ha=>by simp only [List.mem_cons,List.not_mem_nil,or_false] at ha;rcases ha with rfl | rfl | rfl | rfl | rfl | rfl | rfl<;>first | exact M3.kit_not kj_Answer kq_Answer ko_Answer_NoneType | exact M3.kit_not kj_Answer kq_Answer ko_Answer_bool | exact M3.kit_not kj_Answer kq_Answer ko_Answer_int | exact M3.kit_not kj_Answer kq_Answer ko_Answer_str | exact M3.kit_not kj_Answer kq_Answer ko_Answer_list | exact M3.kit_not kj_Answer kq_Answer ko_Answer_tuple | exact M3.kit_not kj_Answer kq_Answer ko_Answer_dict⟩),
  (by rw [at_Answer];exact ⟨kne_Answer,kso_Answer⟩),
  (by rw [at_Answer];exact ⟨fun a ha=>by simp only [List.mem_cons,List.not_mem_nil,or_false] at ha;rcases ha with rfl | rfl | rfl | rfl | rfl | rfl | rfl<;>first | exact kf_Answer_NoneType | exact kf_Answer_bool | exact kf_Answer_int | exact kf_Answer_str | exact kf_Answer_list | exact kf_Answer_tuple | exact kf_Answer_dict⟩),
  (by rw [at_Answer];exact na_Answer_changes),
  (by rw [at_Answer];exact na_Answer_counts),
  (by rw [at_Answer];exact na_Answer_followed),
  (by rw [at_Answer];exact na_Answer_net),
  (fun f hf=>by rw [at_Answer,a1] at hf;cases hf;exact fn1),
  zb_abs,
  zb_dict,
  zb_int,
  zb_isinstance,
  zb_len,
  zb_range⟩
 have e:=hfa.symm.trans m5
 cases e
 have nd:(([]:List (Addr×Str)).map (·.1)).Nodup:=ndP
 refine ⟨PySem.W.fnOf "law" "law" (defArgs s_law) (defBody s_law) (defScope s_law) .none kV5 dc5 pm5 an5 cd5 ct5,[],spLawU K [],fun p hp=> ?_,fun p hp=> ?_,fun p hp=> ?_,fun s v=>.of_eq rfl,fun H a ns _ _ hT hS=>⟨a,ns,rfl,hS,fun q hp=> ?_,fun _=>rfl⟩,fun base _ _ TB=>ok_law T base (law_plain _) ⟨trivial⟩ (fun_mk (st:=s_law) l5 c5 k5)⟩
 · cases hp
 · cases hp
 · cases hp
 · cases hp
theorem walkL {l:PySem.W.OpenLaw} {q:Program} {loose:List Str} {XP:(Str→Option Value)→Heap→Prop} {YP:World→Heap→Prop} {d:DefRec} {K:Params→PySem.W.Frag} (hn:l.most=some 63) (hdf:d.params.defaults=[])
 (hY:∀(w:World) (h:Heap),YP w h→(K w.params).In h)
 (F:∀(w:World) (mg:Str→Option Value) (fa:Addr) (h:Heap),YP w h→(K w.params).In h→h.Ns mainGlobals mg→mg d.name=some (.ref fa)→LamX.LawAtS l w (K w.params) CX0 3 63 "_law_script" mg fa h):
 PySem.W.WalkO q loose XP YP l.row.toRowW d [] (fun f vs=>PySem.call f vs):=
 LamX.walk_ofTs (n:=63) (k:=3) (x:="_law_script") (CX:=fun _=>CX0) hn (by decide) hdf ⟨rfl,by decide,by decide⟩ hY F fun _ _ _ _ _ z=>z
end Law
open PySem PySem.W PyProof.Rows
set_option maxRecDepth 100000 in
set_option maxHeartbeats 0 in
theorem PySem.Challenge.cw_onepour_k35_answers_alike_holds : PySem.Challenge.rw_onepour_k35_answers_alike.Holds := by
 w_on;o_law;k_head;(case hw=>w_witness2)
 k_fill
 refine Law.walkL (l:=PySem.Challenge.rw_onepour_k35_answers_alike) rfl rfl (fun w h Y=>PySem.W.kIn_of Y) ?F
 case F=>
  intro w mg fa h Y KX G hmg
  refine' Law.all_mk KX G hmg ?ac_Answer ?pg_Answer ?hd_Answer ?po_Answer ?sa_Answer ?mk_Answer ?kp_Answer ?ka_Answer ?kn_Answer ?kt_Answer ?km_Answer ?kj_Answer ?kq_Answer ?ko_Answer_NoneType ?ko_Answer_bool ?ko_Answer_int ?ko_Answer_str ?ko_Answer_list ?ko_Answer_tuple ?ko_Answer_dict ?kne_Answer ?kso_Answer ?kf_Answer_NoneType ?kf_Answer_bool ?kf_Answer_int ?kf_Answer_str ?kf_Answer_list ?kf_Answer_tuple ?kf_Answer_dict ?na_Answer_changes ?na_Answer_counts ?na_Answer_followed ?na_Answer_net ?a0 ?l0 ?c0 ?k0 ?fn0 ?a1 ?l1 ?c1 ?k1 ?fn1 ?a2 ?l2 ?c2 ?k2 ?a3 ?l3 ?c3 ?k3 ?a4 ?l4 ?c4 ?k4 ?a5 ?l5 ?c5 ?k5 ?z_abs ?z_dict ?z_int ?z_isinstance ?z_len ?z_range ?ndP
  (case ac_Answer=>k_is)
  (case pg_Answer=>k_is)
  (case hd_Answer=>k_is)
  (case po_Answer=>k_is)
  (case sa_Answer=>k_is)
  (case mk_Answer=>k_is)
  (case kp_Answer=>k_is)
  (case ka_Answer=>k_is)
  (case kn_Answer=>k_is)
  (case kt_Answer=>k_is)
  (case km_Answer=>k_is)
  (case kj_Answer=>k_is)
  (case kq_Answer=>k_is)
  (case ko_Answer_NoneType=>first | rfl | k_is)
  (case ko_Answer_bool=>first | rfl | k_is)
  (case ko_Answer_int=>first | rfl | k_is)
  (case ko_Answer_str=>first | rfl | k_is)
  (case ko_Answer_list=>first | rfl | k_is)
  (case ko_Answer_tuple=>first | rfl | k_is)
  (case ko_Answer_dict=>first | rfl | k_is)
  (case kne_Answer=>k_is)
  (case kso_Answer=>k_is)
  (case kf_Answer_NoneType=>k_is)
  (case kf_Answer_bool=>k_is)
  (case kf_Answer_int=>k_is)
  (case kf_Answer_str=>k_is)
  (case kf_Answer_list=>k_is)
  (case kf_Answer_tuple=>k_is)
  (case kf_Answer_dict=>k_is)
  (case na_Answer_changes=>k_is)
  (case na_Answer_counts=>k_is)
  (case na_Answer_followed=>k_is)
  (case na_Answer_net=>k_is)
  (case a0=>k_is)
  (case l0=>k_is)
  (case c0=>k_is)
  (case k0=>k_is)
  (case fn0=>k_is)
  (case a1=>k_is)
  (case l1=>k_is)
  (case c1=>k_is)
  (case k1=>k_is)
  (case fn1=>k_is)
  (case a2=>k_is)
  (case l2=>k_is)
  (case c2=>k_is)
  (case k2=>k_is)
  (case a3=>k_is)
  (case l3=>k_is)
  (case c3=>k_is)
  (case k3=>k_is)
  (case a4=>k_is)
  (case l4=>k_is)
  (case c4=>k_is)
  (case k4=>k_is)
  (case a5=>k_is)
  (case l5=>k_is)
  (case c5=>k_is)
  (case k5=>k_is)
  (case z_abs=>k_is)
  (case z_dict=>k_is)
  (case z_int=>k_is)
  (case z_isinstance=>k_is)
  (case z_len=>k_is)
  (case z_range=>k_is)
  (case ndP=>decide +kernel)
#print axioms PySem.Challenge.cw_onepour_k35_answers_alike_holds
