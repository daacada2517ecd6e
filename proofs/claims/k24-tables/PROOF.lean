import PyProof.Rows.All
import Wide.All
import OpenK.AllK
import Wide.FinOn
import HandS.ForMost
import HandS.Wide
import HandS.IsInst
import HandS.Defaults
import HandS.EndBits
import HandS.Exc
import HandS.Flow
import HandS.TupAny
import HandS.TupMul
import HandS.Zip
import HandS.Lambda
import KE.KDictKeyed
import HandS.Style
import HandS.TryMany
import HandS.ExcOwn
import HandS.WordsExc
import HandS.EndOwn
import HandS.Deep
import HandS.MakeKwOnly
import HandS.MakeKw
import KE.KUnpackStar
import KE.DataCmp
import HandS.ExcValue
import PyProof.Rows.TupIter
import HandS.Strs
import KE.KDictZip
import KE.GoesZip
import KE.GoesMore
import HandS.More
import HandS.ExcInit
import HandS.ExcField
import HandS.FStr
import KE.KDflt
import KE.KDictPairs
import HandS.CallLocal
import HandS.ReCall
import PyProof.FactsAll.tuple_2
import PyProof.FactsAll.tuple_3
import KE.KEqNest
import PyProof.NeKinds
import HandS.DictComp
import KE.DataMinMax
import HandS.SortKw
import HandS.Set
import HandS.SetTxt0
import HandS.SetBool
import KE.GoesEnum
import PyProof.EnumMake
import PyProof.Draws
import HandS.Text
import KE.KUnpack
import KE.SortKeyHeap
import PyProof.Rows.SetFrom
import HandS.OwnEq
import PyProof.InstEq
import HandS.Finally
import HandS.Small
import KE.DataFind
import HandS.Sort
import PyProof.ListRange
import PySem.Challenge.RW_onepour_k24_tables_of_a_plan
set_option Elab.async false
set_option linter.all false
set_option maxRecDepth 100000
set_option maxHeartbeats 4000000
namespace M3
open PySem L2
section
variable {X:Cx}
def newT (H:Hp) (xs:List V) (Q:VK):Prop:=∀(p:Addr) (o:Obj),H p=none→o.dict=none→Q (.ref p) (upd H p (.frz o (.tup xs)))
theorem frz_tup {P:Program} {w:World} {H:Hp} {h:Heap} {xs:List V} {its:List Value} {o:Obj} (ho:o={cls:=.type "tuple",data:=.seq its.toArray}) (hz:xs.length≤sizeLine) (r:Vals xs its):ObjOk P w H (h.push o) h.objs.size (.frz o (.tup xs)):=by
 subst ho
 exact ⟨Heap.get?_push_size _ rfl,hz,its,r,PyProof.Rows.IsTup.new _ _⟩
theorem lay_tup {pins:List (Addr×Obj)} {σ:St} {H:Hp} {s:Shared} {xs:List V} {its:List Value} {Q:VK} (I:Inv X pins σ H s) (hz:xs.length≤sizeLine) (r:Vals xs its) (q:newT H xs Q):
 EP X pins σ Q (.ref s.heap.objs.size) {s with heap:=s.heap.push {cls:=.type "tuple",data:=.seq its.toArray} }:=
 ⟨.ref s.heap.objs.size,_,I.laid (t':=s.toks) (fun _ _ e=>Heap.get?_push_of_some _ e) (Nat.le_refl _) (frz_tup rfl hz r),rfl,q _ _ (I.hok.fresh (Nat.le_refl _)) rfl⟩
def tTup (t:TA):TE:=fun σ H Q=>t σ H fun xs H1=>xs.length≤sizeLine∧newT H1 xs Q
theorem pe_tup {x1} {es:List Expr} {t:TA} {pos:Pos} (h:PA X es t):PE X (.Tuple es x1 pos) (tTup t):=by
 constructor
 intro pins s σ H Q I hq
 refine wpAny_Tuple_spliced (thn (h.run pos pins s σ H _ I hq) ?_)
 rintro us s1 ⟨xs,H1,I1,r,z,q⟩
 exact ⟨by rw [←r.length];exact z,lay_tup I1 z r q⟩
def rTup (K:PySem.W.Frag) (xs:List V) (H:Hp) (Q:VK):Prop:=∃p ys,xs=[.ref p]∧((SqL K H p ys∧newT H ys Q)∨(SqT K H p ys∧Q (.ref p) H))
theorem call_tupleF:CallR X (.type "tuple") (rTup X.K):=by
 intro pins s σ H xs us Q I r h
 obtain ⟨p,ys,rfl,h⟩:=h
 obtain ⟨u,rfl,ru⟩:=vals1 r
 cases ru
 rcases h with ⟨hs,q⟩ | ⟨hs,q⟩
 · obtain ⟨its,rv,pl,hz⟩:=I.list hs
   refine call_tuple_list pl.isList (fun h' kp=> ?_) (by rw [List.size_toArray, ←rv.length];exact hz)
   exact lay_tup (s:={s with heap:=h'}) (I.kept (t':=s.toks) kp) hz rv q
 · obtain ⟨its,_,p1,_⟩:=I.tuple hs
   exact call_tuple_same (items:=its.toArray) p1 ⟨.ref p,H,I,rfl,q⟩
def rSlF (K:PySem.W.Frag):V→Option Int→Option Int→Hp→VK→Prop:=fun x lo hi H Q=>∃a xs,x= .ref a∧SqT K H a xs∧
 ((HT.sIx xs.length 0 lo=0∧HT.sIx xs.length xs.length hi=xs.length)→Q (.ref a) H)∧(¬(HT.sIx xs.length 0 lo=0∧HT.sIx xs.length xs.length hi=xs.length)→newT H (cutV xs lo hi) Q)
theorem sl_tupF:SlR X (rSlF X.K):=by
 intro pins s σ H x v vl vu lo hi sl Q I rx hs pl pu h
 obtain ⟨a,xs,rfl,hx,q1,q2⟩:=h
 cases rx
 obtain ⟨its,r,ht,hz⟩:=I.tuple hx
 have el:its.toArray.size=xs.length:=by rw [List.size_toArray];exact r.length.symm
 refine ⟨"tuple",_,PyProof.Rows.slot_tuple_getitem.lookup,ht.typeIs, ?_⟩
 by_cases hw:HT.sIx xs.length 0 lo=0∧HT.sIx xs.length xs.length hi=xs.length
 · exact getItem_tuple_whole ht hs pl pu (by rw [el];exact hw) ⟨.ref a,H,I,rfl,q1 hw⟩
 · refine HT.getItem_tuple_cut ht hs pl pu (by rw [el];exact hw) ?_ (by rw [el];exact hz)
   rw [el]
   exact lay_tup I (Nat.le_trans (cutV_length xs lo hi) hz) ((r.drop (HT.sIx xs.length 0 lo)).take (HT.sIx xs.length xs.length hi-HT.sIx xs.length 0 lo)) (q2 hw)
def rCatF (K:PySem.W.Frag):R2:=fun x y H Q=>∃a b xs ys,x= .ref a∧y= .ref b∧SqT K H a xs∧SqT K H b ys∧xs.length+ys.length≤sizeLine∧
 (xs=[]→Q (.ref b) H)∧(xs≠[]→ys=[]→Q (.ref a) H)∧(xs≠[]→ys≠[]→newT H (xs++ys) Q)
theorem op_catF:OpR X (binaryOp .Add) (rCatF X.K):=by
 intro pins s σ H x y v u Q I rx ry h
 obtain ⟨a,b,xs,ys,rfl,rfl,ha,hb,hz,q0,q1,q2⟩:=h
 cases rx
 cases ry
 obtain ⟨its,r1,p1,_⟩:=I.tuple ha
 obtain ⟨jts,r2,p2,_⟩:=I.tuple hb
 by_cases hx:xs=[]
 · subst hx
   cases r1
   exact cat_tup0 p1 p2 ⟨.ref b,H,I,rfl,q0 rfl⟩
 · refine HT.cat_tup p1 p2 (fun z=>hx (r1.nil_iff.mp z)) (fun z=>⟨.ref a,H,I,rfl,q1 hx (r2.nil_iff.mp z)⟩) (fun z=> ?_) (by rw [←r1.length, ←r2.length];exact hz)
   exact lay_tup I (by rw [List.length_append];exact hz) (r1.append r2) (q2 hx fun w=>z (r2.nil_iff.mpr w))
end
end M3
namespace M3
open PySem L2
inductive T where
 | non | bl (b:Bool) | int (i:Int) | str (x:Str) | ty (n:String) | ref (a:Addr)
 | tup (xs:List T) | lst (xs:List T) | dic (kvs:List (Key×T)) | ins (C:Addr) (fs:List (Str×T))
 | kd (w:World) (es:List (T×T))
def vis:HO→Bool
 | .tbl _=>false
 | _=>true
def out (S:List Addr) (H:Hp):Hp:=fun a=>if a∈S then none else H a
theorem out_in {S:List Addr} {H:Hp} {a:Addr} (h:a∈S):out S H a=none:=by unfold out;rw [if_pos h]
theorem out_out {S:List Addr} {H:Hp} {a:Addr} (h:a ∉ S):out S H a=H a:=by unfold out;rw [if_neg h]
theorem out_some {S:List Addr} {H:Hp} {a:Addr} {o:HO} (h:out S H a=some o):H a=some o∧a ∉ S:=by
 by_cases e:a∈S
 · rw [out_in e] at h;cases h
 · rw [out_out e] at h;exact ⟨h,e⟩
def hid (S:List Addr) (H:Hp):Hp:=fun a=>(out S H a).bind fun o=>if vis o=true then some o else none
theorem hid_in {S:List Addr} {H:Hp} {a:Addr} (h:a∈S):hid S H a=none:=by unfold hid;rw [out_in h];rfl
theorem hid_all {S:List Addr} {H:Hp} {a:Addr} {o:HO} (h:hid S H a=some o):H a=some o∧a ∉ S∧vis o=true:=by
 unfold hid at h
 cases e:out S H a with
 | none=>rw [e] at h;cases h
 | some u=>
   rw [e] at h
   have h:(if vis u=true then some u else none)=some o:=h
   by_cases v:vis u=true
   · rw [if_pos v] at h
     cases h
     exact ⟨(out_some e).1,(out_some e).2,v⟩
   · rw [if_neg v] at h;cases h
theorem hid_some {S:List Addr} {H:Hp} {a:Addr} {o:HO} (h:hid S H a=some o):H a=some o∧a ∉ S:=⟨(hid_all h).1,(hid_all h).2.1⟩
theorem hid_vis {S:List Addr} {H:Hp} {a:Addr} {o:HO} (h:hid S H a=some o):vis o=true:=(hid_all h).2.2
theorem hid_mk {S:List Addr} {H:Hp} {a:Addr} {o:HO} (h:H a=some o) (n:a ∉ S) (v:vis o=true:=by first | rfl | exact hid_vis (by assumption)):hid S H a=some o:=by
 unfold hid
 rw [out_out n,h]
 show (if vis o=true then some o else none)=some o
 rw [if_pos v]
theorem hid_same {S:List Addr} {H:Hp}:Same (hid S H) H:=fun _ _ h=>(hid_some h).1
theorem hid_mono {S S':List Addr} {H:Hp} (h:∀a∈S',a∈S):Same (hid S H) (hid S' H):=fun a _ e=>by
 obtain ⟨e1,e2⟩:=hid_some e
 exact hid_mk e1 fun z=>e2 (h a z)
theorem Same.rd {H H':Hp} (e:Same H H') {a:Addr} {u:HO} (h:Rd H a u):Rd H' a u:=by
 rcases h with h | ⟨o,h⟩
 · exact .inl (e _ _ h)
 · exact .inr ⟨o,e _ _ h⟩
theorem Same.sqT {K:PySem.W.Frag} {H H':Hp} {a:Addr} {xs:List V} (e:Same H H') (h:SqT K H a xs):SqT K H' a xs:=by
 rcases h with h | h
 · exact .inl (Same.rd e h)
 · exact .inr h
def FqT (K:PySem.W.Frag) (H:Hp) (a:Addr) (xs:List V):Prop:=
 (∃o:Obj,o.dict=none∧H a=some (.frz o (.tup xs)))∨
   ∃(o:Obj) (its:Array Value) (n:Nat),K.lookup a=some o∧o.dict=none∧o.cls= .type "tuple"∧o.data= .seq its n∧its.size≤sizeLine∧Vals xs its.toList
theorem FqT.sq {K:PySem.W.Frag} {H:Hp} {a:Addr} {xs:List V} (h:FqT K H a xs):SqT K H a xs:=by
 rcases h with ⟨o,_,h⟩ | ⟨o,its,n,h1,_,h2,h3,h4,h5⟩
 · exact .inl (.inr ⟨o,h⟩)
 · exact .inr ⟨o,its,n,h1,h2,h3,h4,h5⟩
theorem FqT.of {K:PySem.W.Frag} {H:Hp} {a:Addr} {xs:List V} {o:Obj} (d:o.dict=none) (h:H a=some (.frz o (.tup xs))):FqT K H a xs:=.inl ⟨o,d,h⟩
theorem Same.fqT {K:PySem.W.Frag} {H H':Hp} {a:Addr} {xs:List V} (e:Same H H') (h:FqT K H a xs):FqT K H' a xs:=by
 rcases h with ⟨o,d,h⟩ | h
 · exact .inl ⟨o,d,e _ _ h⟩
 · exact .inr h
inductive Rep (K:PySem.W.Frag) (H:Hp):V→T→Prop where
 | non:Rep K H .non .non
 | bl (b:Bool):Rep K H (.bl b) (.bl b)
 | int (i:Int):Rep K H (.int i) (.int i)
 | str (x:Str):Rep K H (.str x) (.str x)
 | ty (n:String):Rep K H (.ty n) (.ty n)
 | ref (a:Addr):Rep K H (.ref a) (.ref a)
 | tup {a:Addr} {vs:List V} {ts:List T} (h:FqT K H a vs) (hl:vs.length=ts.length) (hr:∀(i:Nat) v t,vs[i]? =some v→ts[i]? =some t→Rep K H v t):Rep K H (.ref a) (.tup ts)
 | lst {a:Addr} {vs:List V} {ts:List T} (h:H a=some (.lst vs)) (hl:vs.length=ts.length) (hr:∀(i:Nat) v t,vs[i]? =some v→ts[i]? =some t→Rep K H v t):Rep K H (.ref a) (.lst ts)
 | dic {a:Addr} {kvs:List (Key×V)} {ts:List (Key×T)} (h:∃o,H a=some (.frz o (.dK kvs))) (hk:kvs.map (·.1)=ts.map (·.1))
    (hr:∀(i:Nat) v t,(kvs.map (·.2))[i]? =some v→(ts.map (·.2))[i]? =some t→Rep K H v t):Rep K H (.ref a) (.dic ts)
 | ins {a C dx:Addr} {fs:List (Str×V)} {ts:List (Str×T)} (h:H a=some (.ins C dx fs)) (hk:fs.map (·.1)=ts.map (·.1))
    (hr:∀(i:Nat) v t,(fs.map (·.2))[i]? =some v→(ts.map (·.2))[i]? =some t→Rep K H v t):Rep K H (.ref a) (.ins C ts)
abbrev RepL (K:PySem.W.Frag) (H:Hp):List V→List T→Prop:=Paired (Rep K H)
section
variable {K:PySem.W.Frag} {H H':Hp} {v:V} {t:T} {vs:List V} {ts:List T} {a:Addr}
theorem Rep.mono (r:Rep K H v t) (e:Same H H'):Rep K H' v t:=by
 induction r with
 | non=>exact .non
 | bl b=>exact .bl b
 | int i=>exact .int i
 | str x=>exact .str x
 | ty n=>exact .ty n
 | ref a=>exact .ref a
 | tup h hl _ ih=>exact .tup (Same.fqT e h) hl ih
 | lst h hl _ ih=>exact .lst (e _ _ h) hl ih
 | dic h hk _ ih=>exact .dic (let ⟨o,q⟩:=h; ⟨o,e _ _ q⟩) hk ih
 | ins h hk _ ih=>exact .ins (e _ _ h) hk ih
theorem repL_mk:∀ {vs:List V} {ts:List T},vs.length=ts.length→(∀(i:Nat) v t,vs[i]? =some v→ts[i]? =some t→Rep K H v t)→RepL K H vs ts
 | [],[],_,_=>.nil
 | v::vs,t::ts,hl,hr=>.cons (hr 0 v t rfl rfl) (repL_mk (by simpa using hl) fun i v t h1 h2=>hr (i+1) v t (by simpa using h1) (by simpa using h2))
 | [],_::_,hl,_=>by simp at hl
 | _::_,[],hl,_=>by simp at hl
theorem RepL.length (r:RepL K H vs ts):vs.length=ts.length:=Paired.length r
theorem RepL.at:∀ {vs:List V} {ts:List T} {i:Nat} {v:V} {t:T},RepL K H vs ts→vs[i]? =some v→ts[i]? =some t→Rep K H v t
 | _,_,_,_,_,.nil,e,_=>by simp at e
 | _,_,0,_,_,.cons r _,e,f=>by simp at e f;subst e;subst f;exact r
 | _,_,i+1,v,t,.cons _ q,e,f=>RepL.at (i:=i) (v:=v) (t:=t) q (by simpa using e) (by simpa using f)
theorem RepL.get:∀ {vs:List V} {ts:List T} {i:Nat} {t:T},RepL K H vs ts→ts[i]? =some t→∃v,vs[i]? =some v∧Rep K H v t
 | _,_,_,_,.nil,e=>by simp at e
 | _,_,0,_,.cons r _,e=>by simp at e;subst e;exact ⟨_,rfl,r⟩
 | _,_,i+1,t,.cons _ q,e=>by
   obtain ⟨v,h1,h2⟩:=RepL.get (i:=i) (t:=t) q (by simpa using e)
   exact ⟨v,by simpa using h1,h2⟩
theorem RepL.mono (r:RepL K H vs ts) (e:Same H H'):RepL K H' vs ts:=Paired.mapP r fun _ _ z=>z.mono e
theorem RepL.append:∀ {vs ws:List V} {ts us:List T},RepL K H vs ts→RepL K H ws us→RepL K H (vs++ws) (ts++us)
 | _,_,_,_,.nil,s=>s
 | _,_,_,_,.cons r t,s=>.cons r (RepL.append t s)
theorem RepL.take:∀ {vs:List V} {ts:List T} (n:Nat),RepL K H vs ts→RepL K H (vs.take n) (ts.take n)
 | _,_,0,_=>.nil
 | _,_,_+1,.nil=>.nil
 | _,_,n+1,.cons r t=>.cons r (RepL.take n t)
theorem RepL.drop:∀ {vs:List V} {ts:List T} (n:Nat),RepL K H vs ts→RepL K H (vs.drop n) (ts.drop n)
 | _,_,0,r=>r
 | _,_,_+1,.nil=>.nil
 | _,_,n+1,.cons _ t=>RepL.drop n t
theorem RepL.set {v:V} {t:T} (r:Rep K H v t):∀ {vs:List V} {ts:List T} (i:Nat),RepL K H vs ts→RepL K H (vs.set i v) (ts.set i t)
 | _,_,_,.nil=>.nil
 | _,_,0,.cons _ q=>.cons r q
 | _,_,i+1,.cons p q=>.cons p (RepL.set r i q)
theorem Rep.mkT (h:FqT K H a vs) (r:RepL K H vs ts):Rep K H (.ref a) (.tup ts):=.tup h r.length fun _ _ _=>r.at
theorem Rep.mkL (h:H a=some (.lst vs)) (r:RepL K H vs ts):Rep K H (.ref a) (.lst ts):=.lst h r.length fun _ _ _=>r.at
theorem Rep.tupI (r:Rep K H v (.tup ts)):∃a vs,v= .ref a∧SqT K H a vs∧RepL K H vs ts:=by
 cases r with
 | tup h hl hr=>exact ⟨_,_,rfl,h.sq,repL_mk hl hr⟩
theorem Rep.tupF (r:Rep K H v (.tup ts)):∃a vs,v= .ref a∧FqT K H a vs∧RepL K H vs ts:=by
 cases r with
 | tup h hl hr=>exact ⟨_,_,rfl,h,repL_mk hl hr⟩
def RepB (K:PySem.W.Frag) (w:Bool) (H:Hp) (v:V) (t:T):Prop:=Rep K H v t∨(w=true∧∃a vs ts,v= .ref a∧t= .tup ts∧SqT K H a vs∧RepL K H vs ts)
theorem RepB.f (r:RepB K false H v t):Rep K H v t:=by
 rcases r with r | ⟨z,_⟩
 · exact r
 · cases z
theorem RepB.tupI {w:Bool} (r:RepB K w H v (.tup ts)):∃a vs,v= .ref a∧SqT K H a vs∧RepL K H vs ts:=by
 rcases r with r | ⟨_,a,vs,us,rfl,e,h,q⟩
 · exact r.tupI
 · cases e;exact ⟨a,vs,rfl,h,q⟩
theorem Rep.lstI (r:Rep K H v (.lst ts)):∃a vs,v= .ref a∧H a=some (.lst vs)∧RepL K H vs ts:=by
 cases r with
 | lst h hl hr=>exact ⟨_,_,rfl,h,repL_mk hl hr⟩
theorem Rep.intI {i:Int} (r:Rep K H v (.int i)):v= .int i:=by cases r;rfl
theorem Rep.blI {b:Bool} (r:Rep K H v (.bl b)):v= .bl b:=by cases r;rfl
theorem Rep.strI {x:Str} (r:Rep K H v (.str x)):v= .str x:=by cases r;rfl
theorem Rep.nonI (r:Rep K H v .non):v= .non:=by cases r;rfl
theorem Rep.tyI {n:String} (r:Rep K H v (.ty n)):v= .ty n:=by cases r;rfl
theorem Rep.refI (r:Rep K H v (.ref a)):v= .ref a:=by cases r;rfl
end
inductive Sl where
 | no | val (t:T) | own (t:T)
def SameX (H H':Hp):Prop:=∀a q,H a=some (LamX.CodeO a q)→H' a=some (LamX.CodeO a q)
structure Cf where
 S0:List Addr
 I:Hp→Prop
 st:∀H H',(∀a∈S0,H' a=H a)→SameX H H'→I H→I H'
 on:∀H,I H→∀a∈S0,H a≠none
 gOk:HO→Prop
 gL:∀vs,gOk (.lst vs)
 gV:∀o,vis o=true→gOk o
 fr:Bool
def addrs (A:List (Option Addr)):List Addr:=A.filterMap id
def Cf.S (c:Cf) (G:List Addr) (A:List (Option Addr)):List Addr:=c.S0++G++addrs A
mutual
def nkT:T→Option NestedKey
 | .non=>some .none
 | .int i=>some (.num i)
 | .str x=>some (.text x)
 | .tup ts=>(nkTs ts).map .tup
 | _=>none
def nkTs:List T→Option (List NestedKey)
 | []=>some []
 | t::ts=>(nkT t).bind fun k=>(nkTs ts).map fun ks=>k::ks
end
def KdO (w:World) (a:Addr) (xs:List (NestedKey×Addr×V)):HO:=.ext fun h=>xs.length≤sizeLine∧(a==sysModules)=false∧∃(o:Obj) (es:Array DictEntry) (ep:Nat) (ys:List (NestedKey×Addr×Value)),
 Paired (fun (p:NestedKey×Addr×V) (q:NestedKey×Addr×Value)=>p.1=q.1∧p.2.1=q.2.1∧RelV p.2.2 q.2.2) xs ys∧h.get? a=some o∧o.ExactDict∧o.data= .dict es ep∧es.toList=ys.map (fun x=>⟨x.1.hash w,.ref x.2.1,x.2.2⟩)∧(ys.map (·.1)).Nodup
def KdRep (K:PySem.W.Frag) (Hv H:Hp) (w:World) (a:Addr) (es:List (T×T)):Prop:=∃xs,H a=some (KdO w a xs)∧
 Paired (fun (p:T×T) (q:NestedKey×Addr×V)=>nkT p.1=some q.1∧q.1.depth≤8∧Rep K Hv (.ref q.2.1) p.1∧Rep K Hv q.2.2 p.2) es xs
def OwnRep (K:PySem.W.Frag) (Hv H:Hp) (a:Addr):T→Prop
 | .lst xs=>∃vs,H a=some (.lst vs)∧RepL K Hv vs xs
 | .dic kvs=>∃ks,H a=some (.dK ks)∧ks.map (·.1)=kvs.map (·.1)∧RepL K Hv (ks.map (·.2)) (kvs.map (·.2))
 | .tup xs=>∃x C fs,xs=[.ref x,.ins C fs]∧a=x∧∃dx ks,H a=some (.ins C dx ks)∧ks.map (·.1)=fs.map (·.1)∧RepL K Hv (ks.map (·.2)) (fs.map (·.2))
 | .kd w es=>KdRep K Hv H w a es
 | _=>False
def SlRep (K:PySem.W.Frag) (Hv H:Hp) (s:Sl) (o:Option Addr) (x:Option V):Prop:=
 match s with
 | .no=>o=none
 | .val t=>o=none∧∃v,x=some v∧Rep K Hv v t
 | .own t=>∃a,o=some a∧x=some (.ref a)∧OwnRep K Hv H a t
structure R3 (K:PySem.W.Frag) (c:Cf) (Hb:Hp) (G:List Addr) (A:List (Option Addr)) (σ3:List Sl) (σ:St) (H:Hp):Prop where
 inv:c.I H
 base:Same (hid (c.S0++G) Hb) (hid (c.S G A) H)
 gk:∀a∈G,H a=Hb a∧H a≠none∧a ∉ c.S0
 gv:∀a∈G,∀o,H a=some o→c.gOk o
 nd:(addrs A).Nodup
 ns:∀a∈addrs A,a ∉ c.S0++G
 l1:A.length=σ3.length
 l2:σ.length=σ3.length
 at_:∀(i:Nat) s o x,σ3[i]? =some s→A[i]? =some o→σ[i]? =some x→SlRep K (hid (c.S G A) H) H s o x
structure Le (c:Cf) (G:List Addr) (A:List (Option Addr)) (H H':Hp):Prop where
 vis:Same (hid (c.S G A) H) (hid (c.S G A) H')
 own:∀a∈G++addrs A,H' a=H a
 inv:c.I H'
theorem Le.trans {c:Cf} {G:List Addr} {A:List (Option Addr)} {H H1 H2:Hp} (a:Le c G A H H1) (b:Le c G A H1 H2):Le c G A H H2:=
 ⟨Same.trans a.vis b.vis,fun x h=>(b.own x h).trans (a.own x h),b.inv⟩
theorem Le.refl {c:Cf} {G:List Addr} {A:List (Option Addr)} {H:Hp} (h:c.I H):Le c G A H H:=⟨Same.refl _,fun _ _=>rfl,h⟩
theorem mem_S {c:Cf} {G:List Addr} {A:List (Option Addr)} {a:Addr}:a∈c.S G A↔a∈c.S0∨a∈G∨a∈addrs A:=by
 unfold Cf.S
 rw [List.mem_append,List.mem_append,or_assoc]
theorem mem_addrs {A:List (Option Addr)} {a:Addr}:a∈addrs A↔some a∈A:=by
 unfold addrs
 rw [List.mem_filterMap]
 exact ⟨fun ⟨x,h,e⟩=>by cases e;exact h,fun h=>⟨_,h,rfl⟩⟩
section
variable {K:PySem.W.Frag} {c:Cf} {Hb H H':Hp} {G:List Addr} {A:List (Option Addr)} {σ3:List Sl} {σ:St} {v:V} {t:T}
theorem OwnRep.mono {Hv Hv':Hp} {a:Addr} {t:T} (r:OwnRep K Hv H a t) (e:Same Hv Hv') (h:H' a=H a):OwnRep K Hv' H' a t:=by
 cases t with
 | lst xs=>obtain ⟨vs,h1,h2⟩:=r;exact ⟨vs,h.trans h1,h2.mono e⟩
 | dic kvs=>obtain ⟨ks,h1,h2,h3⟩:=r;exact ⟨ks,h.trans h1,h2,h3.mono e⟩
 | tup xs=>obtain ⟨x,C,fs,h0,h4,dx,ks,h1,h2,h3⟩:=r;exact ⟨x,C,fs,h0,h4,dx,ks,h.trans h1,h2,h3.mono e⟩
 | kd w es=>obtain ⟨xs,h1,h2⟩:=r;exact ⟨xs,h.trans h1,Paired.mapP h2 fun p q z=>⟨z.1,z.2.1,z.2.2.1.mono e,z.2.2.2.mono e⟩⟩
 | _=>exact r
theorem OwnRep.there {Hv:Hp} {a:Addr} {t:T} (r:OwnRep K Hv H a t):H a≠none:=by
 cases t with
 | lst xs=>obtain ⟨vs,h1,h2⟩:=r;rw [h1];intro z;cases z
 | dic kvs=>obtain ⟨ks,h1,h2,h3⟩:=r;rw [h1];intro z;cases z
 | tup xs=>obtain ⟨x,C,fs,h0,h4,dx,ks,h1,h2,h3⟩:=r;rw [h1];intro z;cases z
 | kd w es=>obtain ⟨xs,h1,_⟩:=r;rw [h1];intro z;cases z
 | _=>exact r.elim
theorem R3.le (r:R3 K c Hb G A σ3 σ H) (l:Le c G A H H'):R3 K c Hb G A σ3 σ H' where
 inv:=l.inv
 base:=Same.trans r.base l.vis
 gk:=fun a h=>⟨(l.own a (List.mem_append.mpr (.inl h))).trans (r.gk a h).1,by rw [l.own a (List.mem_append.mpr (.inl h))];exact (r.gk a h).2.1,(r.gk a h).2.2⟩
 gv:=fun a h o e=>r.gv a h o (by rw [←l.own a (List.mem_append.mpr (.inl h))];exact e)
 nd:=r.nd
 ns:=r.ns
 l1:=r.l1
 l2:=r.l2
 at_:=fun i s o x h1 h2 h3=>by
  have z:=r.at_ i s o x h1 h2 h3
  cases s with
  | no=>exact z
  | val t=>obtain ⟨e,v,e2,q⟩:=z;exact ⟨e,v,e2,q.mono l.vis⟩
  | own t=>
    obtain ⟨a,e,e2,q⟩:=z
    refine ⟨a,e,e2,q.mono l.vis (l.own a (List.mem_append.mpr (.inr (mem_addrs.mpr ?_))))⟩
    subst e
    exact List.mem_of_getElem? h2
theorem R3.get (r:R3 K c Hb G A σ3 σ H) {i:Nat} (h:σ3[i]? =some (.val t)):∃v,σ[i]? =some (some v)∧Rep K (hid (c.S G A) H) v t:=by
 have hl:i<σ3.length:=(List.getElem?_eq_some_iff.mp h).1
 have h1:i<A.length:=by rw [r.l1];exact hl
 have h2:i<σ.length:=by rw [r.l2];exact hl
 obtain ⟨_,v,e,q⟩:=r.at_ i _ _ _ h (List.getElem?_eq_getElem h1) (List.getElem?_eq_getElem h2)
 exact ⟨v,by rw [List.getElem?_eq_getElem h2,e],q⟩
theorem R3.there (r:R3 K c Hb G A σ3 σ H) {a:Addr} (h:a∈c.S G A):H a≠none:=by
 rcases mem_S.mp h with h | h | h
 · exact c.on H r.inv a h
 · exact (r.gk a h).2.1
 · have h':=mem_addrs.mp h
   obtain ⟨i,hi⟩:=List.getElem?_of_mem h'
   have hl:i<A.length:=(List.getElem?_eq_some_iff.mp hi).1
   have h1:i<σ3.length:=by rw [←r.l1];exact hl
   have h2:i<σ.length:=by rw [r.l2];exact h1
   have z:=r.at_ i _ _ _ (List.getElem?_eq_getElem h1) hi (List.getElem?_eq_getElem h2)
   cases e:σ3[i] with
   | no=>rw [e] at z;cases z
   | val t=>rw [e] at z;obtain ⟨z,_⟩:=z;cases z
   | own t=>
     rw [e] at z
     obtain ⟨b,e1,e2,q⟩:=z
     cases e1
     exact q.there
theorem R3.free (r:R3 K c Hb G A σ3 σ H) {p:Addr} (h:H p=none):p ∉ c.S G A:=fun z=>r.there z h
theorem R3.new (r:R3 K c Hb G A σ3 σ H) {p:Addr} {o:HO} (h:H p=none):Le c G A H (upd H p o) where
 vis:=fun a u e=>by
  obtain ⟨e1,e2⟩:=hid_some e
  exact hid_mk (by rw [upd_ne (ne_of_none e1 h)];exact e1) e2
 own:=fun a ha=>by
  have hm:a∈c.S G A:=mem_S.mpr (by rcases List.mem_append.mp ha with z | z;exact .inr (.inl z);exact .inr (.inr z))
  have:a≠p:=fun z=>by subst z;exact r.there hm h
  rw [upd_ne this]
 inv:=c.st H _ (fun a ha=>by
  have hm:a∈c.S G A:=mem_S.mpr (.inl ha)
  have:a≠p:=fun z=>by subst z;exact r.there hm h
  rw [upd_ne this]) (fun a φ e=>by rw [upd_ne (ne_of_none e h)];exact e) r.inv
theorem R3.newAt (r:R3 K c Hb G A σ3 σ H) {p:Addr} {o:HO} (h:H p=none) (v:vis o=true:=by rfl):hid (c.S G A) (upd H p o) p=some o:=hid_mk upd_same (r.free h) v
theorem getElem?_set_cases {α:Type} {l:List α} {i j:Nat} {x y:α} (h:(l.set i x)[j]? =some y):(i=j∧y=x∧i<l.length)∨(i≠j∧l[j]? =some y):=by
 by_cases e:i=j
 · subst e
   have hl:i<l.length:=by
    have:=(List.getElem?_eq_some_iff.mp h).1
    simpa using this
   rw [List.getElem?_set_self hl] at h
   cases h
   exact .inl ⟨rfl,rfl,hl⟩
 · rw [List.getElem?_set_ne e] at h
   exact .inr ⟨e,h⟩
theorem addrs_set_sub {A:List (Option Addr)} {i:Nat}:∀a∈addrs (A.set i none),a∈addrs A:=fun a h=>by
 have h':=mem_addrs.mp h
 obtain ⟨j,hj⟩:=List.getElem?_of_mem h'
 rcases getElem?_set_cases hj with ⟨_,e,_⟩ | ⟨_,e⟩
 · cases e
 · exact mem_addrs.mpr (List.mem_of_getElem? e)
theorem S_sub {A A':List (Option Addr)} (h:∀a∈addrs A',a∈addrs A):∀a∈c.S G A',a∈c.S G A:=fun a z=>by
 rcases mem_S.mp z with z | z | z
 · exact mem_S.mpr (.inl z)
 · exact mem_S.mpr (.inr (.inl z))
 · exact mem_S.mpr (.inr (.inr (h a z)))
theorem nodup_filterMap_set:∀ {A:List (Option Addr)} {i:Nat},(addrs A).Nodup→(addrs (A.set i none)).Nodup
 | [],i,h=>by simpa using h
 | none::A,0,h=>h
 | some a::A,0,h=>(List.nodup_cons.mp (show (a::addrs A).Nodup from h)).2
 | none::A,i+1,h=>nodup_filterMap_set (A:=A) (i:=i) h
 | some a::A,i+1,h=>by
   have h':=List.nodup_cons.mp (show (a::addrs A).Nodup from h)
   exact List.nodup_cons.mpr ⟨fun z=>h'.1 (addrs_set_sub a z),nodup_filterMap_set (A:=A) (i:=i) h'.2⟩
theorem R3.set (r:R3 K c Hb G A σ3 σ H) (i:Nat) (q:Rep K (hid (c.S G A) H) v t):R3 K c Hb G (A.set i none) (σ3.set i (.val t)) (σ.set i (some v)) H:=by
 have sub:Same (hid (c.S G A) H) (hid (c.S G (A.set i none)) H):=hid_mono (S_sub addrs_set_sub)
 refine ⟨r.inv,Same.trans r.base sub,r.gk,r.gv,nodup_filterMap_set (A:=A) r.nd,fun a h=>r.ns a (addrs_set_sub a h),by rw [List.length_set,List.length_set,r.l1],by rw [List.length_set,List.length_set,r.l2], ?_⟩
 intro j s o x h1 h2 h3
 rcases getElem?_set_cases h1 with ⟨e,e1,_⟩ | ⟨e,e1⟩
 · subst e
   subst e1
   rcases getElem?_set_cases h2 with ⟨_,e2,_⟩ | ⟨e2,_⟩
   · subst e2
     rcases getElem?_set_cases h3 with ⟨_,e3,_⟩ | ⟨e3,_⟩
     · subst e3
       exact ⟨rfl,v,rfl,q.mono sub⟩
     · exact absurd rfl e3
   · exact absurd rfl e2
 · rw [List.getElem?_set_ne e] at h2 h3
   have z:=r.at_ j s o x e1 h2 h3
   cases s with
   | no=>exact z
   | val t=>obtain ⟨e,v,e2,q⟩:=z;exact ⟨e,v,e2,q.mono sub⟩
   | own t=>obtain ⟨a,e,e2,q⟩:=z;exact ⟨a,e,e2,q.mono sub rfl⟩
theorem R3.wipe1 (r:R3 K c Hb G A σ3 σ H) (i:Nat) (x:Option V):R3 K c Hb G (A.set i none) (σ3.set i .no) (σ.set i x) H:=by
 have sub:Same (hid (c.S G A) H) (hid (c.S G (A.set i none)) H):=hid_mono (S_sub addrs_set_sub)
 refine ⟨r.inv,Same.trans r.base sub,r.gk,r.gv,nodup_filterMap_set (A:=A) r.nd,fun a h=>r.ns a (addrs_set_sub a h),by rw [List.length_set,List.length_set,r.l1],by rw [List.length_set,List.length_set,r.l2], ?_⟩
 intro j s o x' h1 h2 h3
 rcases getElem?_set_cases h1 with ⟨e,e1,_⟩ | ⟨e,e1⟩
 · subst e
   subst e1
   rcases getElem?_set_cases h2 with ⟨_,e2,_⟩ | ⟨e2,_⟩
   · exact e2
   · exact absurd rfl e2
 · rw [List.getElem?_set_ne e] at h2 h3
   have z:=r.at_ j s o x' e1 h2 h3
   cases s with
   | no=>exact z
   | val t=>obtain ⟨e,v,e2,q⟩:=z;exact ⟨e,v,e2,q.mono sub⟩
   | own t=>obtain ⟨a,e,e2,q⟩:=z;exact ⟨a,e,e2,q.mono sub rfl⟩
end
end M3
namespace M3
open PySem L2
structure Xn where
 cls:Value
 fs:List (Str×T)
def XRep (K:PySem.W.Frag) (Hv:Hp) (cls:Value) (dd:Option Addr) (x:Xn):Prop:=
 x.cls=cls∧match dd with
  | none=>x.fs=[]
  | some d=>∃fs,Hv d=some (.xd fs)∧fs.map (·.1)=x.fs.map (·.1)∧RepL K Hv (fs.map (·.2)) (x.fs.map (·.2))
abbrev X3:=Xn→Prop
abbrev G3 (β:Type):=List Sl→(β→Prop)→X3→Prop
abbrev E3:=G3 T
abbrev B3:=G3 Bool
abbrev A3:=G3 (List T)
def LiftG (K:PySem.W.Frag) (c:Cf) (W:WX) {α β:Type} (rel:Hp→α→β→Prop) (te:St→Hp→(α→Hp→Prop)→Prop) (t:G3 β):Prop:=
 ∀σ3 Q3 X,t σ3 Q3 X→∀Hb G A σ H Q,R3 K c Hb G A σ3 σ H→
  (∀v d H',Le c G A H H'→rel (hid (c.S G A) H') v d→Q3 d→Q v H')→
  (∀cls dd x H',Le c G A H H'→XRep K (hid (c.S G A) H') cls dd x→X x→W cls dd σ H')→te σ H Q
abbrev Lift (K:PySem.W.Frag) (c:Cf) (W:WX) (te:TE) (t:E3):Prop:=LiftG K c W (Rep K) te t
abbrev LiftT (K:PySem.W.Frag) (c:Cf) (W:WX) (te:TT) (t:B3):Prop:=LiftG K c W (fun _ (b b':Bool)=>b=b') te t
abbrev LiftA (K:PySem.W.Frag) (c:Cf) (W:WX) (te:TA) (t:A3):Prop:=LiftG K c W (RepL K) te t
abbrev LiftO (K:PySem.W.Frag) (c:Cf) (W:WX) (te:TO) (t:G3 (Option Int)):Prop:=LiftG K c W (fun _ (b b':Option Int)=>b=b') te t
def ob {α:Type} (o:Option α) (Q:α→Prop):Prop:=match o with | some a=>Q a | none=>False
@[simp] theorem ob_some {α:Type} (a:α) (Q:α→Prop):ob (some a) Q=Q a:=rfl
@[simp] theorem ob_none {α:Type} (Q:α→Prop):ob none Q=False:=rfl
theorem ob_iff {α:Type} {o:Option α} {Q:α→Prop}:ob o Q↔∃a,o=some a∧Q a:=by
 cases o with
 | none=>exact ⟨fun h=>h.elim,fun ⟨_,h,_⟩=>by cases h⟩
 | some a=>exact ⟨fun h=>⟨a,rfl,h⟩,fun ⟨_,h,q⟩=>by cases h;exact q⟩
def asI:T→Option Int
 | .int i=>some i
 | _=>none
def asL:T→Option (List T)
 | .lst i=>some i
 | _=>none
def asT:T→Option (List T)
 | .tup i=>some i
 | _=>none
def asS:T→Option Str
 | .str i=>some i
 | _=>none
def asN:T→Option Unit
 | .non=>some ()
 | _=>none
def asB:T→Option Bool
 | .bl b=>some b
 | _=>none
def one {α:Type}:List α→Option α
 | [x]=>some x
 | _=>none
def two {α:Type}:List α→Option (α×α)
 | [x,y]=>some (x,y)
 | _=>none
@[simp] theorem asI_non:asI .non=none:=rfl
@[simp] theorem asI_bl (b:Bool):asI (.bl b)=none:=rfl
@[simp] theorem asI_int (b:Int):asI (.int b)=some b:=rfl
@[simp] theorem asI_str (b:Str):asI (.str b)=none:=rfl
@[simp] theorem asI_tup (b:List T):asI (.tup b)=none:=rfl
@[simp] theorem asI_lst (b:List T):asI (.lst b)=none:=rfl
@[simp] theorem asL_non:asL .non=none:=rfl
@[simp] theorem asL_bl (b:Bool):asL (.bl b)=none:=rfl
@[simp] theorem asL_int (b:Int):asL (.int b)=none:=rfl
@[simp] theorem asL_str (b:Str):asL (.str b)=none:=rfl
@[simp] theorem asL_tup (b:List T):asL (.tup b)=none:=rfl
@[simp] theorem asL_lst (b:List T):asL (.lst b)=some b:=rfl
@[simp] theorem asT_non:asT .non=none:=rfl
@[simp] theorem asT_bl (b:Bool):asT (.bl b)=none:=rfl
@[simp] theorem asT_int (b:Int):asT (.int b)=none:=rfl
@[simp] theorem asT_str (b:Str):asT (.str b)=none:=rfl
@[simp] theorem asT_tup (b:List T):asT (.tup b)=some b:=rfl
@[simp] theorem asT_lst (b:List T):asT (.lst b)=none:=rfl
@[simp] theorem asS_non:asS .non=none:=rfl
@[simp] theorem asS_bl (b:Bool):asS (.bl b)=none:=rfl
@[simp] theorem asS_int (b:Int):asS (.int b)=none:=rfl
@[simp] theorem asS_str (b:Str):asS (.str b)=some b:=rfl
@[simp] theorem asS_tup (b:List T):asS (.tup b)=none:=rfl
@[simp] theorem asS_lst (b:List T):asS (.lst b)=none:=rfl
@[simp] theorem asN_non:asN .non=some ():=rfl
@[simp] theorem asN_bl (b:Bool):asN (.bl b)=none:=rfl
@[simp] theorem asN_int (b:Int):asN (.int b)=none:=rfl
@[simp] theorem asN_str (b:Str):asN (.str b)=none:=rfl
@[simp] theorem asN_tup (b:List T):asN (.tup b)=none:=rfl
@[simp] theorem asN_lst (b:List T):asN (.lst b)=none:=rfl
@[simp] theorem asB_non:asB .non=none:=rfl
@[simp] theorem asB_bl (b:Bool):asB (.bl b)=some b:=rfl
@[simp] theorem asB_int (b:Int):asB (.int b)=none:=rfl
@[simp] theorem asB_str (b:Str):asB (.str b)=none:=rfl
@[simp] theorem asB_tup (b:List T):asB (.tup b)=none:=rfl
@[simp] theorem asB_lst (b:List T):asB (.lst b)=none:=rfl
@[simp] theorem one_1 {α:Type} (x:α):one [x]=some x:=rfl
@[simp] theorem two_2 {α:Type} (x y:α):two [x,y]=some (x,y):=rfl
theorem asI_is {x:T} {i:Int} (h:asI x=some i):x= .int i:=by cases x<;>cases h;rfl
theorem asL_is {x:T} {i:List T} (h:asL x=some i):x= .lst i:=by cases x<;>cases h;rfl
theorem asT_is {x:T} {i:List T} (h:asT x=some i):x= .tup i:=by cases x<;>cases h;rfl
theorem asS_is {x:T} {i:Str} (h:asS x=some i):x= .str i:=by cases x<;>cases h;rfl
theorem asN_is {x:T} {i:Unit} (h:asN x=some i):x= .non:=by cases x<;>cases h;rfl
theorem asB_is {x:T} {i:Bool} (h:asB x=some i):x= .bl i:=by cases x<;>cases h;rfl
theorem one_is {α:Type} {l:List α} {x:α} (h:one l=some x):l=[x]:=by
 match l,h with
 | [y],h=>cases h;rfl
theorem two_is {α:Type} {l:List α} {x:α×α} (h:two l=some x):l=[x.1,x.2]:=by
 match l,h with
 | [y,z],h=>cases h;rfl
def slot (σ:List Sl) (i:Nat):Option T:=match σ[i]? with | some (.val t)=>some t | _=>none
def v3 (i:Nat):E3:=fun σ Q _=>ob (slot σ i) Q
def k3 (t:T):E3:=fun _ Q _=>Q t
def op3 (r:T→T→(T→Prop)→Prop) (a b:E3):E3:=fun σ Q X=>a σ (fun x=>b σ (fun y=>r x y Q) X) X
def un3 (r:T→(T→Prop)→Prop) (a:E3):E3:=fun σ Q X=>a σ (fun x=>r x Q) X
def nil3:A3:=fun _ Q _=>Q []
def cons3 (a:E3) (r:A3):A3:=fun σ Q X=>a σ (fun x=>r σ (fun xs=>Q (x::xs)) X) X
def call3 (r:List T→(T→Prop)→Prop) (a:A3):E3:=fun σ Q X=>a σ (fun xs=>r xs Q) X
def RL2 (K:PySem.W.Frag) (r:R2) (r3:T→T→(T→Prop)→Prop):Prop:=
 ∀(c:Cf) x y Q3,r3 x y Q3→∀Hb G A σ3 σ H vx vy Q,R3 K c Hb G A σ3 σ H→Rep K (hid (c.S G A) H) vx x→Rep K (hid (c.S G A) H) vy y→
  (∀v d H',Le c G A H H'→Rep K (hid (c.S G A) H') v d→Q3 d→Q v H')→r vx vy H Q
def RLn (K:PySem.W.Frag) (r:List V→Hp→VK→Prop) (r3:List T→(T→Prop)→Prop):Prop:=
 ∀(c:Cf) xs Q3,r3 xs Q3→∀Hb G A σ3 σ H vs Q,R3 K c Hb G A σ3 σ H→RepL K (hid (c.S G A) H) vs xs→
  (∀v d H',Le c G A H H'→Rep K (hid (c.S G A) H') v d→Q3 d→Q v H')→r vs H Q
section
variable {K:PySem.W.Frag} {c:Cf} {W:WX} {ta tb te:TE} {a b e:E3}
theorem slot_get {σ:List Sl} {i:Nat} {t:T} (h:slot σ i=some t):σ[i]? =some (.val t):=by
 unfold slot at h
 split at h
 · cases h;assumption
 · cases h
theorem lift_v (i:Nat):Lift K c W (tVar i) (v3 i):=by
 intro σ3 Q3 X h Hb G A σ H Q R k e
 obtain ⟨t,h1,h2⟩:=ob_iff.mp h
 obtain ⟨v,h3,h4⟩:=R.get (slot_get h1)
 exact ⟨v,h3,k v t H (Le.refl R.inv) h4 h2⟩
theorem lift_k {v:V} {t:T} (r:∀H,Rep K H v t):Lift K c W (tC v) (k3 t):=by
 intro σ3 Q3 X h Hb G A σ H Q R k e
 exact k v t H (Le.refl R.inv) (r _) h
theorem lift_int (i:Int):Lift K c W (tC (.int i)) (k3 (.int i)):=lift_k fun _=>.int i
theorem lift_str (x:Str):Lift K c W (tC (.str x)) (k3 (.str x)):=lift_k fun _=>.str x
theorem lift_bl (b:Bool):Lift K c W (tC (.bl b)) (k3 (.bl b)):=lift_k fun _=>.bl b
theorem lift_non:Lift K c W (tC .non) (k3 .non):=lift_k fun _=>.non
theorem lift_ty (n:String):Lift K c W (tC (.ty n)) (k3 (.ty n)):=lift_k fun _=>.ty n
theorem lift_op {r:R2} {r3:T→T→(T→Prop)→Prop} (hr:RL2 K r r3) (ha:Lift K c W ta a) (hb:Lift K c W tb b):Lift K c W (tOp r ta tb) (op3 r3 a b):=by
 intro σ3 Q3 X h Hb G A σ H Q R k e
 refine ha _ _ _ h Hb G A σ H _ R (fun vx x H1 L1 rx hx=> ?_) e
 refine hb _ _ _ hx Hb G A σ H1 _ (R.le L1) (fun vy y H2 L2 ry hy=> ?_) (fun cls dd x H' L=>e cls dd x H' (L1.trans L))
 exact hr c _ _ _ hy Hb G A σ3 σ H2 vx vy Q ((R.le L1).le L2) (rx.mono L2.vis) ry (fun v d H3 L3=>k v d H3 ((L1.trans L2).trans L3))
theorem lift_nil:LiftA K c W tNil nil3:=by
 intro σ3 Q3 X h Hb G A σ H Q R k e
 exact k [] [] H (Le.refl R.inv) .nil h
theorem lift_cons {tr:TA} {r:A3} (ha:Lift K c W ta a) (hr:LiftA K c W tr r):LiftA K c W (tCons ta tr) (cons3 a r):=by
 intro σ3 Q3 X h Hb G A σ H Q R k e
 refine ha _ _ _ h Hb G A σ H _ R (fun vx x H1 L1 rx hx=> ?_) e
 refine hr _ _ _ hx Hb G A σ H1 _ (R.le L1) (fun vy y H2 L2 ry hy=> ?_) (fun cls dd x H' L=>e cls dd x H' (L1.trans L))
 exact k _ _ H2 (L1.trans L2) (.cons (rx.mono L2.vis) ry) hy
theorem lift_cb {r:List V→Hp→VK→Prop} {r3:List T→(T→Prop)→Prop} {t:TA} {x:A3} (hr:RLn K r r3) (ha:LiftA K c W t x):Lift K c W (tCB r t) (call3 r3 x):=by
 intro σ3 Q3 X h Hb G A σ H Q R k e
 refine ha _ _ _ h Hb G A σ H _ R (fun vx x H1 L1 rx hx=> ?_) e
 exact hr c _ _ hx Hb G A σ3 σ H1 vx Q (R.le L1) rx (fun v d H3 L3=>k v d H3 (L1.trans L3))
def tup3 (x:A3):E3:=fun σ Q X=>x σ (fun xs=>xs.length≤sizeLine∧Q (.tup xs)) X
def lst3 (x:A3):E3:=fun σ Q X=>x σ (fun xs=>xs.length≤sizeLine∧Q (.lst xs)) X
theorem lift_tup {t:TA} {x:A3} (ha:LiftA K c W t x):Lift K c W (tTup t) (tup3 x):=by
 intro σ3 Q3 X h Hb G A σ H Q R k e
 refine ha _ _ _ h Hb G A σ H _ R (fun vs xs H1 L1 rx hx=> ?_) e
 refine ⟨by rw [rx.length];exact hx.1,fun p o hp hd=> ?_⟩
 have L2:=(R.le L1).new (o:=.frz o (.tup vs)) hp
 exact k _ _ _ (L1.trans L2) (.mkT (FqT.of hd ((R.le L1).newAt hp)) (rx.mono L2.vis)) hx.2
theorem lift_lst {t:TA} {x:A3} (ha:LiftA K c W t x):Lift K c W (tLst t) (lst3 x):=by
 intro σ3 Q3 X h Hb G A σ H Q R k e
 refine ha _ _ _ h Hb G A σ H _ R (fun vs xs H1 L1 rx hx=> ?_) e
 refine ⟨by rw [rx.length];exact hx.1,fun p hp=> ?_⟩
 have L2:=(R.le L1).new (o:=.lst vs) hp
 exact k _ _ _ (L1.trans L2) (.mkL ((R.le L1).newAt hp) (rx.mono L2.vis)) hx.2
def tst3 (a:E3):B3:=fun σ Q X=>a σ (fun x=>ob (asB x) Q) X
def and3 (a b:B3):B3:=fun σ Q X=>a σ (fun x=>if x=true then b σ Q X else Q false) X
def or3 (a b:B3):B3:=fun σ Q X=>a σ (fun x=>if x=true then Q true else b σ Q X) X
def not3 (a:B3):B3:=fun σ Q X=>a σ (fun x=>Q (!x)) X
def andV3 (a b:E3):E3:=fun σ Q X=>a σ (fun x=>ob (asB x) fun k=>if k=true then b σ Q X else Q (.bl false)) X
def orV3 (a b:E3):E3:=fun σ Q X=>a σ (fun x=>ob (asB x) fun k=>if k=true then Q (.bl true) else b σ Q X) X
def notV3 (a:E3):E3:=fun σ Q X=>a σ (fun x=>ob (asB x) fun k=>Q (.bl (!k))) X
def if3 (t:B3) (a b:E3):E3:=fun σ Q X=>t σ (fun x=>if x=true then a σ Q X else b σ Q X) X
theorem lift_tst (ha:Lift K c W ta a):LiftT K c W (tTest ta) (tst3 a):=by
 intro σ3 Q3 X h Hb G A σ H Q R k e
 refine ha _ _ _ h Hb G A σ H _ R (fun vx x H1 L1 rx hx=> ?_) e
 obtain ⟨b,eb,q⟩:=ob_iff.mp hx
 cases asB_is eb
 exact ⟨b,rx.blI,k b b H1 L1 rfl q⟩
theorem lift_tB (ha:Lift K c W ta a):LiftT K c W (tB ta) (tst3 a):=lift_tst ha
theorem lift_and {t u:TT} {x y:B3} (ha:LiftT K c W t x) (hb:LiftT K c W u y):LiftT K c W (tAnd t u) (and3 x y):=by
 intro σ3 Q3 X h Hb G A σ H Q R k e
 refine ha _ _ _ h Hb G A σ H _ R (fun vx x H1 L1 rx hx=> ?_) e
 subst rx
 cases vx with
 | true=>exact iteT (hb _ _ _ (by simpa using hx) Hb G A σ H1 _ (R.le L1) (fun v d H' L=>k v d H' (L1.trans L)) (fun cls dd x H' L=>e cls dd x H' (L1.trans L)))
 | false=>exact iteF (k false false H1 L1 rfl (by simpa using hx))
theorem lift_or {t u:TT} {x y:B3} (ha:LiftT K c W t x) (hb:LiftT K c W u y):LiftT K c W (tOr t u) (or3 x y):=by
 intro σ3 Q3 X h Hb G A σ H Q R k e
 refine ha _ _ _ h Hb G A σ H _ R (fun vx x H1 L1 rx hx=> ?_) e
 subst rx
 cases vx with
 | false=>exact iteF (hb _ _ _ (by simpa using hx) Hb G A σ H1 _ (R.le L1) (fun v d H' L=>k v d H' (L1.trans L)) (fun cls dd x H' L=>e cls dd x H' (L1.trans L)))
 | true=>exact iteT (k true true H1 L1 rfl (by simpa using hx))
theorem lift_not {t:TT} {x:B3} (ha:LiftT K c W t x):LiftT K c W (tNot t) (not3 x):=by
 intro σ3 Q3 X h Hb G A σ H Q R k e
 refine ha _ _ _ h Hb G A σ H _ R (fun vx x H1 L1 rx hx=> ?_) e
 subst rx
 exact k _ _ H1 L1 rfl hx
theorem lift_andV (ha:Lift K c W ta a) (hb:Lift K c W tb b):Lift K c W (tAndV ta tb) (andV3 a b):=by
 intro σ3 Q3 X h Hb G A σ H Q R k e
 refine ha _ _ _ h Hb G A σ H _ R (fun vx x H1 L1 rx hx=> ?_) e
 obtain ⟨z,eb,hy⟩:=ob_iff.mp hx
 cases asB_is eb
 refine ⟨z,rx.blI, ?_⟩
 cases z with
 | true=>exact iteT (hb _ _ _ (by simpa using hy) Hb G A σ H1 _ (R.le L1) (fun v d H' L=>k v d H' (L1.trans L)) (fun cls dd x H' L=>e cls dd x H' (L1.trans L)))
 | false=>exact iteF (k _ _ H1 L1 (.bl false) (by simpa using hy))
theorem lift_notV (ha:Lift K c W ta a):Lift K c W (tNotV ta) (notV3 a):=by
 intro σ3 Q3 X h Hb G A σ H Q R k e
 refine ha _ _ _ h Hb G A σ H _ R (fun vx x H1 L1 rx hx=> ?_) e
 obtain ⟨z,eb,hy⟩:=ob_iff.mp hx
 cases asB_is eb
 exact ⟨z,rx.blI,k _ _ H1 L1 (.bl _) hy⟩
theorem lift_if {t:TT} {x:B3} (ht:LiftT K c W t x) (ha:Lift K c W ta a) (hb:Lift K c W tb b):Lift K c W (tIf t ta tb) (if3 x a b):=by
 intro σ3 Q3 X h Hb G A σ H Q R k e
 refine ht _ _ _ h Hb G A σ H _ R (fun vx x H1 L1 rx hx=> ?_) e
 subst rx
 cases vx with
 | true=>exact iteT (ha _ _ _ (by simpa using hx) Hb G A σ H1 _ (R.le L1) (fun v d H' L=>k v d H' (L1.trans L)) (fun cls dd x H' L=>e cls dd x H' (L1.trans L)))
 | false=>exact iteF (hb _ _ _ (by simpa using hx) Hb G A σ H1 _ (R.le L1) (fun v d H' L=>k v d H' (L1.trans L)) (fun cls dd x H' L=>e cls dd x H' (L1.trans L)))
def chain3 (r r':T→T→(T→Prop)→Prop) (a b d:E3):E3:=fun σ Q X=>a σ (fun x=>b σ (fun y=>r x y fun z=>ob (asB z) fun k=>if k=true then d σ (fun w=>r' y w Q) X else Q (.bl false)) X) X
theorem lift_chain {r r':R2} {q q':T→T→(T→Prop)→Prop} {tc:TE} {d:E3} (hr:RL2 K r q) (hr':RL2 K r' q') (ha:Lift K c W ta a) (hb:Lift K c W tb b) (hc:Lift K c W tc d):Lift K c W (tChain r r' ta tb tc) (chain3 q q' a b d):=by
 intro σ3 Q3 X h Hb G A σ H Q R k e
 refine ha _ _ _ h Hb G A σ H _ R (fun vx x H1 L1 rx hx=> ?_) e
 refine hb _ _ _ hx Hb G A σ H1 _ (R.le L1) (fun vy y H2 L2 ry hy=> ?_) (fun cls dd x H' L=>e cls dd x H' (L1.trans L))
 refine hr c _ _ _ hy Hb G A σ3 σ H2 vx vy _ ((R.le L1).le L2) (rx.mono L2.vis) ry (fun vz z H3 L3 rz hz=> ?_)
 obtain ⟨j,eb,hz2⟩:=ob_iff.mp hz
 cases asB_is eb
 refine ⟨j,rz.blI, ?_⟩
 have L:=(L1.trans L2).trans L3
 cases j with
 | false=>exact iteF (k _ _ H3 L (.bl false) (by simpa using hz2))
 | true=>
   refine iteT ?_
   refine hc _ _ _ (show d σ3 _ X by simpa using hz2) Hb G A σ H3 _ (R.le L) (fun vw w H4 L4 rw' hw=> ?_) (fun cls dd x H' L'=>e cls dd x H' (L.trans L'))
   exact hr' c _ _ _ hw Hb G A σ3 σ H4 vy vw Q ((R.le L).le L4) (ry.mono (Same.trans L3.vis L4.vis)) rw' (fun v d H5 L5=>k v d H5 ((L.trans L4).trans L5))
end
structure N3 where
 nx:List Sl→Prop
 rt:T→Prop
 bk:List Sl→Prop:=fun _=>False
 ct:List Sl→Prop:=fun _=>False
 xn:List Sl→Xn→Prop:=fun _ _=>False
abbrev S3:=N3→List Sl→Prop
structure Fin3 (K:PySem.W.Frag) (c:Cf) (Hb:Hp) (G:List Addr) (H:Hp):Prop where
 inv:c.I H
 base:Same (hid (c.S0++G) Hb) (hid (c.S0++G) H)
 gk:∀a∈G,H a=Hb a
theorem R3.fin {K:PySem.W.Frag} {c:Cf} {Hb H:Hp} {G:List Addr} {A:List (Option Addr)} {σ3:List Sl} {σ:St} (r:R3 K c Hb G A σ3 σ H):Fin3 K c Hb G H:=
 ⟨r.inv,Same.trans r.base (hid_mono fun a h=>by rcases List.mem_append.mp h with h | h;exact mem_S.mpr (.inl h);exact mem_S.mpr (.inr (.inl h))),fun a h=>(r.gk a h).1⟩
theorem hid_fin {c:Cf} {H:Hp} {G:List Addr} {A:List (Option Addr)}:Same (hid (c.S G A) H) (hid (c.S0++G) H):=
 hid_mono fun a h=>by rcases List.mem_append.mp h with h | h;exact mem_S.mpr (.inl h);exact mem_S.mpr (.inr (.inl h))
def FinO (K:PySem.W.Frag) (c:Cf) (Hb:Hp) (G:List Addr) (H:Hp) (v:V) (d:T):Prop:=
 ∃D,v= .ref D∧D ∉ c.S0++G∧c.I H∧Same (hid (c.S0++G) Hb) (hid (D::(c.S0++G)) H)∧(∀a∈G,H a=Hb a)∧OwnRep K (hid (D::(c.S0++G)) H) H D d
def FinR (K:PySem.W.Frag) (c:Cf) (Hb:Hp) (G:List Addr) (H:Hp) (v:V) (d:T):Prop:=
 match c.fr with
 | false=>Fin3 K c Hb G H∧Rep K (hid (c.S0++G) H) v d
 | true=>FinO K c Hb G H v d
theorem FinR.val {K:PySem.W.Frag} {c:Cf} {Hb:Hp} {G:List Addr} {H:Hp} {v:V} {d:T} (e:c.fr=false) (F:Fin3 K c Hb G H) (r:Rep K (hid (c.S0++G) H) v d):FinR K c Hb G H v d:=by
 unfold FinR
 rw [e]
 exact ⟨F,r⟩
theorem FinR.new {K:PySem.W.Frag} {c:Cf} {Hb:Hp} {G:List Addr} {H:Hp} {v:V} {d:T} (e:c.fr=true) (F:FinO K c Hb G H v d):FinR K c Hb G H v d:=by
 unfold FinR
 rw [e]
 exact F
structure To (K:PySem.W.Frag) (c:Cf) (W:WX) (Hb:Hp) (G:List Addr) (N:N3) (D:Ends):Prop where
 nx:∀A σ3 σ H,R3 K c Hb G A σ3 σ H→N.nx σ3→D.nx σ H
 rt:∀v d H,FinR K c Hb G H v d→N.rt d→D.rt v H
 bk:∀A σ3 σ H,R3 K c Hb G A σ3 σ H→N.bk σ3→D.bk σ H
 ct:∀A σ3 σ H,R3 K c Hb G A σ3 σ H→N.ct σ3→D.ct σ H
 xn:∀A σ3 σ H cls dd x,R3 K c Hb G A σ3 σ H→XRep K (hid (c.S G A) H) cls dd x→N.xn σ3 x→W cls dd σ H
def LiftS (K:PySem.W.Frag) (c:Cf) (W:WX) (ts:TS) (t:S3):Prop:=
 ∀N σ3,t N σ3→∀Hb G A σ H (D:Ends),R3 K c Hb G A σ3 σ H→To K c W Hb G N D→ts D σ H
def next3:S3:=fun N σ=>N.nx σ
def seq3 (t u:S3):S3:=fun N σ=>t {N with nx:=u N} σ
def brk3:S3:=fun N σ=>N.bk σ
def cont3:S3:=fun N σ=>N.ct σ
def drop3 (a:E3):S3:=fun N σ=>a σ (fun _=>N.nx σ) (N.xn σ)
def ret3 (a:E3):S3:=fun N σ=>a σ N.rt (N.xn σ)
def retN3:S3:=fun N _=>N.rt .non
def ifs3 (c:B3) (t u:S3):S3:=fun N σ=>c σ (fun b=>if b=true then t N σ else u N σ) (N.xn σ)
abbrev TG3:=T→List Sl→(List Sl→Prop)→Prop
def name3 (i:Nat):TG3:=fun d σ Q=>Q (σ.set i (.val d))
def Sets (vs:List Nat) (A A':List (Option Addr)) (σ σ':St):Prop:=σ'.length=σ.length∧(∀j:Nat,j ∉ vs→σ'[j]? =σ[j]? ∧A'[j]? =A[j]?)∧∀a∈addrs A',a∈addrs A
theorem Sets.mono {vs ws:List Nat} {A A':List (Option Addr)} {σ σ':St} (h:Sets vs A A' σ σ') (s:∀j∈vs,j∈ws):Sets ws A A' σ σ':=⟨h.1,fun j hj=>h.2.1 j fun z=>hj (s j z),h.2.2⟩
theorem Sets.trans {vs:List Nat} {A A1 A2:List (Option Addr)} {σ σ1 σ2:St} (a:Sets vs A A1 σ σ1) (b:Sets vs A1 A2 σ1 σ2):Sets vs A A2 σ σ2:=
 ⟨b.1.trans a.1,fun j hj=>⟨(b.2.1 j hj).1.trans (a.2.1 j hj).1,(b.2.1 j hj).2.trans (a.2.1 j hj).2⟩,fun x z=>a.2.2 x (b.2.2 x z)⟩
def LiftTgB (K:PySem.W.Frag) (c:Cf) (w:Bool) (vs:List Nat) (g:TG) (g3:TG3):Prop:=
 ∀d σ3 Q3,g3 d σ3 Q3→∀Hb G A σ H v Q,R3 K c Hb G A σ3 σ H→RepB K w (hid (c.S G A) H) v d→
  (∀A' σ3' σ' H',R3 K c Hb G A' σ3' σ' H'→H'=H→Sets vs A A' σ σ'→Q3 σ3'→Q σ' H')→g v σ H Q
abbrev LiftTg (K:PySem.W.Frag) (c:Cf) (vs:List Nat) (g:TG) (g3:TG3):Prop:=LiftTgB K c false vs g g3
def asg3 (a:E3) (g:TG3):S3:=fun N σ=>a σ (fun d=>g d σ N.nx) (N.xn σ)
section
variable {K:PySem.W.Frag} {c:Cf} {W:WX} {ta tb te:TE} {a b e:E3} {t u:TS} {x y:S3}
theorem lift_next:LiftS K c W tNext next3:=fun N σ3 h Hb G A σ H D R Z=>Z.nx _ _ _ _ R h
theorem lift_seq (h1:LiftS K c W t x) (h2:LiftS K c W u y):LiftS K c W (tSeq t u) (seq3 x y):=by
 intro N σ3 h Hb G A σ H D R Z
 exact h1 _ _ h Hb G A σ H _ R ⟨fun A' σ3' σ' H' R' q=>h2 _ _ q Hb G A' σ' H' D R' Z,Z.rt,Z.bk,Z.ct,Z.xn⟩
theorem lift_ret (ha:Lift K c W ta a) (ef:c.fr=false:=by rfl):LiftS K c W (tRet ta) (ret3 a):=by
 intro N σ3 h Hb G A σ H D R Z
 exact ha _ _ _ h Hb G A σ H _ R (fun v d H' L r q=>Z.rt _ _ _ (.val ef (R.le L).fin (r.mono hid_fin)) q) (fun cls dd x H' L r q=>Z.xn _ _ _ _ _ _ _ (R.le L) r q)
theorem lift_ifs {k:TT} {z:B3} (hc:LiftT K c W k z) (h1:LiftS K c W t x) (h2:LiftS K c W u y):LiftS K c W (tIfS k t u) (ifs3 z x y):=by
 intro N σ3 h Hb G A σ H D R Z
 refine hc _ _ _ h Hb G A σ H _ R (fun vx w H' L r q=> ?_) (fun cls dd x H' L r q=>Z.xn _ _ _ _ _ _ _ (R.le L) r q)
 subst r
 cases vx with
 | true=>exact iteT (h1 _ _ (by simpa using q) Hb G A σ H' D (R.le L) Z)
 | false=>exact iteF (h2 _ _ (by simpa using q) Hb G A σ H' D (R.le L) Z)
theorem lift_name (i:Nat) {vs:List Nat} (hi:i∈vs):LiftTg K c vs (gName i) (name3 i):=by
 intro d σ3 Q3 h Hb G A σ H v Q R r k
 exact k _ _ _ _ (R.set i r.f) rfl ⟨by rw [List.length_set],fun j hj=>by
  have:i≠j:=fun z=>by subst z;exact hj hi
  rw [List.getElem?_set_ne this,List.getElem?_set_ne this];exact ⟨rfl,rfl⟩,addrs_set_sub⟩ h
theorem lift_asg {vs:List Nat} {g:TG} {g3:TG3} (ha:Lift K c W ta a) (hg:LiftTg K c vs g g3):LiftS K c W (tAsg ta g) (asg3 a g3):=by
 intro N σ3 h Hb G A σ H D R Z
 refine ha _ _ _ h Hb G A σ H _ R (fun v d H' L r q=> ?_) (fun cls dd x H' L r q=>Z.xn _ _ _ _ _ _ _ (R.le L) r q)
 exact hg _ _ _ q Hb G A σ H' v _ (R.le L) (.inl r) (fun A' σ3' σ' H2 R' _ _ q'=>Z.nx _ _ _ _ R' q')
end
def gnil3:List T→List Sl→(List Sl→Prop)→Prop:=fun ds σ Q=>match ds with | []=>Q σ | _=>False
def gcons3 (g:TG3) (r:List T→List Sl→(List Sl→Prop)→Prop):List T→List Sl→(List Sl→Prop)→Prop:=fun ds σ Q=>match ds with | d::l=>g d σ fun σ'=>r l σ' Q | []=>False
def gtup3 (n:Nat) (r:List T→List Sl→(List Sl→Prop)→Prop):TG3:=fun d σ Q=>ob (asT d) fun ds=>ds.length=n∧r ds σ Q
def LiftTgs (K:PySem.W.Frag) (c:Cf) (ws:List Nat) (g:TGs) (g3:List T→List Sl→(List Sl→Prop)→Prop):Prop:=
 ∀ds σ3 Q3,g3 ds σ3 Q3→∀Hb G A σ H vs Q,R3 K c Hb G A σ3 σ H→RepL K (hid (c.S G A) H) vs ds→
  (∀A' σ3' σ' H',R3 K c Hb G A' σ3' σ' H'→H'=H→Sets ws A A' σ σ'→Q3 σ3'→Q σ' H')→g vs σ H Q
section
variable {K:PySem.W.Frag} {c:Cf} {ws:List Nat}
theorem lift_gnil:LiftTgs K c ws gNil gnil3:=by
 intro ds σ3 Q3 h Hb G A σ H vs Q R r k
 cases r with
 | cons _ _=>exact h.elim
 | nil=>exact ⟨rfl,k _ _ _ _ R rfl ⟨rfl,fun _ _=>⟨rfl,rfl⟩,fun _ z=>z⟩ h⟩
theorem lift_gcons {g:TG} {g3:TG3} {u:TGs} {u3:List T→List Sl→(List Sl→Prop)→Prop} (h1:LiftTg K c ws g g3) (h2:LiftTgs K c ws u u3):LiftTgs K c ws (gCons g u) (gcons3 g3 u3):=by
 intro ds σ3 Q3 h Hb G A σ H vs Q R r k
 cases r with
 | nil=>exact h.elim
 | cons r1 r2=>
   refine ⟨_,_,rfl,h1 _ _ _ h Hb G A σ H _ _ R (.inl r1) (fun A' σ3' σ' H' R' e sub q=> ?_)⟩
   subst e
   exact h2 _ _ _ q Hb G A' σ' H' _ _ R' (RepL.mono r2 (hid_mono (S_sub sub.2.2))) (fun A2 σ2 σ2' H2 R2 e2 sub2 q2=>k _ _ _ _ R2 e2 (sub.trans sub2) q2)
theorem lift_gtup {n:Nat} {u:TGs} {u3:List T→List Sl→(List Sl→Prop)→Prop} {w:Bool} (h:LiftTgs K c ws u u3):LiftTgB K c w ws (gTup K n u) (gtup3 n u3):=by
 intro d σ3 Q3 hh Hb G A σ H v Q R r k
 obtain ⟨ds,ed,hl,hh1⟩:=ob_iff.mp hh
 cases asT_is ed
 obtain ⟨a,vs,rfl,hs,rl⟩:=r.tupI
 exact ⟨a,vs,rfl,Same.sqT hid_same hs,by rw [rl.length];exact hl,h _ _ _ hh1 Hb G A σ H vs Q R rl k⟩
end
abbrev F3:=List T→(T→Prop)→X3→Prop
def sp3 (K:PySem.W.Frag) (n:Nat) (f:F3):Sp:=fun vs H Q E=>∃S ds,ds.length=n∧RepL K (hid S H) vs ds∧(∀a∈S,H a≠none)∧∃Q3 X,f ds Q3 X∧
 (∀v d H',Same (hid S H) (hid S H')→(∀a∈S,H' a=H a)→Rep K (hid S H') v d→Q3 d→Q v H')∧
 (∀cls dd x H',Same (hid S H) (hid S H')→(∀a∈S,H' a=H a)→XRep K (hid S H') cls dd x→X x→E cls dd H')
theorem sp3_len {K:PySem.W.Frag} {n:Nat} {f:F3} {ps:List Str} (h:ps.length=n):∀vs H Q E,sp3 K n f vs H Q E→vs.length=ps.length:=by
 intro vs H Q E h'
 obtain ⟨S,ds,hl,r,_⟩:=h'
 rw [r.length,hl,h]
def cf0:Cf:=⟨[],fun _=>True,fun _ _ _ _ h=>h,fun _ _ a h=>(by cases h),fun _=>True,fun _=>trivial,fun _ _=>trivial,false⟩
def start3 (n:Nat) (ds:List T):List Sl:=ds.map Sl.val++List.replicate (n-ds.length) Sl.no
theorem start_eq (N:List Str) (vs:List V):start N vs=vs.map some++List.replicate (N.length-vs.length) none:=rfl
theorem r3_start {K:PySem.W.Frag} {c:Cf} {H:Hp} {G:List Addr} {N:List Str} {vs:List V} {ds:List T} (hI:c.I H) (hG:∀a∈G,H a≠none∧a ∉ c.S0) (hV:∀o,c.gOk o) (r:RepL K (hid (c.S0++G) H) vs ds):
 R3 K c H G (List.replicate ((start3 N.length ds).length) none) (start3 N.length ds) (start N vs) H:=by
 have hA:addrs (List.replicate ((start3 N.length ds).length) none)=[]:=by
  unfold addrs
  rw [List.filterMap_replicate_of_none rfl]
 have hS:c.S G (List.replicate ((start3 N.length ds).length) none)=c.S0++G:=by
  unfold Cf.S
  rw [hA,List.append_nil]
 have hl:=r.length
 refine ⟨hI,by rw [hS];exact Same.refl _,fun a h=>⟨rfl,hG a h⟩,fun a _ o _=>hV o,by rw [hA];exact List.nodup_nil,(by rw [hA];intro a h;cases h),(by simp),(by rw [start_eq];unfold start3;simp [hl]), ?_⟩
 rw [hS]
 intro i s o x h1 h2 h3
 have ho:o=none:=by
  have:=List.mem_of_getElem? h2
  exact (List.mem_replicate.mp this).2
 subst ho
 unfold start3 at h1
 rw [start_eq] at h3
 by_cases hi:i<ds.length
 · rw [List.getElem?_append_left (by simpa using hi),List.getElem?_map] at h1
   rw [List.getElem?_append_left (by rw [List.length_map,hl];exact hi),List.getElem?_map] at h3
   cases e1:ds[i]? with
   | none=>rw [e1] at h1;cases h1
   | some d=>
     rw [e1] at h1
     cases h1
     obtain ⟨v,e2,rv⟩:=r.get e1
     rw [e2] at h3
     cases h3
     exact ⟨rfl,v,rfl,rv⟩
 · rw [List.getElem?_append_right (by simpa using hi)] at h1
   have:=List.mem_of_getElem? h1
   have hs:=(List.mem_replicate.mp this).2
   subst hs
   rfl
theorem body3 {K:PySem.W.Frag} {n:Nat} {f:F3} {N:List Str} {t:TS} {x:S3} {W:WX} {vs:List V} {H:Hp} {Q:VK} {E:XK} (h:sp3 K n f vs H Q E) (hW:∀cls dd σ H',E cls dd H'→W cls dd σ H')
 (lt:LiftS K cf0 W t x) (hb:∀ds Q3 X,ds.length=n→f ds Q3 X→x {nx:=fun _=>Q3 .non,rt:=Q3,xn:=fun _=>X} (start3 N.length ds)):t {nx:=fun _ H'=>Q .non H',rt:=Q} (start N vs) H:=by
 obtain ⟨S,ds,hl,r,hS,Q3,X,hf,hq,hx⟩:=h
 refine lt _ _ (hb ds Q3 X hl hf) H S _ _ H _ (r3_start (c:=cf0) (N:=N) trivial (fun a h=>⟨hS a h,fun z=>by cases z⟩) (fun _=>trivial) r) ⟨?_, ?_,fun _ _ _ _ _ z=>z.elim,fun _ _ _ _ _ z=>z.elim, ?_⟩
 · intro A σ3 σ H' R q
   exact hq _ _ _ R.fin.base (fun a h=>R.fin.gk a h) .non q
 · rintro v d H' ⟨F,rv⟩ q
   exact hq _ _ _ F.base (fun a h=>F.gk a h) rv q
 · intro A σ3 σ H' cls dd xn R rx q
   refine hW _ _ _ _ (hx cls dd xn H' R.fin.base (fun a h=>R.fin.gk a h) ?_ q)
   obtain ⟨e,rx⟩:=rx
   refine ⟨e, ?_⟩
   cases dd with
   | none=>exact rx
   | some d=>
     obtain ⟨fs,h1,h2,h3⟩:=rx
     exact ⟨fs,hid_fin _ _ h1,h2,h3.mono hid_fin⟩
theorem sameX_of {S:List Addr} {H H':Hp} (s1:Same (hid S H) (hid S H')) (s2:∀a∈S,H' a=H a):SameX H H':=fun a φ e=>by
 by_cases h:a∈S
 · rw [s2 a h];exact e
 · exact (hid_some (s1 _ _ (hid_mk e h))).1
theorem sp3_call {K:PySem.W.Frag} {c:Cf} {n:Nat} {f:F3} {Hb H1:Hp} {G:List Addr} {A:List (Option Addr)} {σ3:List Sl} {σ:St} {vs:List V} {ds:List T} {Q:VK} {E:XK} {Q3:T→Prop} {X:X3} (R1:R3 K c Hb G A σ3 σ H1)
 (rx:RepL K (hid (c.S G A) H1) vs ds) (hl:ds.length=n) (hf:f ds Q3 X) (k:∀v d H',Le c G A H1 H'→Rep K (hid (c.S G A) H') v d→Q3 d→Q v H') (e:∀cls dd x H',Le c G A H1 H'→XRep K (hid (c.S G A) H') cls dd x→X x→E cls dd H'):sp3 K n f vs H1 Q E:=by
 have le:∀H',Same (hid (c.S G A) H1) (hid (c.S G A) H')→(∀a∈c.S G A,H' a=H1 a)→Le c G A H1 H':=fun H' s1 s2=>
  ⟨s1,fun a ha=>s2 a (mem_S.mpr (by rcases List.mem_append.mp ha with z | z;exact .inr (.inl z);exact .inr (.inr z))),c.st H1 H' (fun a ha=>s2 a (mem_S.mpr (.inl ha))) (sameX_of s1 s2) R1.inv⟩
 exact ⟨c.S G A,ds,hl,rx,fun a h=>R1.there h,Q3,X,hf,fun v d H' s1 s2 rv q=>k v d H' (le H' s1 s2) rv q,fun cls dd xn H' s1 s2 rv q=>e cls dd xn H' (le H' s1 s2) rv q⟩
def fn3 (n:Nat) (f:F3) (x:A3) (dvs:List T):E3:=fun σ Q X=>x σ (fun ds=>(ds++dvs).length=n∧f (ds++dvs) Q X) X
def fn30 (n:Nat) (f:F3) (x:A3) (dvs:List T):E3:=fun σ Q X=>x σ (fun ds=>(ds++dvs).length=n∧f (ds++dvs) Q (fun _=>False)) X
theorem lift_call0 {K:PySem.W.Frag} {c:Cf} {n:Nat} {f:F3} {W:WX} {E:XK} {t:TA} {x:A3} {dvs:List V} {dts:List T} (ha:LiftA K c W t x) (hd:∀H,RepL K H dvs dts):
 Lift K c W (tCall (sp3 K n f) dvs E t) (fn30 n f x dts):=by
 intro σ3 Q3 X h Hb G A σ H Q R k e
 refine ha _ _ _ h Hb G A σ H _ R (fun vs ds H1 L1 rx hx=> ?_) e
 exact sp3_call (R.le L1) (rx.append (hd _)) hx.1 hx.2 (fun v d H' L r q=>k v d H' (L1.trans L) r q) (fun cls dd x H' L r q=>q.elim)
theorem lift_call {K:PySem.W.Frag} {c:Cf} {n:Nat} {f:F3} {W:WX} {E:XK} {t:TA} {x:A3} {dvs:List V} {dts:List T} (hE:∀cls dd σ H,W cls dd σ H→E cls dd H) (ha:LiftA K c W t x) (hd:∀H,RepL K H dvs dts):
 Lift K c W (tCall (sp3 K n f) dvs E t) (fn3 n f x dts):=by
 intro σ3 Q3 X h Hb G A σ H Q R k e
 refine ha _ _ _ h Hb G A σ H _ R (fun vs ds H1 L1 rx hx=> ?_) e
 exact sp3_call (R.le L1) (rx.append (hd _)) hx.1 hx.2 (fun v d H' L r q=>k v d H' (L1.trans L) r q) (fun cls dd x H' L r q=>hE _ _ σ _ (e cls dd x H' (L1.trans L) r q))
end M3
namespace M3
open PySem L2
def i2 (g:Int→Int→T):T→T→(T→Prop)→Prop:=fun x y Q=>ob (asI x) fun i=>ob (asI y) fun j=>Q (g i j)
def i2c (C:Int→Int→Prop) (g:Int→Int→T):T→T→(T→Prop)→Prop:=fun x y Q=>ob (asI x) fun i=>ob (asI y) fun j=>C i j∧Q (g i j)
def i1 (g:Int→T):T→(T→Prop)→Prop:=fun x Q=>ob (asI x) fun i=>Q (g i)
section
variable {K:PySem.W.Frag}
theorem rl_I0 {g:Int→Int→V} {g3:Int→Int→T} (h:∀i j H,Rep K H (g i j) (g3 i j)):RL2 K (rI0 g) (i2 g3):=by
 intro c x y Q3 hh Hb G A σ3 σ H vx vy Q R rx ry k
 obtain ⟨i,ei,hh1⟩:=ob_iff.mp hh
 obtain ⟨j,ej,q⟩:=ob_iff.mp hh1
 cases asI_is ei
 cases asI_is ej
 exact ⟨i,j,rx.intI,ry.intI,k _ _ H (Le.refl R.inv) (h i j _) q⟩
theorem rl_I {C:Int→Int→Prop} {g:Int→Int→V} {g3:Int→Int→T} (h:∀i j H,Rep K H (g i j) (g3 i j)):RL2 K (rI C g) (i2c C g3):=by
 intro c x y Q3 hh Hb G A σ3 σ H vx vy Q R rx ry k
 obtain ⟨i,ei,hh1⟩:=ob_iff.mp hh
 obtain ⟨j,ej,hc,q⟩:=ob_iff.mp hh1
 cases asI_is ei
 cases asI_is ej
 exact ⟨i,j,rx.intI,ry.intI,hc,k _ _ H (Le.refl R.inv) (h i j _) q⟩
abbrev add3:=i2 fun i j=>.int (i+j)
abbrev mulW3:=i2c CMulW fun i j=>.int (i * j)
abbrev mod3:=i2c (fun _ j=>0<j) fun i j=>.int (i % j)
abbrev lt3:=i2 fun i j=>.bl (decide (i<j))
abbrev le3:=i2 fun i j=>.bl (decide (i≤j))
abbrev gt3:=i2 fun i j=>.bl (decide (j<i))
abbrev ge3:=i2 fun i j=>.bl (decide (j≤i))
theorem rl_add:RL2 K (rI0 fun i j=>.int (i+j)) add3:=rl_I0 fun _ _ _=>.int _
theorem rl_mulW:RL2 K (rI CMulW fun i j=>.int (i * j)) mulW3:=rl_I fun _ _ _=>.int _
theorem rl_mod:RL2 K (rI (fun _ j=>0<j) fun i j=>.int (i % j)) mod3:=rl_I fun _ _ _=>.int _
theorem rl_lt:RL2 K (rI0 fun i j=>.bl (decide (i<j))) lt3:=rl_I0 fun _ _ _=>.bl _
theorem rl_le:RL2 K (rI0 fun i j=>.bl (decide (i≤j))) le3:=rl_I0 fun _ _ _=>.bl _
theorem rl_gt:RL2 K (rI0 fun i j=>.bl (decide (j<i))) gt3:=rl_I0 fun _ _ _=>.bl _
theorem rl_ge:RL2 K (rI0 fun i j=>.bl (decide (j≤i))) ge3:=rl_I0 fun _ _ _=>.bl _
def isNon:T→Bool
 | .non=>true
 | _=>false
def isN3:T→T→(T→Prop)→Prop:=fun x y Q=>ob (asN y) fun _=>Q (.bl (isNon x))
def notN3:T→T→(T→Prop)→Prop:=fun x y Q=>ob (asN y) fun _=>Q (.bl (!isNon x))
theorem Rep.isNon {H:Hp} {v:V} {t:T} (r:Rep K H v t):decide (v= .non)=M3.isNon t:=by cases r<;>rfl
theorem rl_isN:RL2 K (fun x y H Q=>y= .non∧Q (.bl (decide (x= .non))) H) isN3:=by
 intro c x y Q3 hh Hb G A σ3 σ H vx vy Q R rx ry k
 obtain ⟨_,en,q⟩:=ob_iff.mp hh
 cases asN_is en
 exact ⟨ry.nonI,by rw [rx.isNon];exact k _ _ H (Le.refl R.inv) (.bl _) q⟩
def flatT:T→Option V
 | .non=>some .non
 | .bl b=>some (.bl b)
 | .int i=>some (.int i)
 | .str x=>some (.str x)
 | _=>none
theorem Rep.flat {H:Hp} {v w:V} {t:T} (r:Rep K H v t) (h:flatT t=some w):v=w:=by cases r<;>cases h<;>rfl
def eqS3:T→T→(T→Prop)→Prop:=fun x y Q=>ob (flatT x) fun v=>ob (flatT y) fun w=>scal v w=true∧Q (.bl (decide (v=w)))
def neS3:T→T→(T→Prop)→Prop:=fun x y Q=>ob (flatT x) fun v=>ob (flatT y) fun w=>scal v w=true∧Q (.bl (!decide (v=w)))
theorem rl_eqS:RL2 K rEq eqS3:=by
 intro c x y Q3 hh Hb G A σ3 σ H vx vy Q R rx ry k
 obtain ⟨v,h1,hh1⟩:=ob_iff.mp hh
 obtain ⟨w,h2,h3,q⟩:=ob_iff.mp hh1
 rw [rx.flat h1,ry.flat h2]
 exact ⟨h3,k _ _ H (Le.refl R.inv) (.bl _) q⟩
theorem rl_neS:RL2 K rNe neS3:=by
 intro c x y Q3 hh Hb G A σ3 σ H vx vy Q R rx ry k
 obtain ⟨v,h1,hh1⟩:=ob_iff.mp hh
 obtain ⟨w,h2,h3,q⟩:=ob_iff.mp hh1
 rw [rx.flat h1,ry.flat h2]
 exact ⟨h3,k _ _ H (Le.refl R.inv) (.bl _) q⟩
def items:T→Option (List T)
 | .lst xs=>some xs
 | .tup xs=>some xs
 | _=>none
def ixL3:T→T→(T→Prop)→Prop:=fun x y Q=>ob (asL x) fun xs=>ob (asI y) fun i=>ob (atI xs i) Q
def ixT3:T→T→(T→Prop)→Prop:=fun x y Q=>ob (asT x) fun xs=>ob (asI y) fun i=>ob (atI xs i) Q
theorem RepL.atI {H:Hp} {vs:List V} {ts:List T} {i:Int} {t:T} (r:RepL K H vs ts) (h:L2.atI ts i=some t):∃v,L2.atI vs i=some v∧Rep K H v t:=by
 unfold L2.atI at h ⊢
 rw [r.length]
 cases e:ixN ts.length i with
 | none=>rw [e] at h;cases h
 | some j=>
   rw [e] at h
   exact r.get h
theorem rl_ixL:RL2 K (rIxL K) ixL3:=by
 intro c x y Q3 hh Hb G A σ3 σ H vx vy Q R rx ry k
 obtain ⟨xs,ex,hh1⟩:=ob_iff.mp hh
 obtain ⟨i,ei,hh2⟩:=ob_iff.mp hh1
 obtain ⟨t,h,q⟩:=ob_iff.mp hh2
 cases asL_is ex
 cases asI_is ei
 obtain ⟨a,vs,rfl,ha,rl⟩:=rx.lstI
 obtain ⟨v,h1,h2⟩:=rl.atI h
 exact ⟨a,vs,i,v,rfl,ry.intI,SqL.of (hid_same _ _ ha),h1,k _ _ H (Le.refl R.inv) h2 q⟩
theorem rl_ixT:RL2 K (rIxT K) ixT3:=by
 intro c x y Q3 hh Hb G A σ3 σ H vx vy Q R rx ry k
 obtain ⟨xs,ex,hh1⟩:=ob_iff.mp hh
 obtain ⟨i,ei,hh2⟩:=ob_iff.mp hh1
 obtain ⟨t,h,q⟩:=ob_iff.mp hh2
 cases asT_is ex
 cases asI_is ei
 obtain ⟨a,vs,rfl,ha,rl⟩:=rx.tupI
 obtain ⟨v,h1,h2⟩:=rl.atI h
 exact ⟨a,vs,i,v,rfl,ry.intI,Same.sqT hid_same ha,h1,k _ _ H (Le.refl R.inv) h2 q⟩
def ixS3:T→T→(T→Prop)→Prop:=fun x y Q=>ob (asS x) fun z=>ob (asI y) fun i=>z.length≤sizeLine∧ob (atI z.cps.toList i) fun c=>Q (.str ⟨#[c]⟩)
theorem rl_ixS:RL2 K rIxS ixS3:=by
 intro c x y Q3 hh Hb G A σ3 σ H vx vy Q R rx ry k
 obtain ⟨z,ez,hh1⟩:=ob_iff.mp hh
 obtain ⟨i,ei,h,hh2⟩:=ob_iff.mp hh1
 obtain ⟨t,h1,q⟩:=ob_iff.mp hh2
 cases asS_is ez
 cases asI_is ei
 exact ⟨z,i,t,rx.strI,ry.intI,h,h1,k _ _ H (Le.refl R.inv) (.str _) q⟩
theorem RL2.or {r r':R2} {q q':T→T→(T→Prop)→Prop} (h:RL2 K r q) (h':RL2 K r' q'):RL2 K (fun x y H Q=>r x y H Q∨r' x y H Q) (fun x y Q=>q x y Q∨q' x y Q):=by
 intro c x y Q3 hh Hb G A σ3 σ H vx vy Q R rx ry k
 rcases hh with hh | hh
 · exact .inl (h c x y Q3 hh Hb G A σ3 σ H vx vy Q R rx ry k)
 · exact .inr (h' c x y Q3 hh Hb G A σ3 σ H vx vy Q R rx ry k)
theorem RLn.or {r r':List V→Hp→VK→Prop} {q q':List T→(T→Prop)→Prop} (h:RLn K r q) (h':RLn K r' q'):RLn K (fun x H Q=>r x H Q∨r' x H Q) (fun x Q=>q x Q∨q' x Q):=by
 intro c x Q3 hh Hb G A σ3 σ H vx Q R rx k
 rcases hh with hh | hh
 · exact .inl (h c x Q3 hh Hb G A σ3 σ H vx Q R rx k)
 · exact .inr (h' c x Q3 hh Hb G A σ3 σ H vx Q R rx k)
def lenT:T→Option Nat
 | .lst xs=>some xs.length
 | .tup xs=>some xs.length
 | .str z=>if z.length≤sizeLine then some z.length else none
 | _=>none
def len3:List T→(T→Prop)→Prop:=fun xs Q=>ob (one xs) fun x=>ob (lenT x) fun n=>Q (.int n)
theorem repL_one {H:Hp} {vs:List V} {t:T} (r:RepL K H vs [t]):∃v,vs=[v]∧Rep K H v t:=by
 cases r with
 | cons r q=>cases q;exact ⟨_,rfl,r⟩
theorem repL_two {H:Hp} {vs:List V} {t u:T} (r:RepL K H vs [t,u]):∃v w,vs=[v,w]∧Rep K H v t∧Rep K H w u:=by
 cases r with
 | cons r q=>
   obtain ⟨w,rfl,h⟩:=repL_one q
   exact ⟨_,w,rfl,r,h⟩
theorem rl_len:RLn K (fun xs H Q=>∃x n,xs=[x]∧LenV K x H n∧Q (.int n) H) len3:=by
 intro c xs Q3 hh Hb G A σ3 σ H vs Q R rx k
 obtain ⟨x,ex,hh1⟩:=ob_iff.mp hh
 obtain ⟨n,hn,q⟩:=ob_iff.mp hh1
 cases one_is ex
 obtain ⟨v,rfl,r⟩:=repL_one rx
 refine ⟨v,n,rfl, ?_,k _ _ H (Le.refl R.inv) (.int _) q⟩
 cases x with
 | lst xs=>
   cases hn
   obtain ⟨a,vs,rfl,ha,rl⟩:=r.lstI
   exact .inl ⟨vs,SqL.of (hid_same _ _ ha),by rw [rl.length]⟩
 | tup xs=>
   cases hn
   obtain ⟨a,vs,rfl,ha,rl⟩:=r.tupI
   exact .inr ⟨vs,Same.sqT hid_same ha,by rw [rl.length]⟩
 | str z=>
   cases r.strI
   replace hn:(if z.length≤sizeLine then some z.length else none)=some n:=hn
   by_cases hz:z.length≤sizeLine
   · rw [if_pos hz] at hn;cases hn;exact ⟨hz,rfl⟩
   · rw [if_neg hz] at hn;cases hn
 | _=>cases hn
def bls:List T→Option (List Bool)
 | []=>some []
 | .bl b::r=>(bls r).map (b::·)
 | _=>none
theorem bls_map:∀bs:List Bool,bls (bs.map T.bl)=some bs
 | []=>rfl
 | b::bs=>by show (bls (bs.map T.bl)).map (b::·)=_;rw [bls_map bs];rfl
theorem RepL.bls {H:Hp}:∀ {vs:List V} {ts:List T} {bs:List Bool},RepL K H vs ts→M3.bls ts=some bs→vs=bs.map V.bl
 | _,[],bs,.nil,h=>by cases h;rfl
 | _,t::ts,bs,.cons r q,h=>by
   cases t with
   | bl b=>
     cases e:M3.bls ts with
     | none=>
       have:(M3.bls ts).map (b::·)=some bs:=h
       rw [e] at this;cases this
     | some l=>
       have h':(M3.bls ts).map (b::·)=some bs:=h
       rw [e] at h'
       cases h'
       rw [r.blI,RepL.bls q e,List.map_cons]
   | _=>cases h
def all3:List T→(T→Prop)→Prop:=fun xs Q=>ob (one xs) fun x=>ob (asL x) fun ts=>ob (bls ts) fun bs=>Q (.bl (bs.all id))
def any3:List T→(T→Prop)→Prop:=fun xs Q=>ob (one xs) fun x=>ob (asL x) fun ts=>ob (bls ts) fun bs=>Q (.bl (bs.any id))
theorem rl_all:RLn K (rAll K) all3:=by
 intro c xs Q3 hh Hb G A σ3 σ H vs Q R rx k
 obtain ⟨x,ex,hh1⟩:=ob_iff.mp hh
 obtain ⟨ts,et,hh2⟩:=ob_iff.mp hh1
 obtain ⟨bs,hn,q⟩:=ob_iff.mp hh2
 cases one_is ex
 cases asL_is et
 obtain ⟨v,rfl,r⟩:=repL_one rx
 obtain ⟨a,vs,rfl,ha,rl⟩:=r.lstI
 refine ⟨a,bs,rfl, ?_,k _ _ H (Le.refl R.inv) (.bl _) q⟩
 rw [←rl.bls hn]
 exact SqL.of (hid_same _ _ ha)
def abs3:List T→(T→Prop)→Prop:=fun xs Q=>ob (one xs) fun x=>ob (asI x) fun i=>Q (.int (if i<0 then -i else i))
def max23:List T→(T→Prop)→Prop:=fun xs Q=>ob (two xs) fun p=>ob (asI p.1) fun i=>ob (asI p.2) fun j=>Q (.int (if j>i then j else i))
def min23:List T→(T→Prop)→Prop:=fun xs Q=>ob (two xs) fun p=>ob (asI p.1) fun i=>ob (asI p.2) fun j=>Q (.int (if j<i then j else i))
theorem rl_min2:RLn K (fun xs H Q=>∃i j,xs=[.int i,.int j]∧Q (.int (if j<i then j else i)) H) min23:=by
 intro c xs Q3 hh Hb G A σ3 σ H vs Q R rx k
 obtain ⟨⟨x,y⟩,ex,hh1⟩:=ob_iff.mp hh
 obtain ⟨i,ei,hh2⟩:=ob_iff.mp hh1
 obtain ⟨j,ej,q⟩:=ob_iff.mp hh2
 cases two_is ex
 cases asI_is ei
 cases asI_is ej
 obtain ⟨v,w,rfl,r,s⟩:=repL_two rx
 cases r.intI
 cases s.intI
 exact ⟨i,j,rfl,k _ _ H (Le.refl R.inv) (.int _) q⟩
def tyn:T→Option String
 | .non=>some "NoneType"
 | .bl _=>some "bool"
 | .int _=>some "int"
 | .str _=>some "str"
 | .tup _=>some "tuple"
 | .lst _=>some "list"
 | .dic _=>some "dict"
 | _=>none
theorem sqT_ty {H:Hp} {a:Addr} {vs:List V} (h:SqT K H a vs):TyX K H (.ref a) (.type "tuple"):=by
 rcases h with (h | ⟨o,h⟩) | ⟨o,its,n,h1,h2,_⟩
 · exact .base (.tup h)
 · exact .fTuple h
 · exact .kTuple h1 h2
theorem Rep.ty_ {H:Hp} {v:V} {t:T} {n:String} (r:Rep K H v t) (h:tyn t=some n):TyX K H v (.type n):=by
 cases r with
 | non=>cases h;exact .base .non
 | bl b=>cases h;exact .base (.bl b)
 | int i=>cases h;exact .base (.int i)
 | str x=>cases h;exact .base (.str x)
 | ty n=>cases h
 | ref a=>cases h
 | tup h'=>cases h;exact sqT_ty h'.sq
 | lst h'=>cases h;exact .base (.lst h')
 | dic h'=>
   cases h
   obtain ⟨o,h'⟩:=h'
   exact .fDict h'
 | ins h'=>cases h
def isiB (x c:T):Option Bool:=match c with | .ty n=>(tyn x).bind fun a=>kitB a n | _=>none
def isi3:List T→(T→Prop)→Prop:=fun xs Q=>ob (two xs) fun p=>ob (isiB p.1 p.2) fun b=>Q (.bl b)
theorem TyX.mono {H H':Hp} {v:V} {t:Value} (e:Same H H') (h:TyX K H v t):TyX K H' v t:=by
 cases h with
 | base h=>
   refine .base ?_
   cases h with
   | non=>exact .non
   | bl b=>exact .bl b
   | int i=>exact .int i
   | str x=>exact .str x
   | flt x=>exact .flt x
   | lst h=>exact .lst (e _ _ h)
   | frz h=>exact .frz (e _ _ h)
   | tup h=>exact .tup (e _ _ h)
   | dK h=>exact .dK (e _ _ h)
   | dT h=>exact .dT (e _ _ h)
   | ins h cl ha hn ht hm=>exact .ins (e _ _ h) cl ha hn ht hm
 | byt b=>exact .byt b
 | set h=>exact .set (e _ _ h)
 | kList h c=>exact .kList h c
 | kTuple h c=>exact .kTuple h c
 | kDict h c=>exact .kDict h c
 | fTuple h=>exact .fTuple (e _ _ h)
 | fDict h=>exact .fDict (e _ _ h)
theorem rl_isi:RLn K (rIsi K) isi3:=by
 intro c xs Q3 hh Hb G A σ3 σ H vs Q R rx k
 obtain ⟨⟨x,y⟩,ex,hh1⟩:=ob_iff.mp hh
 obtain ⟨b,hb,q⟩:=ob_iff.mp hh1
 cases two_is ex
 obtain ⟨n,a,rfl,h1,h2⟩:∃n a,y= .ty n∧tyn x=some a∧kitB a n=some b:=by
  cases y with
  | ty n=>
    cases e:tyn x with
    | none=>
      have hb:(tyn x).bind (fun a=>kitB a n)=some b:=hb
      rw [e] at hb
      cases hb
    | some a=>
      have hb:(tyn x).bind (fun a=>kitB a n)=some b:=hb
      rw [e] at hb
      exact ⟨n,a,rfl,rfl,hb⟩
  | _=>cases hb
 obtain ⟨v,w,rfl,r,s⟩:=repL_two rx
 cases s.tyI
 exact ⟨v,_,_,_,b,rfl,.ty n,TyX.mono hid_same (r.ty_ h1),kit_ty h2,k _ _ H (Le.refl R.inv) (.bl _) q⟩
end
theorem kb_non_bool:kitB "NoneType" "bool"=some false:=by decide +kernel
theorem kb_non_int:kitB "NoneType" "int"=some false:=by decide +kernel
theorem kb_non_str:kitB "NoneType" "str"=some false:=by decide +kernel
theorem kb_non_list:kitB "NoneType" "list"=some false:=by decide +kernel
theorem kb_non_tuple:kitB "NoneType" "tuple"=some false:=by decide +kernel
theorem kb_bool_bool:kitB "bool" "bool"=some true:=by decide +kernel
theorem kb_bool_int:kitB "bool" "int"=some true:=by decide +kernel
theorem kb_bool_str:kitB "bool" "str"=some false:=by decide +kernel
theorem kb_bool_list:kitB "bool" "list"=some false:=by decide +kernel
theorem kb_bool_tuple:kitB "bool" "tuple"=some false:=by decide +kernel
theorem kb_int_bool:kitB "int" "bool"=some false:=by decide +kernel
theorem kb_int_int:kitB "int" "int"=some true:=by decide +kernel
theorem kb_int_str:kitB "int" "str"=some false:=by decide +kernel
theorem kb_int_list:kitB "int" "list"=some false:=by decide +kernel
theorem kb_int_tuple:kitB "int" "tuple"=some false:=by decide +kernel
theorem kb_str_bool:kitB "str" "bool"=some false:=by decide +kernel
theorem kb_str_int:kitB "str" "int"=some false:=by decide +kernel
theorem kb_str_str:kitB "str" "str"=some true:=by decide +kernel
theorem kb_str_list:kitB "str" "list"=some false:=by decide +kernel
theorem kb_str_tuple:kitB "str" "tuple"=some false:=by decide +kernel
theorem kb_list_bool:kitB "list" "bool"=some false:=by decide +kernel
theorem kb_list_int:kitB "list" "int"=some false:=by decide +kernel
theorem kb_list_str:kitB "list" "str"=some false:=by decide +kernel
theorem kb_list_list:kitB "list" "list"=some true:=by decide +kernel
theorem kb_list_tuple:kitB "list" "tuple"=some false:=by decide +kernel
theorem kb_tuple_bool:kitB "tuple" "bool"=some false:=by decide +kernel
theorem kb_tuple_int:kitB "tuple" "int"=some false:=by decide +kernel
theorem kb_tuple_str:kitB "tuple" "str"=some false:=by decide +kernel
theorem kb_tuple_list:kitB "tuple" "list"=some false:=by decide +kernel
theorem kb_tuple_tuple:kitB "tuple" "tuple"=some true:=by decide +kernel
theorem kbs:kitB "NoneType" "bool"=some false∧kitB "NoneType" "int"=some false∧kitB "NoneType" "str"=some false∧kitB "NoneType" "list"=some false∧kitB "NoneType" "tuple"=some false∧kitB "bool" "bool"=some true∧kitB "bool" "int"=some true∧kitB "bool" "str"=some false∧kitB "bool" "list"=some false∧kitB "bool" "tuple"=some false∧kitB "int" "bool"=some false∧kitB "int" "int"=some true∧kitB "int" "str"=some false∧kitB "int" "list"=some false∧kitB "int" "tuple"=some false∧kitB "str" "bool"=some false∧kitB "str" "int"=some false∧kitB "str" "str"=some true∧kitB "str" "list"=some false∧kitB "str" "tuple"=some false∧kitB "list" "bool"=some false∧kitB "list" "int"=some false∧kitB "list" "str"=some false∧kitB "list" "list"=some true∧kitB "list" "tuple"=some false∧kitB "tuple" "bool"=some false∧kitB "tuple" "int"=some false∧kitB "tuple" "str"=some false∧kitB "tuple" "list"=some false∧kitB "tuple" "tuple"=some true:=⟨kb_non_bool,kb_non_int,kb_non_str,kb_non_list,kb_non_tuple,kb_bool_bool,kb_bool_int,kb_bool_str,kb_bool_list,kb_bool_tuple,kb_int_bool,kb_int_int,kb_int_str,kb_int_list,kb_int_tuple,kb_str_bool,kb_str_int,kb_str_str,kb_str_list,kb_str_tuple,kb_list_bool,kb_list_int,kb_list_str,kb_list_list,kb_list_tuple,kb_tuple_bool,kb_tuple_int,kb_tuple_str,kb_tuple_list,kb_tuple_tuple⟩
end M3
namespace M3
open PySem L2
structure WalksB (K:PySem.W.Frag) (w:Bool) (V0:Hp) (J:It) (ds:List T):Prop where
 go:∀(i:Nat) d S H,ds[i]? =some d→Same V0 (hid S H)→J.go i H
 yld:∀(i:Nat) d S H x H',ds[i]? =some d→Same V0 (hid S H)→(∀a∈S,H a≠none)→J.yld i H x H'→(H'=H∨∃p o,H p=none∧H'=upd H p o)∧RepB K w (hid S H') x d
 stop:∀S H,Same V0 (hid S H)→J.stop ds.length H
abbrev Walks (K:PySem.W.Frag) (V0:Hp) (J:It) (ds:List T):Prop:=WalksB K false V0 J ds
def LiftIB (K:PySem.W.Frag) (c:Cf) (w:Bool) (W:WX) (wi:TI) (t:A3):Prop:=
 ∀σ3 Q3 X,t σ3 Q3 X→∀Hb G A σ H R',R3 K c Hb G A σ3 σ H→
  (∀J ds H',Le c G A H H'→WalksB K w (hid (c.S G A) H') J ds→Q3 ds→R' J H')→
  (∀cls dd x H',Le c G A H H'→XRep K (hid (c.S G A) H') cls dd x→X x→W cls dd σ H')→wi σ H R'
abbrev LiftI (K:PySem.W.Frag) (c:Cf) (W:WX) (wi:TI) (t:A3):Prop:=LiftIB K c false W wi t
section
variable {K:PySem.W.Frag} {c:Cf} {W:WX} {ta tb te:TE} {a b e:E3}
theorem walks_list {V0:Hp} {a:Addr} {vs:List V} {ds:List T} (h:V0 a=some (.lst vs)) (r:RepL K V0 vs ds):Walks K V0 (Itl K a) ds where
 go:=fun i d S H hd e=>by
  obtain ⟨v,hv,_⟩:=r.get hd
  exact ⟨vs,v,SqL.of (hid_same _ _ (e _ _ h)),hv⟩
 yld:=fun i d S H x H' hd e _ y=>by
  obtain ⟨v,hv,rv⟩:=r.get hd
  obtain ⟨rfl,y⟩:=y
  have z:=y vs (SqL.of (hid_same _ _ (e _ _ h)))
  rw [hv] at z
  cases z
  exact ⟨.inl rfl,.inl (rv.mono e)⟩
 stop:=fun S H e=>⟨vs,SqL.of (hid_same _ _ (e _ _ h)),by rw [r.length];exact Nat.le_refl _⟩
theorem walks_tup {V0:Hp} {a:Addr} {vs:List V} {ds:List T} (h:SqT K V0 a vs) (r:RepL K V0 vs ds):Walks K V0 (Itt K a) ds where
 go:=fun i d S H hd e=>by
  obtain ⟨v,hv,_⟩:=r.get hd
  exact ⟨vs,v,Same.sqT hid_same (Same.sqT e h),hv⟩
 yld:=fun i d S H x H' hd e _ y=>by
  obtain ⟨v,hv,rv⟩:=r.get hd
  obtain ⟨rfl,y⟩:=y
  have z:=y vs (Same.sqT hid_same (Same.sqT e h))
  rw [hv] at z
  cases z
  exact ⟨.inl rfl,.inl (rv.mono e)⟩
 stop:=fun S H e=>⟨vs,Same.sqT hid_same (Same.sqT e h),by rw [r.length];exact Nat.le_refl _⟩
def rangeT (lo:Int) (n:Nat):List T:=(List.range n).map fun i=>.int (lo+(i:Nat))
theorem walks_range {V0:Hp} (lo:Int) (n:Nat):Walks K V0 (Itr lo n) (rangeT lo n) where
 go:=fun i d S H hd e=>by
  have:=(List.getElem?_eq_some_iff.mp hd).1
  show i<n
  simpa [rangeT] using this
 yld:=fun i d S H x H' hd e _ y=>by
  obtain ⟨rfl,rfl⟩:=y
  have hl:=(List.getElem?_eq_some_iff.mp hd).1
  have hl:i<n:=by simpa [rangeT] using hl
  have z:(rangeT lo n)[i]? =some (.int (lo+(i:Nat))):=by
   unfold rangeT
   rw [List.getElem?_map,List.getElem?_range hl]
   rfl
  rw [z] at hd
  cases hd
  exact ⟨.inl rfl,.inl (.int _)⟩
 stop:=fun S H e=>by
  show n≤_
  simp [rangeT]
def iterR3 (x:A3):A3:=fun σ Q X=>x σ (fun ds=>ob (one ds) fun d=>ob (asI d) fun j=> -(2 ^ 62)≤j∧j<2 ^ 62∧Q (rangeT 0 j.toNat)) X
theorem lift_iR {t:TA} {x:A3} (ha:LiftA K c W t x):LiftI K c W (iRng1 t) (iterR3 x):=by
 intro σ3 Q3 X h Hb G A σ H R' R k e
 refine ha _ _ _ h Hb G A σ H _ R (fun v d H1 L1 r q=> ?_) e
 obtain ⟨d,ed,q1⟩:=ob_iff.mp q
 obtain ⟨j,ej,h1,h2,q2⟩:=ob_iff.mp q1
 cases one_is ed
 cases asI_is ej
 obtain ⟨v,rfl,rv⟩:=repL_one r
 cases rv.intI
 exact ⟨j,rfl,h1,h2,k _ _ H1 L1 (walks_range 0 j.toNat) q2⟩
def pairT:List T→List T→List T
 | x::xs,y::ys=>.tup [x,y]::pairT xs ys
 | _,_=>[]
theorem pairT_get:∀ {xs ys:List T} {i:Nat} {d:T},(pairT xs ys)[i]? =some d→∃x y,xs[i]? =some x∧ys[i]? =some y∧d= .tup [x,y]
 | [],_,i,d,h=>by simp [pairT] at h
 | _::_,[],i,d,h=>by simp [pairT] at h
 | x::xs,y::ys,0,d,h=>⟨x,y,rfl,rfl,by simpa [pairT] using h.symm⟩
 | x::xs,y::ys,i+1,d,h=>by
   have h':(pairT xs ys)[i]? =some d:=by simpa [pairT] using h
   obtain ⟨x',y',h1,h2,h3⟩:=pairT_get h'
   exact ⟨x',y',by simpa using h1,by simpa using h2,h3⟩
theorem pairT_len:∀(xs ys:List T),(pairT xs ys).length=min xs.length ys.length
 | [],_=>by simp [pairT]
 | _::_,[]=>by simp [pairT]
 | x::xs,y::ys=>by simp [pairT,pairT_len xs ys]
theorem yld_pair {S:List Addr} {H H':Hp} {Tt:Addr} {v w:V} {x y:T} (hS:∀a∈S,H a≠none) (hT:H Tt=none) (e:H'=upd H Tt (.tup [v,w])) (r1:Rep K (hid S H) v x) (r2:Rep K (hid S H) w y):
 (H'=H∨∃p o,H p=none∧H'=upd H p o)∧RepB K true (hid S H') (.ref Tt) (.tup [x,y]):=by
 subst e
 have hn:Tt ∉ S:=fun z=>hS Tt z hT
 have sm:Same (hid S H) (hid S (upd H Tt (.tup [v,w]))):=fun a o z=>by
  obtain ⟨z1,z2⟩:=hid_some z
  exact hid_mk (by rw [upd_ne (ne_of_none z1 hT)];exact z1) z2
 exact ⟨.inr ⟨Tt,_,hT,rfl⟩,.inr ⟨rfl,_,_,_,rfl,rfl,SqT.of (hid_mk upd_same hn),.cons (r1.mono sm) (.cons (r2.mono sm) .nil)⟩⟩
theorem walks_zipL {V0:Hp} {a b:Addr} {vs ws:List V} {xs ys:List T} (ha:V0 a=some (.lst vs)) (hb:V0 b=some (.lst ws)) (r:RepL K V0 vs xs) (s:RepL K V0 ws ys):WalksB K true V0 (Itz K a b) (pairT xs ys) where
 go:=fun i d S H hd e=>by
  obtain ⟨x,y,h1,h2,_⟩:=pairT_get hd
  obtain ⟨v,hv,_⟩:=r.get h1
  obtain ⟨w,hw,_⟩:=s.get h2
  exact ⟨vs,ws,v,w,SqL.of (hid_same _ _ (e _ _ ha)),SqL.of (hid_same _ _ (e _ _ hb)),hv,hw⟩
 yld:=fun i d S H x H' hd e hS y=>by
  obtain ⟨x1,y1,h1,h2,rfl⟩:=pairT_get hd
  obtain ⟨v,hv,rv⟩:=r.get h1
  obtain ⟨w,hw,rw'⟩:=s.get h2
  obtain ⟨Tt,p,q,rfl,hT,e',f1,f2⟩:=y
  have z1:=f1 vs (SqL.of (hid_same _ _ (e _ _ ha)))
  have z2:=f2 ws (SqL.of (hid_same _ _ (e _ _ hb)))
  rw [hv] at z1
  rw [hw] at z2
  cases z1
  cases z2
  exact yld_pair hS hT e' (rv.mono e) (rw'.mono e)
 stop:=fun S H e=>⟨vs,ws,SqL.of (hid_same _ _ (e _ _ ha)),SqL.of (hid_same _ _ (e _ _ hb)),by rw [pairT_len,r.length,s.length];omega⟩
theorem walks_zipT {V0:Hp} {a b:Addr} {vs ws:List V} {xs ys:List T} (ha:SqT K V0 a vs) (hb:SqT K V0 b ws) (r:RepL K V0 vs xs) (s:RepL K V0 ws ys):WalksB K true V0 (RZ.ItzT K a b) (pairT xs ys) where
 go:=fun i d S H hd e=>by
  obtain ⟨x,y,h1,h2,_⟩:=pairT_get hd
  obtain ⟨v,hv,_⟩:=r.get h1
  obtain ⟨w,hw,_⟩:=s.get h2
  exact ⟨vs,ws,v,w,Same.sqT hid_same (Same.sqT e ha),Same.sqT hid_same (Same.sqT e hb),hv,hw⟩
 yld:=fun i d S H x H' hd e hS y=>by
  obtain ⟨x1,y1,h1,h2,rfl⟩:=pairT_get hd
  obtain ⟨v,hv,rv⟩:=r.get h1
  obtain ⟨w,hw,rw'⟩:=s.get h2
  obtain ⟨Tt,p,q,rfl,hT,e',f1,f2⟩:=y
  have z1:=f1 vs (Same.sqT hid_same (Same.sqT e ha))
  have z2:=f2 ws (Same.sqT hid_same (Same.sqT e hb))
  rw [hv] at z1
  rw [hw] at z2
  cases z1
  cases z2
  exact yld_pair hS hT e' (rv.mono e) (rw'.mono e)
 stop:=fun S H e=>⟨vs,ws,Same.sqT hid_same (Same.sqT e ha),Same.sqT hid_same (Same.sqT e hb),by rw [pairT_len,r.length,s.length];omega⟩
def zipT:T→T→Option (List T)
 | .lst xs,.lst ys=>some (pairT xs ys)
 | .tup xs,.tup ys=>some (pairT xs ys)
 | _,_=>none
def iterZ3 (x:A3):A3:=fun σ Q X=>x σ (fun ds=>ob (two ds) fun p=>ob (zipT p.1 p.2) Q) X
theorem zipT_is {x y:T} {l:List T} (h:zipT x y=some l):∃xs ys,l=pairT xs ys∧((x= .lst xs∧y= .lst ys)∨(x= .tup xs∧y= .tup ys)):=by
 cases x<;>cases y<;>cases h<;>first | exact ⟨_,_,rfl,.inl ⟨rfl,rfl⟩⟩ | exact ⟨_,_,rfl,.inr ⟨rfl,rfl⟩⟩
theorem lift_iZ {t:TA} {x:A3} (ha:LiftA K c W t x):LiftIB K c true W (RZ.iZipA K t) (iterZ3 x):=by
 intro σ3 Q3 X h Hb G A σ H R' R k e
 refine ha _ _ _ h Hb G A σ H _ R (fun v d H1 L1 r q=> ?_) e
 obtain ⟨⟨d,d'⟩,ed,q1⟩:=ob_iff.mp q
 obtain ⟨l,el,q2⟩:=ob_iff.mp q1
 cases two_is ed
 obtain ⟨xs,ys,rfl,hh⟩:=zipT_is el
 rcases hh with ⟨rfl,rfl⟩ | ⟨rfl,rfl⟩
 · obtain ⟨v,w,rfl,rv,rw'⟩:=repL_two r
   obtain ⟨p,vs,rfl,hp,rl⟩:=rv.lstI
   obtain ⟨p2,ws,rfl,hp2,rl2⟩:=rw'.lstI
   exact ⟨p,p2,vs,ws,rfl,.inl ⟨SqL.of (hid_same _ _ hp),SqL.of (hid_same _ _ hp2),k _ _ H1 L1 (walks_zipL hp hp2 rl rl2) q2⟩⟩
 · obtain ⟨v,w,rfl,rv,rw'⟩:=repL_two r
   obtain ⟨p,vs,rfl,hp,rl⟩:=rv.tupI
   obtain ⟨p2,ws,rfl,hp2,rl2⟩:=rw'.tupI
   exact ⟨p,p2,vs,ws,rfl,.inr ⟨Same.sqT hid_same hp,Same.sqT hid_same hp2,k _ _ H1 L1 (walks_zipT hp hp2 rl rl2) q2⟩⟩
end
section
variable {K:PySem.W.Frag} {c:Cf} {Hb H H1 H':Hp} {G:List Addr} {A A':List (Option Addr)} {σ3 σ3':List Sl} {σ σ':St}
theorem R3.rebase (r:R3 K c Hb G A σ3 σ H):R3 K c (out (addrs A) H) G A σ3 σ H where
 inv:=r.inv
 base:=fun a o e=>by
  obtain ⟨e1,e2⟩:=hid_some e
  obtain ⟨e3,e4⟩:=out_some e1
  exact hid_mk e3 fun z=>by
   rcases mem_S.mp z with z | z | z
   · exact e2 (List.mem_append.mpr (.inl z))
   · exact e2 (List.mem_append.mpr (.inr z))
   · exact e4 z
 gk:=fun a h=>⟨by rw [out_out (fun z=>r.ns a z (List.mem_append.mpr (.inr h)))],(r.gk a h).2⟩
 gv:=r.gv
 nd:=r.nd
 ns:=r.ns
 l1:=r.l1
 l2:=r.l2
 at_:=r.at_
theorem rebase_vis:Same (hid (c.S G A) H1) (hid (c.S0++G) (out (addrs A) H1)):=fun a o e=>by
 obtain ⟨e1,e2⟩:=hid_some e
 refine hid_mk (by rw [out_out fun z=>e2 (mem_S.mpr (.inr (.inr z)))];exact e1) (fun z=>e2 ?_)
 rcases List.mem_append.mp z with z | z
 · exact mem_S.mpr (.inl z)
 · exact mem_S.mpr (.inr (.inl z))
theorem Fin3.debase (r:R3 K c Hb G A σ3 σ H1) (q:Fin3 K c (out (addrs A) H1) G H'):Fin3 K c Hb G H' where
 inv:=q.inv
 base:=Same.trans r.base (Same.trans rebase_vis q.base)
 gk:=fun a h=>by rw [q.gk a h,out_out (fun z=>r.ns a z (List.mem_append.mpr (.inr h))),(r.gk a h).1]
theorem FinR.debase {v:V} {d:T} (r:R3 K c Hb G A σ3 σ H1) (q:FinR K c (out (addrs A) H1) G H' v d):FinR K c Hb G H' v d:=by
 cases e:c.fr with
 | false=>
   unfold FinR at q ⊢
   rw [e] at q ⊢
   exact ⟨Fin3.debase r q.1,q.2⟩
 | true=>
   unfold FinR at q ⊢
   rw [e] at q ⊢
   obtain ⟨D,h1,h2,h3,h4,h5,h6⟩:=q
   exact ⟨D,h1,h2,h3,Same.trans r.base (Same.trans rebase_vis h4),fun a h=>by rw [h5 a h,out_out (fun z=>r.ns a z (List.mem_append.mpr (.inr h))),(r.gk a h).1],h6⟩
theorem R3.debase (r:R3 K c Hb G A σ3 σ H1) (q:R3 K c (out (addrs A) H1) G A' σ3' σ' H'):R3 K c Hb G A' σ3' σ' H' where
 inv:=q.inv
 base:=Same.trans r.base (Same.trans rebase_vis q.base)
 gk:=fun a h=>⟨by rw [(q.gk a h).1,out_out (fun z=>r.ns a z (List.mem_append.mpr (.inr h))),(r.gk a h).1],(q.gk a h).2⟩
 gv:=q.gv
 nd:=q.nd
 ns:=q.ns
 l1:=q.l1
 l2:=q.l2
 at_:=q.at_
end
def loop3 (g:TG3) (tb:S3) (N:N3):List T→List Sl→Prop
 | [],σ=>N.nx σ
 | x::r,σ=>g x σ fun σ'=>tb {nx:=loop3 g tb N r,ct:=loop3 g tb N r,bk:=N.nx,rt:=N.rt,xn:=N.xn} σ'
def for3 (s:A3) (g:TG3) (tb:S3):S3:=fun N σ=>s σ (fun ds=>loop3 g tb N ds σ) (N.xn σ)
section
variable {K:PySem.W.Frag} {c:Cf} {W:WX}
theorem lift_for {wk:Bool} {vs:List Nat} {wi:TI} {s:A3} {g:TG} {g3:TG3} {tb:TS} {b:S3} (hi:LiftIB K c wk W wi s) (hg:LiftTgB K c wk vs g g3) (hb:LiftS K c W tb b):LiftS K c W (tFor wi g tb) (for3 s g3 b):=by
 intro N σ3 h Hb G A σ H D R Z
 refine hi _ _ _ h Hb G A σ H _ R (fun J ds H1 L1 w q=> ?_) (fun cls dd x H' L r q=>Z.xn _ _ _ _ _ _ _ (R.le L) r q)
 have R1:=R.le L1
 refine ⟨fun i m σ' H'=>m=ds.length-i∧i≤ds.length∧∃A' σ3',R3 K c (out (addrs A) H1) G A' σ3' σ' H'∧loop3 g3 b N (ds.drop i) σ3',⟨ds.length,rfl,Nat.zero_le _,A,σ3,R1.rebase,by simpa using q⟩, ?_⟩
 rintro i m σ' H' ⟨rfl,hi,A',σ3',R',q'⟩
 have vis:Same (hid (c.S G A) H1) (hid (c.S G A') H'):=Same.trans rebase_vis R'.base
 by_cases hl:i=ds.length
 · subst hl
   left
   refine ⟨w.stop _ _ vis,Z.nx _ _ _ _ (R1.debase R') ?_⟩
   have e:ds.drop ds.length=[]:=List.drop_length
   rw [e] at q'
   exact q'
 · right
   have hlt:i<ds.length:=Nat.lt_of_le_of_ne hi hl
   have hd:ds[i]? =some ds[i]:=List.getElem?_eq_getElem hlt
   rw [List.drop_eq_getElem_cons hlt] at q'
   refine ⟨w.go i _ _ _ hd vis,fun σ2 H2=>∃A2 σ32,R3 K c (out (addrs A) H1) G A2 σ32 σ2 H2∧loop3 g3 b N (ds.drop (i+1)) σ32, ?_, ?_⟩
   · rintro σ2 H2 ⟨A2,σ32,R2,q2⟩
     exact ⟨ds.length-(i+1),by omega,rfl,hlt,A2,σ32,R2,q2⟩
   · intro x H2 y
     obtain ⟨hn,rx⟩:=w.yld i _ _ _ x H2 hd vis (fun a h=>R'.there h) y
     have R2:R3 K c (out (addrs A) H1) G A' σ3' σ' H2:=by
      rcases hn with rfl | ⟨p,o,hp,rfl⟩
      · exact R'
      · exact R'.le (R'.new hp)
     refine hg _ _ _ q' _ G A' σ' H2 x _ R2 rx (fun A4 σ4 σ4' H4 R4 _ _ q4=> ?_)
     refine hb _ _ q4 _ G A4 σ4' H4 _ R4 ⟨?_, ?_, ?_, ?_, ?_⟩
     · exact fun A5 σ5 σ5' H5 R5 q5=>⟨A5,σ5,R5,q5⟩
     · exact fun v d H5 F q5=>Z.rt v d H5 (FinR.debase R1 F) q5
     · exact fun A5 σ5 σ5' H5 R5 q5=>Z.nx _ _ _ _ (R1.debase R5) q5
     · exact fun A5 σ5 σ5' H5 R5 q5=>⟨A5,σ5,R5,q5⟩
     · exact fun A5 σ5 σ5' H5 cls dd xn R5 rx q5=>Z.xn _ _ _ _ _ _ _ (R1.debase R5) rx q5
end
def wipe3 (σ:List Sl):List Nat→List Sl
 | []=>σ
 | v::vs=>(wipe3 σ vs).set v .no
def comp3 (g:TG3) (tt:B3) (te:E3) (σ:List Sl) (X:X3) (Q:List T→Prop):List T→List T→Prop
 | [],acc=>Q acc
 | x::r,acc=>g x σ fun σ'=>tt σ' (fun b=>if b=true then te σ' (fun y=>acc.length<sizeLine∧comp3 g tt te σ X Q r (acc++[y])) X else comp3 g tt te σ X Q r acc) X
def noOwn (σ:List Sl) (vs:List Nat):Prop:=∀i∈vs,∀t,σ[i]? ≠some (.own t)
def lc3 (s:A3) (g:TG3) (tt:B3) (te:E3) (vs:List Nat):E3:=fun σ Q X=>noOwn σ vs∧s σ (fun ds=>comp3 g tt te (wipe3 σ vs) X (fun ys=>Q (.lst ys)) ds []) X
def yes3:B3:=fun _ Q _=>Q true
section
variable {K:PySem.W.Frag} {c:Cf} {W:WX} {Hb H H1 H':Hp} {G:List Addr} {A A':List (Option Addr)} {σ3 σ3':List Sl} {σ σ':St}
theorem lift_yes:LiftT K c W tYes yes3:=by
 intro σ3 Q3 X h Hb G A σ H Q R k e
 exact k true true H (Le.refl R.inv) rfl h
theorem wipe3_own:∀ {vs:List Nat} {σ:List Sl} {i:Nat} {t:T},(wipe3 σ vs)[i]? =some (.own t)→σ[i]? =some (.own t)
 | [],_,_,_,h=>h
 | v::vs,σ,i,t,h=>by
   rcases getElem?_set_cases (show ((wipe3 σ vs).set v .no)[i]? =some (.own t) from h) with ⟨_,e,_⟩ | ⟨_,e⟩
   · cases e
   · exact wipe3_own e
theorem set_eq_self {α:Type} {l:List α} {i:Nat} {x:α} (h:l[i]? =some x∨l.length≤i):l.set i x=l:=by
 apply List.ext_getElem?
 intro j
 by_cases e:i=j
 · subst e
   rcases h with h | h
   · rw [List.getElem?_set_self (List.getElem?_eq_some_iff.mp h).1,h]
   · rw [List.getElem?_eq_none (by simpa using h),List.getElem?_eq_none h]
 · rw [List.getElem?_set_ne e]
theorem R3.wiped (r:R3 K c Hb G A σ3 σ H):∀ {vs:List Nat},noOwn σ3 vs→R3 K c Hb G A (wipe3 σ3 vs) (wipe σ vs) H
 | [],_=>r
 | v::vs,h=>by
   have ih:=R3.wiped r (vs:=vs) fun i hi=>h i (List.mem_cons_of_mem _ hi)
   have z:=ih.wipe1 v none
   have e:A.set v none=A:=by
    apply set_eq_self
    by_cases hv:v<A.length
    · left
      have h1:v<(wipe3 σ3 vs).length:=by rw [←ih.l1];exact hv
      have h2:v<(wipe σ vs).length:=by rw [ih.l2];exact h1
      have q:=ih.at_ v _ _ _ (List.getElem?_eq_getElem h1) (List.getElem?_eq_getElem hv) (List.getElem?_eq_getElem h2)
      rw [List.getElem?_eq_getElem hv]
      cases e:(wipe3 σ3 vs)[v] with
      | no=>rw [e] at q;rw [q]
      | val t=>rw [e] at q;rw [q.1]
      | own t=>
        have w1:(wipe3 σ3 vs)[v]? =some (.own t):=by rw [List.getElem?_eq_getElem h1,e]
        exact absurd (wipe3_own w1) (h v (List.mem_cons_self ..) t)
    · exact .inr (Nat.le_of_not_lt hv)
   rw [e] at z
   exact z
theorem wipe_eq:∀ {vs:List Nat} {σ σ':St},σ'.length=σ.length→(∀j:Nat,j ∉ vs→σ'[j]? =σ[j]?)→wipe σ' vs=wipe σ vs:=by
 intro vs σ σ' hl h
 apply List.ext_getElem?
 intro j
 by_cases hj:j∈vs
 · have z:∀ {vs:List Nat} (σ:St),j∈vs→(wipe σ vs)[j]? =if j<σ.length then some none else none:=by
    intro vs
    induction vs with
    | nil=>intro σ h;cases h
    | cons v vs ih=>
      intro σ hm
      show ((wipe σ vs).set v none)[j]? =_
      by_cases e:v=j
      · subst e
        by_cases hv:v<σ.length
        · rw [List.getElem?_set_self (by rw [wipe_length];exact hv),if_pos hv]
        · rw [List.getElem?_eq_none (by simp [wipe_length];omega),if_neg hv]
      · rw [List.getElem?_set_ne e]
        rcases List.mem_cons.mp hm with q | q
        · exact absurd q.symm e
        · exact ih σ q
   rw [z σ' hj,z σ hj,hl]
 · rw [wipe_out hj,wipe_out hj,h j hj]
theorem wipe_wipe {vs:List Nat} {σ:St}:wipe (wipe σ vs) vs=wipe σ vs:=wipe_eq (wipe_length _ _) fun j hj=>wipe_out hj
theorem R3.under (r:R3 K c Hb G A σ3 σ H1) {D:Addr} {o:HO} (hD:H1 D=none) (hd:H D=some o) (vis:Same (hid (c.S G A) H1) (hid (D::c.S G A) H)) (own:∀a∈G++addrs A,H a=H1 a) (inv:c.I H) (ho:c.gOk o):
 R3 K c (out (addrs A) H) (D::G) A σ3 σ H:=by
 have nD:D ∉ c.S G A:=r.free hD
 have sub:∀a,a∈c.S (D::G) A↔a∈D::c.S G A:=fun a=>by
  rw [mem_S,List.mem_cons,List.mem_cons,mem_S]
  exact ⟨fun h=>by rcases h with h | (h | h) | h<;>simp [h],fun h=>by rcases h with h | h | h | h<;>simp [h]⟩
 have vis2:Same (hid (c.S G A) H1) (hid (c.S (D::G) A) H):=Same.trans vis (hid_mono fun a h=>(sub a).mp h)
 refine ⟨inv, ?_, ?_, ?_,r.nd, ?_,r.l1,r.l2, ?_⟩
 · intro a o e
   obtain ⟨e1,e2⟩:=hid_some e
   obtain ⟨e3,e4⟩:=out_some e1
   exact hid_mk e3 fun z=>by
    rcases mem_S.mp z with z | z | z
    · exact e2 (List.mem_append.mpr (.inl z))
    · exact e2 (List.mem_append.mpr (.inr z))
    · exact e4 z
 · intro a h
   rcases List.mem_cons.mp h with rfl | h
   · exact ⟨by rw [out_out (fun z=>nD (mem_S.mpr (.inr (.inr z))))],(by rw [hd];intro z;cases z),fun z=>nD (mem_S.mpr (.inl z))⟩
   · have e:=own a (List.mem_append.mpr (.inl h))
     exact ⟨by rw [out_out (fun z=>r.ns a z (List.mem_append.mpr (.inr h)))],by rw [e];exact (r.gk a h).2.1,(r.gk a h).2.2⟩
 · intro a h u e
   rcases List.mem_cons.mp h with rfl | h
   · rw [hd] at e;cases e;exact ho
   · exact r.gv a h u (by rw [←own a (List.mem_append.mpr (.inl h))];exact e)
 · intro a h z
   rcases List.mem_append.mp z with z | z
   · exact r.ns a h (List.mem_append.mpr (.inl z))
   · rcases List.mem_cons.mp z with rfl | z
     · exact nD (mem_S.mpr (.inr (.inr h)))
     · exact r.ns a h (List.mem_append.mpr (.inr z))
 · intro i s o x h1 h2 h3
   have z:=r.at_ i s o x h1 h2 h3
   cases s with
   | no=>exact z
   | val t=>obtain ⟨e,v,e2,q⟩:=z;exact ⟨e,v,e2,q.mono vis2⟩
   | own t=>
     obtain ⟨a,e,e2,q⟩:=z
     refine ⟨a,e,e2,q.mono vis2 (own a (List.mem_append.mpr (.inr (mem_addrs.mpr ?_))))⟩
     subst e
     exact List.mem_of_getElem? h2
theorem hid_upd_in {S:List Addr} {H:Hp} {D:Addr} {o:HO} (h:D∈S):hid S (upd H D o)=hid S H:=by
 funext a
 by_cases e:a∈S
 · rw [hid_in e,hid_in e]
 · unfold hid
   rw [out_out e,out_out e,upd_ne (fun z=>e (by rw [z];exact h))]
theorem lift_lc {wk:Bool} {vs:List Nat} {wi:TI} {s:A3} {g:TG} {g3:TG3} {tt:TT} {b:B3} {te:TE} {e3:E3} (hi:LiftIB K c wk W wi s) (hg:LiftTgB K c wk vs g g3) (ht:LiftT K c W tt b) (he:Lift K c W te e3)
 (hW:∀cls dd σ σ' H,W cls dd σ H→W cls dd σ' H):Lift K c W (tLc wi g tt te vs) (lc3 s g3 b e3 vs):=by
 intro σ3 Q3 X h Hb G A σ H Q R k e
 obtain ⟨no,h⟩:=h
 refine hi _ _ _ h Hb G A σ H _ R (fun J ds H1 L1 w q=> ?_) e
 have R1:=R.le L1
 intro D hD
 have nD:D ∉ c.S G A:=R1.free hD
 have RW:=R1.wiped (vs:=vs) no
 refine ⟨fun i m H'=>m=ds.length-i∧i≤ds.length∧∃accV acc,H' D=some (.lst accV)∧RepL K (hid (D::c.S G A) H') accV acc∧comp3 g3 b e3 (wipe3 σ3 vs) X (fun ys=>Q3 (.lst ys)) (ds.drop i) acc∧
  Same (hid (c.S G A) H1) (hid (D::c.S G A) H')∧(∀a∈G++addrs A,H' a=H1 a)∧c.I H',⟨ds.length,rfl,Nat.zero_le _,[],[],upd_same,.nil,by simpa using q, ?_, ?_, ?_⟩, ?_⟩
 · rw [hid_upd_in (List.mem_cons_self ..)]
   intro a o z
   obtain ⟨z1,z2⟩:=hid_some z
   exact hid_mk z1 fun y=>by
    rcases List.mem_cons.mp y with y | y
    · subst y;rw [hD] at z1;cases z1
    · exact z2 y
 · exact (R1.new (o:=.lst []) hD).own
 · exact (R1.new (o:=.lst []) hD).inv
 rintro i m H2 ⟨rfl,hi,accV,acc,hd2,racc,q2,vis,own,inv⟩
 have vis':Same (hid (c.S G A) H1) (hid (c.S G A) H2):=Same.trans vis (hid_mono fun a h=>List.mem_cons_of_mem _ h)
 by_cases hl:i=ds.length
 · subst hl
   left
   refine ⟨w.stop _ _ vis', ?_⟩
   have e':ds.drop ds.length=[]:=List.drop_length
   rw [e'] at q2
   exact k _ _ H2 (L1.trans ⟨vis',own,inv⟩) (.mkL (hid_mk hd2 nD) (racc.mono (hid_mono fun a h=>List.mem_cons_of_mem _ h))) q2
 · right
   have hlt:i<ds.length:=Nat.lt_of_le_of_ne hi hl
   have hdd:ds[i]? =some ds[i]:=List.getElem?_eq_getElem hlt
   rw [List.drop_eq_getElem_cons hlt] at q2
   refine ⟨w.go i _ _ _ hdd vis',fun H3=>∃accV acc,H3 D=some (.lst accV)∧RepL K (hid (D::c.S G A) H3) accV acc∧comp3 g3 b e3 (wipe3 σ3 vs) X (fun ys=>Q3 (.lst ys)) (ds.drop (i+1)) acc∧
    Same (hid (c.S G A) H1) (hid (D::c.S G A) H3)∧(∀a∈G++addrs A,H3 a=H1 a)∧c.I H3, ?_, ?_⟩
   · rintro H3 ⟨accV,acc,z⟩
     exact ⟨ds.length-(i+1),by omega,rfl,hlt,accV,acc,z⟩
   · intro x H3 y
     have RU:=RW.under hD hd2 vis own inv (c.gL _)
     have sD:∀a,a∈c.S (D::G) A↔a∈D::c.S G A:=fun a=>by
      rw [mem_S,List.mem_cons,List.mem_cons,mem_S]
      exact ⟨fun h=>by rcases h with h | (h | h) | h<;>simp [h],fun h=>by rcases h with h | h | h | h<;>simp [h]⟩
     have sm1:∀H,Same (hid (c.S (D::G) A) H) (hid (D::c.S G A) H):=fun H=>hid_mono fun a h=>(sD a).mpr h
     have sm2:∀H,Same (hid (D::c.S G A) H) (hid (c.S (D::G) A) H):=fun H=>hid_mono fun a h=>(sD a).mp h
     obtain ⟨hn,rx⟩:=w.yld i _ (c.S (D::G) A) _ x H3 hdd (Same.trans vis (sm2 _)) (fun a h=>RU.there h) y
     have L3:Le c (D::G) A H2 H3:=by
      rcases hn with rfl | ⟨p,o,hp,rfl⟩
      · exact Le.refl inv
      · exact RU.new hp
     have R3':=RU.le L3
     have back:∀H',Le c (D::G) A H2 H'→Same (hid (c.S G A) H1) (hid (D::c.S G A) H')∧(∀a∈G++addrs A,H' a=H1 a)∧c.I H'∧H' D=some (.lst accV):=fun H' L=>by
      refine ⟨Same.trans vis (Same.trans (sm2 _) (Same.trans L.vis (sm1 _))),fun a h=> ?_,L.inv, ?_⟩
      · rw [L.own a (by rcases List.mem_append.mp h with h | h<;>simp [h]),own a h]
      · rw [L.own D (by simp),hd2]
     have exn:∀(σ':St) cls dd x H',Le c (D::G) A H2 H'→XRep K (hid (c.S (D::G) A) H') cls dd x→X x→W cls dd σ' H':=fun σ' cls dd x H' L r hx=>by
      obtain ⟨b1,b2,b3,b4⟩:=back H' L
      refine hW cls dd σ σ' H' (e cls dd x H' (L1.trans ⟨Same.trans b1 (hid_mono fun a h=>List.mem_cons_of_mem _ h),b2,b3⟩) ?_ hx)
      have sm:Same (hid (c.S (D::G) A) H') (hid (c.S G A) H'):=Same.trans (sm1 _) (hid_mono fun a h=>List.mem_cons_of_mem _ h)
      obtain ⟨r1,r2⟩:=r
      refine ⟨r1, ?_⟩
      cases dd with
      | none=>exact r2
      | some d=>
        obtain ⟨fs,f1,f2,f3⟩:=r2
        exact ⟨fs,sm _ _ f1,f2,f3.mono sm⟩
     refine hg _ _ _ q2 _ (D::G) A _ H3 x _ R3' rx (fun A4 σ4 σ4' H4 R4 e4 st q4=> ?_)
     subst e4
     refine ⟨?_, ?_⟩
     · rw [wipe_eq st.1 (fun j hj=>(st.2.1 j hj).1),wipe_wipe]
     have hA4:A4=A:=by
      apply List.ext_getElem?
      intro j
      by_cases hj:j∈vs
      · have l4:A4.length=A.length:=by rw [R4.l1,RW.l1, ←RW.l2, ←R4.l2,st.1]
        by_cases hjl:j<A.length
        · have g4:j<A4.length:=by rw [l4];exact hjl
          have hno:A[j]? =some none:=by
           have h1:j<(wipe3 σ3 vs).length:=by rw [←RW.l1];exact hjl
           have h2:j<(wipe σ vs).length:=by rw [RW.l2];exact h1
           have z:=RW.at_ j _ _ _ (List.getElem?_eq_getElem h1) (List.getElem?_eq_getElem hjl) (List.getElem?_eq_getElem h2)
           rw [List.getElem?_eq_getElem hjl]
           cases ee:(wipe3 σ3 vs)[j] with
           | no=>rw [ee] at z;rw [z]
           | val t=>rw [ee] at z;rw [z.1]
           | own t=>
             have w1:(wipe3 σ3 vs)[j]? =some (.own t):=by rw [List.getElem?_eq_getElem h1,ee]
             exact absurd (wipe3_own w1) (no j hj t)
          rw [hno]
          cases ea:A4[j] with
          | none=>rw [List.getElem?_eq_getElem g4,ea]
          | some p=>
            have m4:p∈addrs A4:=mem_addrs.mpr (by rw [←ea];exact List.getElem_mem g4)
            have m:p∈addrs A:=st.2.2 p m4
            obtain ⟨i',hi'⟩:=List.getElem?_of_mem (mem_addrs.mp m)
            have hij:i'≠j:=fun z=>by subst z;rw [hno] at hi';cases hi'
            by_cases hv:i'∈vs
            · have hjl':=(List.getElem?_eq_some_iff.mp hi').1
              have h1:i'<(wipe3 σ3 vs).length:=by rw [←RW.l1];exact hjl'
              have h2:i'<(wipe σ vs).length:=by rw [RW.l2];exact h1
              have z:=RW.at_ i' _ _ _ (List.getElem?_eq_getElem h1) hi' (List.getElem?_eq_getElem h2)
              cases ee:(wipe3 σ3 vs)[i'] with
              | no=>rw [ee] at z;cases z
              | val t=>rw [ee] at z;cases z.1
              | own t=>
                have w1:(wipe3 σ3 vs)[i']? =some (.own t):=by rw [List.getElem?_eq_getElem h1,ee]
                exact absurd (wipe3_own w1) (no i' hv t)
            · have:A4[i']? =some (some p):=by rw [(st.2.1 i' hv).2];exact hi'
              have two:∀ {B:List (Option Addr)} {i j:Nat},(addrs B).Nodup→B[i]? =some (some p)→B[j]? =some (some p)→i=j:=by
               intro B
               induction B with
               | nil=>intro i j _ h;simp at h
               | cons b B ih=>
                 intro i j hN h1 h2
                 cases i with
                 | zero=>
                   cases j with
                   | zero=>rfl
                   | succ j=>
                     simp at h1 h2
                     subst h1
                     exact absurd (mem_addrs.mpr (List.mem_of_getElem? h2)) (List.nodup_cons.mp (show (p::addrs B).Nodup from hN)).1
                 | succ i=>
                   cases j with
                   | zero=>
                     simp at h1 h2
                     subst h2
                     exact absurd (mem_addrs.mpr (List.mem_of_getElem? h1)) (List.nodup_cons.mp (show (p::addrs B).Nodup from hN)).1
                   | succ j=>
                     simp at h1 h2
                     have hN':(addrs B).Nodup:=by
                      cases b with
                      | none=>exact hN
                      | some q=>exact (List.nodup_cons.mp (show (q::addrs B).Nodup from hN)).2
                     rw [ih hN' h1 h2]
              exact absurd (two R4.nd this (by rw [List.getElem?_eq_getElem g4,ea])) hij
        · rw [List.getElem?_eq_none (by omega),List.getElem?_eq_none (by omega)]
      · exact (st.2.1 j hj).2
     subst hA4
     refine ht _ _ _ q4 _ (D::G) A4 σ4' H4 _ R4 (fun bv bb H5 L5 rb q5=> ?_) (fun cls dd x H' L=>exn _ cls dd x H' (L3.trans L))
     subst rb
     cases bv with
     | false=>
       refine iteF ?_
       obtain ⟨b1,b2,b3,b4⟩:=back H5 (L3.trans L5)
       exact ⟨accV,acc,b4,racc.mono (Same.trans (sm2 _) (Same.trans (L3.trans L5).vis (sm1 _))),by simpa using q5,b1,b2,b3⟩
     | true=>
       refine iteT ?_
       refine he _ _ _ (show e3 σ4 _ X by simpa using q5) _ (D::G) A4 σ4' H5 _ (R4.le L5) (fun y d H6 L6 ry q6=> ?_) (fun cls dd x H' L=>exn _ cls dd x H' ((L3.trans L5).trans L))
       obtain ⟨b1,b2,b3,b4⟩:=back H6 ((L3.trans L5).trans L6)
       have racc6:=racc.mono (Same.trans (sm2 _) (Same.trans ((L3.trans L5).trans L6).vis (sm1 _)))
       refine ⟨accV,b4,by rw [racc.length];exact q6.1,accV++[y],acc++[d],upd_same, ?_,q6.2, ?_, ?_, ?_⟩
       · rw [hid_upd_in (List.mem_cons_self ..)]
         exact racc6.append (.cons (ry.mono (sm1 _)) .nil)
       · rw [hid_upd_in (List.mem_cons_self ..)]
         exact b1
       · intro a ha
         have:a≠D:=fun z=>by
          subst z
          exact nD (mem_S.mpr (by rcases List.mem_append.mp ha with z | z;exact .inr (.inl z);exact .inr (.inr z)))
         rw [upd_ne this]
         exact b2 a ha
       · exact c.st H6 _ (fun a ha=>by rw [upd_ne (fun z=>nD (by rw [←z];exact mem_S.mpr (.inl ha)))]) (fun a φ e=>by rw [upd_ne (ne_of e b4 (by intro z;cases z))];exact e) b3
end
end M3
namespace M3
open PySem L2
structure Cl (P:Program) (w:World) (K:PySem.W.Frag) (mg:Str→Option Value) (base:Heap) (CX:CXT) (x:Str) (k:Nat) (dvs:List V) (sp:Sp):Prop where
 ex:∃(f:Addr) (fd:FuncData) (ps:List Str) (ds:List Value),FnOk P w K mg base CX k f fd ps sp∧mg x=some (.ref f)∧PySem.W.keepIn K (.ref f)=true∧Binds K fd ps ds∧Vals dvs ds
section
variable {X:Cx} {CX:CXT} {k n:Nat} {sp:Sp} {dvs:List V} {E:XK} {x:Str} {p pos:Pos} {e:Expr} {es:List Expr} {kws:List Keyword} {ks:List Str} {t tk:TA} {gV:List V→List V→List V}
theorem pe_cl (C:Cl X.prog X.w X.K X.mg X.base CX x k dvs sp) (hr:Room k X.A) (hg:Gl X x) (hx:Passes CX X E)
 (ha:PA X (e::es) t) (hdb:(x==("__debug__":Str))=false:=by decide) (he:starEach (e::es) X.env=(false,eval e X.env)::starEach es X.env:=by rfl) (hpl:(backTo pos (starEach es X.env)).any (·.1)=false:=by rfl):
 PE X (.Call (.Name x p) (e::es) [] pos) (tCall sp dvs E t):=by
 obtain ⟨f,fd,ps,ds,F,hm,hk,hb,hd⟩:=C.ex
 exact pe_call F hr hg hm hk hb hd hx ha hdb he hpl
end
def fnN30 (n:Nat) (f:F3) (g:List T→List T→List T) (m j:Nat) (x y:A3):E3:=fun σ Q X=>x σ (fun ds=>y σ (fun es=>ds.length=m∧es.length=j∧(g ds es).length=n∧f (g ds es) Q (fun _=>False)) X) X
def fnN3 (n:Nat) (f:F3) (g:List T→List T→List T) (m j:Nat) (x y:A3):E3:=fun σ Q X=>x σ (fun ds=>y σ (fun es=>ds.length=m∧es.length=j∧(g ds es).length=n∧f (g ds es) Q X) X) X
section
variable {K:PySem.W.Frag} {c:Cf} {W:WX}
theorem lift_po0:LiftO K c W tNoPart (fun _ Q _=>Q none):=by
 intro σ3 Q3 X h Hb G A σ H Q R k e
 exact k none none H (Le.refl R.inv) rfl h
def part3 (a:E3):G3 (Option Int):=fun σ Q X=>a σ (fun x=>ob (asI x) fun i=>Q (some i)) X
theorem lift_po {ta:TE} {a:E3} (ha:Lift K c W ta a):LiftO K c W (tPart ta) (part3 a):=by
 intro σ3 Q3 X h Hb G A σ H Q R k e
 refine ha _ _ _ h Hb G A σ H _ R (fun vx x H1 L1 rx hx=> ?_) e
 obtain ⟨i,ei,q⟩:=ob_iff.mp hx
 cases asI_is ei
 exact ⟨i,rx.intI,k _ _ H1 L1 rfl q⟩
def cut {α:Type} (xs:List α) (lo hi:Option Int):List α:=(xs.drop (HT.sIx xs.length 0 lo)).take (HT.sIx xs.length xs.length hi-HT.sIx xs.length 0 lo)
theorem RepL.cut {H:Hp} {vs:List V} {ts:List T} (r:RepL K H vs ts) (lo hi:Option Int):RepL K H (cutV vs lo hi) (M3.cut ts lo hi):=by
 unfold cutV M3.cut
 rw [r.length]
 exact (r.drop _).take _
def sl3 (q:T→Option Int→Option Int→(T→Prop)→Prop) (a:E3) (l h:G3 (Option Int)):E3:=fun σ Q X=>a σ (fun x=>l σ (fun lo=>h σ (fun hi=>q x lo hi Q) X) X) X
def RLs (K:PySem.W.Frag) (r:V→Option Int→Option Int→Hp→VK→Prop) (q:T→Option Int→Option Int→(T→Prop)→Prop):Prop:=
 ∀(c:Cf) x lo hi Q3,q x lo hi Q3→∀Hb G A σ3 σ H vx Q,R3 K c Hb G A σ3 σ H→Rep K (hid (c.S G A) H) vx x→
  (∀v d H',Le c G A H H'→Rep K (hid (c.S G A) H') v d→Q3 d→Q v H')→r vx lo hi H Q
theorem lift_sl {r:V→Option Int→Option Int→Hp→VK→Prop} {q:T→Option Int→Option Int→(T→Prop)→Prop} {ta:TE} {a:E3} {tl th:TO} {l h:G3 (Option Int)} (hr:RLs K r q) (ha:Lift K c W ta a) (hl:LiftO K c W tl l) (hh:LiftO K c W th h):
 Lift K c W (tSl r ta tl th) (sl3 q a l h):=by
 intro σ3 Q3 X hq Hb G A σ H Q R k e
 refine ha _ _ _ hq Hb G A σ H _ R (fun vx x H1 L1 rx hx=> ?_) e
 refine hl _ _ _ hx Hb G A σ H1 _ (R.le L1) (fun lo lo' H2 L2 e2 hy=> ?_) (fun cls dd x H' L=>e cls dd x H' (L1.trans L))
 subst e2
 refine hh _ _ _ hy Hb G A σ H2 _ ((R.le L1).le L2) (fun hi hi' H3 L3 e3 hz=> ?_) (fun cls dd x H' L=>e cls dd x H' ((L1.trans L2).trans L))
 subst e3
 exact hr c _ _ _ _ hz Hb G A σ3 σ H3 vx Q (((R.le L1).le L2).le L3) (rx.mono (Same.trans L2.vis L3.vis)) (fun v d H' L=>k v d H' (((L1.trans L2).trans L3).trans L))
def cutL3:T→Option Int→Option Int→(T→Prop)→Prop:=fun x lo hi Q=>ob (asL x) fun xs=>Q (.lst (cut xs lo hi))
def cutT3:T→Option Int→Option Int→(T→Prop)→Prop:=fun x lo hi Q=>ob (asT x) fun xs=>Q (.tup (cut xs lo hi))
def cutS3:T→Option Int→Option Int→(T→Prop)→Prop:=fun x lo hi Q=>ob (asS x) fun z=>z.length≤sizeLine∧Q (.str (cutS z lo hi))
theorem rl_slL:RLs K (rSlL K) cutL3:=by
 intro c x lo hi Q3 hh Hb G A σ3 σ H vx Q R rx k
 obtain ⟨xs,ex,q⟩:=ob_iff.mp hh
 cases asL_is ex
 obtain ⟨a,vs,rfl,ha,rl⟩:=rx.lstI
 refine ⟨a,vs,rfl,SqL.of (hid_same _ _ ha),fun p hp=> ?_⟩
 have L:=R.new (o:=.lst (cutV vs lo hi)) hp
 exact k _ _ _ L (.mkL (R.newAt hp) ((rl.mono L.vis).cut lo hi)) q
theorem cut_whole {α:Type} {xs:List α} {lo hi:Option Int} (h:HT.sIx xs.length 0 lo=0∧HT.sIx xs.length xs.length hi=xs.length):cut xs lo hi=xs:=by
 unfold cut
 rw [h.1,h.2,List.drop_zero,Nat.sub_zero,List.take_length]
theorem rl_slT:RLs K (rSlF K) cutT3:=by
 intro c x lo hi Q3 hh Hb G A σ3 σ H vx Q R rx k
 obtain ⟨xs,ex,q⟩:=ob_iff.mp hh
 cases asT_is ex
 obtain ⟨a,vs,rfl,ha,rl⟩:=rx.tupI
 refine ⟨a,vs,rfl,Same.sqT hid_same ha,fun hw=> ?_,fun _ p o hp hd=> ?_⟩
 · rw [rl.length] at hw
   refine k _ _ _ (Le.refl R.inv) rx ?_
   rw [cut_whole hw] at q
   exact q
 · have L:=R.new (o:=.frz o (.tup (cutV vs lo hi))) hp
   exact k _ _ _ L (.mkT (FqT.of hd (R.newAt hp)) ((rl.mono L.vis).cut lo hi)) q
theorem rl_slS:RLs K rSlS cutS3:=by
 intro c x lo hi Q3 hh Hb G A σ3 σ H vx Q R rx k
 obtain ⟨z,ez,hz,q⟩:=ob_iff.mp hh
 cases asS_is ez
 exact ⟨z,rx.strI,hz,k _ _ H (Le.refl R.inv) (.str _) q⟩
def catL3:T→T→(T→Prop)→Prop:=fun x y Q=>ob (asL x) fun xs=>ob (asL y) fun ys=>xs.length+ys.length≤sizeLine∧Q (.lst (xs++ys))
def catT3:T→T→(T→Prop)→Prop:=fun x y Q=>ob (asT x) fun xs=>ob (asT y) fun ys=>xs.length+ys.length≤sizeLine∧Q (.tup (xs++ys))
def catS3:T→T→(T→Prop)→Prop:=fun x y Q=>ob (asS x) fun a=>ob (asS y) fun b=>a.length+b.length≤sizeLine∧Q (.str (a++b))
def repL3:T→T→(T→Prop)→Prop:=fun x y Q=>ob (asL x) fun xs=>ob (asI y) fun k=> -(2 ^ 63)≤k∧k<2 ^ 63∧xs.length * k.toNat≤sizeLine∧Q (.lst (List.replicate k.toNat xs).flatten)
theorem rl_catL:RL2 K rCat catL3:=by
 intro c x y Q3 hh Hb G A σ3 σ H vx vy Q R rx ry k
 obtain ⟨xs,ex,hh1⟩:=ob_iff.mp hh
 obtain ⟨ys,ey,hl,q⟩:=ob_iff.mp hh1
 cases asL_is ex
 cases asL_is ey
 obtain ⟨a,vs,rfl,ha,rl⟩:=rx.lstI
 obtain ⟨b,ws,rfl,hb,rm⟩:=ry.lstI
 refine ⟨a,b,vs,ws,rfl,rfl,hid_same _ _ ha,hid_same _ _ hb,by rw [rl.length,rm.length];exact hl,fun p hp=> ?_⟩
 have L:=R.new (o:=.lst (vs++ws)) hp
 exact k _ _ _ L (.mkL (R.newAt hp) ((rl.mono L.vis).append (rm.mono L.vis))) q
theorem rl_catT:RL2 K (rCatF K) catT3:=by
 intro c x y Q3 hh Hb G A σ3 σ H vx vy Q R rx ry k
 obtain ⟨xs,ex,hh1⟩:=ob_iff.mp hh
 obtain ⟨ys,ey,hl,q⟩:=ob_iff.mp hh1
 cases asT_is ex
 cases asT_is ey
 obtain ⟨a,vs,rfl,ha,rl⟩:=rx.tupI
 obtain ⟨b,ws,rfl,hb,rm⟩:=ry.tupI
 refine ⟨a,b,vs,ws,rfl,rfl,Same.sqT hid_same ha,Same.sqT hid_same hb,by rw [rl.length,rm.length];exact hl,fun h=> ?_,fun _ h=> ?_,fun _ _ p o hp hd=> ?_⟩
 · subst h
   cases rl
   exact k _ _ _ (Le.refl R.inv) ry q
 · subst h
   cases rm
   rw [List.append_nil] at q
   exact k _ _ _ (Le.refl R.inv) rx q
 · have L:=R.new (o:=.frz o (.tup (vs++ws))) hp
   exact k _ _ _ L (.mkT (FqT.of hd (R.newAt hp)) ((rl.mono L.vis).append (rm.mono L.vis))) q
theorem rl_catS:RL2 K (fun x y H Q=>∃i j,x= .str i∧y= .str j∧i.length+j.length≤sizeLine∧Q (.str (i++j)) H) catS3:=by
 intro c x y Q3 hh Hb G A σ3 σ H vx vy Q R rx ry k
 obtain ⟨a,ea,hh1⟩:=ob_iff.mp hh
 obtain ⟨b,eb,hl,q⟩:=ob_iff.mp hh1
 cases asS_is ea
 cases asS_is eb
 exact ⟨a,b,rx.strI,ry.strI,hl,k _ _ H (Le.refl R.inv) (.str _) q⟩
theorem RepL.times {H:Hp} {vs:List V} {ts:List T} (r:RepL K H vs ts):∀n:Nat,RepL K H (List.replicate n vs).flatten (List.replicate n ts).flatten
 | 0=>.nil
 | n+1=>by
   rw [List.replicate_succ,List.replicate_succ,List.flatten_cons,List.flatten_cons]
   exact r.append (RepL.times r n)
theorem rl_repL:RL2 K rRep repL3:=by
 intro c x y Q3 hh Hb G A σ3 σ H vx vy Q R rx ry k
 obtain ⟨xs,ex,hh1⟩:=ob_iff.mp hh
 obtain ⟨n,en,h1,h2,hl,q⟩:=ob_iff.mp hh1
 cases asL_is ex
 cases asI_is en
 obtain ⟨a,vs,rfl,ha,rl⟩:=rx.lstI
 refine ⟨a,n,vs,rfl,ry.intI,hid_same _ _ ha,h1,h2,by rw [rl.length];exact hl,fun p hp=> ?_⟩
 have L:=R.new (o:=.lst (List.replicate n.toNat vs).flatten) hp
 exact k _ _ _ L (.mkL (R.newAt hp) ((rl.mono L.vis).times _)) q
def tuple3:List T→(T→Prop)→Prop:=fun xs Q=>ob (one xs) fun x=>ob (items x) fun ys=>Q (.tup ys)
def list3:List T→(T→Prop)→Prop:=fun xs Q=>ob (one xs) fun x=>ob (items x) fun ys=>Q (.lst ys)
theorem items_cases {x:T} {ys:List T} (h:items x=some ys):x= .lst ys∨x= .tup ys:=by
 cases x<;>simp [items] at h<;>subst h<;>simp
theorem rl_tuple:RLn K (rTup K) tuple3:=by
 intro c xs Q3 hh Hb G A σ3 σ H vs Q R rx k
 obtain ⟨x,ex,hh1⟩:=ob_iff.mp hh
 obtain ⟨ys,hi,q⟩:=ob_iff.mp hh1
 cases one_is ex
 obtain ⟨v,rfl,r⟩:=repL_one rx
 rcases items_cases hi with rfl | rfl
 · obtain ⟨a,vs,rfl,ha,rl⟩:=r.lstI
   refine ⟨a,vs,rfl,.inl ⟨SqL.of (hid_same _ _ ha),fun p o hp hd=> ?_⟩⟩
   have L:=R.new (o:=.frz o (.tup vs)) hp
   exact k _ _ _ L (.mkT (FqT.of hd (R.newAt hp)) (rl.mono L.vis)) q
 · obtain ⟨a,vs,rfl,ha,rl⟩:=r.tupI
   exact ⟨a,vs,rfl,.inr ⟨Same.sqT hid_same ha,k _ _ _ (Le.refl R.inv) r q⟩⟩
theorem rl_list:RLn K (fun xs H Q=>∃p ys,xs=[.ref p]∧(SqL K H p ys∨SqT K H p ys)∧∀l,H l=none→Q (.ref l) (upd H l (.lst ys))) list3:=by
 intro c xs Q3 hh Hb G A σ3 σ H vs Q R rx k
 obtain ⟨x,ex,hh1⟩:=ob_iff.mp hh
 obtain ⟨ys,hi,q⟩:=ob_iff.mp hh1
 cases one_is ex
 obtain ⟨v,rfl,r⟩:=repL_one rx
 rcases items_cases hi with rfl | rfl
 · obtain ⟨a,vs,rfl,ha,rl⟩:=r.lstI
   refine ⟨a,vs,rfl,.inl (SqL.of (hid_same _ _ ha)),fun p hp=> ?_⟩
   have L:=R.new (o:=.lst vs) hp
   exact k _ _ _ L (.mkL (R.newAt hp) (rl.mono L.vis)) q
 · obtain ⟨a,vs,rfl,ha,rl⟩:=r.tupI
   refine ⟨a,vs,rfl,.inr (Same.sqT hid_same ha),fun p hp=> ?_⟩
   have L:=R.new (o:=.lst vs) hp
   exact k _ _ _ L (.mkL (R.newAt hp) (rl.mono L.vis)) q
end
end M3
namespace M3
open PySem L2
def PotAt (p cc:Addr) (H:Hp):Prop:=
 ∃(cs:List Int) (i n s:Int),H p=some (.lst [.ref cc,.int i,.int n,.int s])∧H cc=some (.lst (cs.map V.int))∧0≤i∧i<cs.length∧cs.length≤1000∧(∀z∈cs,0≤z)∧0≤s∧s<2147483647
theorem PotAt.ne {p cc:Addr} {H:Hp} (h:PotAt p cc H):p≠cc:=by
 obtain ⟨cs,i,n,s,h1,h2,_⟩:=h
 refine ne_of h1 h2 fun z=> ?_
 have z:[V.ref cc,V.int i,V.int n,V.int s]=cs.map V.int:=HO.lst.inj z
 cases cs with
 | nil=>cases z
 | cons a cs=>rw [List.map_cons] at z;injection z with z _;cases z
theorem PotAt.stay {p cc:Addr} {H H':Hp} (h:PotAt p cc H) (e1:H' p=H p) (e2:H' cc=H cc):PotAt p cc H':=by
 obtain ⟨cs,i,n,s,h1,h2,r⟩:=h
 exact ⟨cs,i,n,s,by rw [e1];exact h1,by rw [e2];exact h2,r⟩
theorem tabs_stay {T:List (Addr×Str)} {H H':Hp} (h:LamX.Tabs T H) (e:∀a∈T.map (·.1),H' a=H a) (x:SameX H H'):LamX.Tabs T H':=fun q hq=>by
 obtain ⟨ps,h1,h2,h3⟩:=h q hq
 refine ⟨ps,by rw [e q.1 (List.mem_map.mpr ⟨q,hq,rfl⟩)];exact h1,h2,fun pos cv z=> ?_⟩
 obtain ⟨c,e1,e2⟩:=h3 pos cv z
 exact ⟨c,e1,x _ _ e2⟩
def potR (fr:Bool) (p cc:Addr) (T:List (Addr×Str)):Cf where
 S0:=p::cc::T.map (·.1)
 I:=fun H=>PotAt p cc H∧LamX.Tabs T H
 st:=fun H H' e x h=>⟨h.1.stay (e p (by simp)) (e cc (by simp)),tabs_stay h.2 (fun a ha=>e a (by simp at ha ⊢;exact .inr (.inr ha))) x⟩
 on:=fun H h a ha=>by
  obtain ⟨⟨cs,i,n,s,h1,h2,r⟩,ht⟩:=h
  rcases List.mem_cons.mp ha with rfl | ha
  · rw [h1];intro z;cases z
  · rcases List.mem_cons.mp ha with rfl | ha
    · rw [h2];intro z;cases z
    · obtain ⟨q,hq,rfl⟩:=List.mem_map.mp ha
      obtain ⟨ps,z,_⟩:=ht q hq
      rw [z];intro y;cases y
 gOk:=fun o=>T=[]∨vis o=true
 gL:=fun _=>.inr rfl
 gV:=fun _ h=>.inr h
 fr:=fr
abbrev potT (p cc:Addr) (T:List (Addr×Str)):Cf:=potR false p cc T
abbrev potCf (p cc:Addr):Cf:=potT p cc []
theorem tabs_nil {H:Hp}:LamX.Tabs [] H:=fun q hq=>by cases hq
def spP (K:PySem.W.Frag) (n:Nat) (f:F3):Sp:=fun vs H Q E=>∃p cc G ds,PotAt p cc H∧(∀a∈G,H a≠none∧a ∉ (potCf p cc).S0)∧(T.ref p::ds).length=n∧RepL K (hid ((potCf p cc).S0++G) H) vs (T.ref p::ds)∧∃Q3 X,f (T.ref p::ds) Q3 X∧
 (∀v d H',PotAt p cc H'→Same (hid ((potCf p cc).S0++G) H) (hid ((potCf p cc).S0++G) H')→(∀a∈G,H' a=H a)→Rep K (hid ((potCf p cc).S0++G) H') v d→Q3 d→Q v H')∧
 (∀cls dd x H',PotAt p cc H'→Same (hid ((potCf p cc).S0++G) H) (hid ((potCf p cc).S0++G) H')→(∀a∈G,H' a=H a)→XRep K (hid ((potCf p cc).S0++G) H') cls dd x→X x→E cls dd H')
theorem spP_len {K:PySem.W.Frag} {n:Nat} {f:F3} {ps:List Str} (h:ps.length=n):∀vs H Q E,spP K n f vs H Q E→vs.length=ps.length:=by
 intro vs H Q E h'
 obtain ⟨p,cc,G,ds,_,_,hl,r,_⟩:=h'
 rw [r.length,hl,h]
theorem bodyP {K:PySem.W.Frag} {n:Nat} {f:F3} {N:List Str} {t:TS} {x:Addr→S3} {W:WX} {vs:List V} {H:Hp} {Q:VK} {E:XK} (h:spP K n f vs H Q E) (hW:∀cls dd σ H',E cls dd H'→W cls dd σ H')
 (lt:∀p cc,LiftS K (potCf p cc) W t (x p)) (hb:∀p ds Q3 X,(T.ref p::ds).length=n→f (T.ref p::ds) Q3 X→x p {nx:=fun _=>Q3 .non,rt:=Q3,xn:=fun _=>X} (start3 N.length (T.ref p::ds))):t {nx:=fun _ H'=>Q .non H',rt:=Q} (start N vs) H:=by
 obtain ⟨p,cc,G,ds,hp,hG,hl,r,Q3,X,hf,hq,hx⟩:=h
 refine lt p cc _ _ (hb p ds Q3 X hl hf) H G _ _ H _ (r3_start (c:=potCf p cc) (N:=N) ⟨hp,tabs_nil⟩ hG (fun _=>.inl rfl) r) ⟨?_, ?_,fun _ _ _ _ _ z=>z.elim,fun _ _ _ _ _ z=>z.elim, ?_⟩
 · intro A σ3 σ H' R q
   exact hq _ _ _ R.inv.1 R.fin.base (fun a h=>R.fin.gk a h) .non q
 · rintro v d H' ⟨F,rv⟩ q
   exact hq _ _ _ F.inv.1 F.base (fun a h=>F.gk a h) rv q
 · intro A σ3 σ H' cls dd xn R rx q
   refine hW _ _ _ _ (hx cls dd xn H' R.inv.1 R.fin.base (fun a h=>R.fin.gk a h) ?_ q)
   obtain ⟨e,rx⟩:=rx
   refine ⟨e, ?_⟩
   cases dd with
   | none=>exact rx
   | some d=>
     obtain ⟨fs,h1,h2,h3⟩:=rx
     exact ⟨fs,hid_fin _ _ h1,h2,h3.mono hid_fin⟩
def fnP30 (p:Addr) (n:Nat) (f:F3) (x:A3) (dvs:List T):E3:=fun σ Q X=>x σ (fun ds=>ds.head? =some (T.ref p)∧(ds++dvs).length=n∧f (ds++dvs) Q (fun _=>False)) X
def fnP3 (p:Addr) (n:Nat) (f:F3) (x:A3) (dvs:List T):E3:=fun σ Q X=>x σ (fun ds=>ds.head? =some (T.ref p)∧(ds++dvs).length=n∧f (ds++dvs) Q X) X
theorem spP_call {K:PySem.W.Frag} {p cc:Addr} {fr:Bool} {Ts:List (Addr×Str)} {n:Nat} {f:F3} {Hb H1:Hp} {G:List Addr} {A:List (Option Addr)} {σ3:List Sl} {σ:St} {vs:List V} {ds:List T} {Q:VK} {E:XK} {Q3:T→Prop} {X:X3} (R1:R3 K (potR fr p cc Ts) Hb G A σ3 σ H1)
 (rx:RepL K (hid ((potR fr p cc Ts).S G A) H1) vs (T.ref p::ds)) (hl:(T.ref p::ds).length=n) (hf:f (T.ref p::ds) Q3 X) (k:∀v d H',Le (potR fr p cc Ts) G A H1 H'→Rep K (hid ((potR fr p cc Ts).S G A) H') v d→Q3 d→Q v H')
 (e:∀cls dd x H',Le (potR fr p cc Ts) G A H1 H'→XRep K (hid ((potR fr p cc Ts).S G A) H') cls dd x→X x→E cls dd H'):spP K n f vs H1 Q E:=by
 have eS:∀a,a∈(potCf p cc).S0++(((potR fr p cc Ts).S G A).filter fun a=>decide (a≠p∧a≠cc))↔a∈(potR fr p cc Ts).S G A:=fun a=>by
  have h0:p∈(potR fr p cc Ts).S G A:=mem_S.mpr (.inl (by simp [potR]))
  have h1:cc∈(potR fr p cc Ts).S G A:=mem_S.mpr (.inl (by simp [potR]))
  constructor
  · intro h
    rcases List.mem_append.mp h with h | h
    · simp [potCf,potR] at h
      rcases h with rfl | rfl
      · exact h0
      · exact h1
    · exact (List.mem_filter.mp h).1
  · intro h
    by_cases z:a≠p∧a≠cc
    · exact List.mem_append.mpr (.inr (List.mem_filter.mpr ⟨h,by simpa using z⟩))
    · refine List.mem_append.mpr (.inl ?_)
      simp only [potCf,potR,List.map_nil,List.mem_cons,List.not_mem_nil,or_false]
      by_cases q:a=p
      · exact .inl q
      · by_cases q':a=cc
        · exact .inr q'
        · exact absurd ⟨q,q'⟩ z
 have eH:∀H,hid ((potCf p cc).S0++(((potR fr p cc Ts).S G A).filter fun a=>decide (a≠p∧a≠cc))) H=hid ((potR fr p cc Ts).S G A) H:=fun H=>by
  funext a
  by_cases h:a∈(potR fr p cc Ts).S G A
  · rw [hid_in h,hid_in ((eS a).mpr h)]
  · have h':=fun z=>h ((eS a).mp z)
    unfold hid
    rw [out_out h,out_out h']
 have hG:∀a∈((potR fr p cc Ts).S G A).filter (fun a=>decide (a≠p∧a≠cc)),H1 a≠none∧a ∉ (potCf p cc).S0:=fun a ha=>by
  obtain ⟨h1,h2⟩:=List.mem_filter.mp ha
  have h2:a≠p∧a≠cc:=by simpa using h2
  exact ⟨R1.there h1,by simp [potCf,potR,h2.1,h2.2]⟩
 have le:∀H',PotAt p cc H'→Same (hid ((potR fr p cc Ts).S G A) H1) (hid ((potR fr p cc Ts).S G A) H')→(∀a∈((potR fr p cc Ts).S G A).filter (fun a=>decide (a≠p∧a≠cc)),H' a=H1 a)→Le (potR fr p cc Ts) G A H1 H':=fun H' hp s1 s2=>by
  have s3:∀a∈(potR fr p cc Ts).S G A,a≠p→a≠cc→H' a=H1 a:=fun a h1 h2 h3=>s2 a (List.mem_filter.mpr ⟨h1,by simp [h2,h3]⟩)
  obtain ⟨hp0,ht⟩:=R1.inv
  have npc:∀a o,H1 a=some o→(∀vs,o≠ .lst vs)→a≠p∧a≠cc:=fun a o e hne=>by
   obtain ⟨cs,i,n,s,h1,h2,_⟩:=hp0
   exact ⟨ne_of e h1 (hne _),ne_of e h2 (hne _)⟩
  refine ⟨s1,fun a ha=> ?_,hp, ?_⟩
  · have hm:a∈(potR fr p cc Ts).S G A:=mem_S.mpr (by rcases List.mem_append.mp ha with z | z;exact .inr (.inl z);exact .inr (.inr z))
    have hn:a ∉ (potR fr p cc Ts).S0:=by
     rcases List.mem_append.mp ha with z | z
     · exact (R1.gk a z).2.2
     · exact fun q=>R1.ns a z (List.mem_append.mpr (.inl q))
    exact s3 a hm (fun z=>hn (by simp [potR,z])) (fun z=>hn (by simp [potR,z]))
  · refine tabs_stay ht (fun a ha=> ?_) (fun a φ e=> ?_)
    · obtain ⟨q,hq,rfl⟩:=List.mem_map.mp ha
      obtain ⟨ps,z,_⟩:=ht q hq
      have:=npc _ _ z (fun vs y=>by cases y)
      exact s3 _ (mem_S.mpr (.inl (by simp [potR];exact .inr (.inr ⟨_,hq⟩)))) this.1 this.2
    · by_cases h:a∈(potR fr p cc Ts).S G A
      · have:=npc _ _ e (fun vs y=>by cases y)
        rw [s3 a h this.1 this.2];exact e
      · exact (hid_some (s1 _ _ (hid_mk e h))).1
 refine ⟨p,cc,_,ds,R1.inv.1,hG,hl,by rw [eH];exact rx,Q3,X,hf, ?_, ?_⟩
 · rw [eH]
   intro v d H' hp s1 s2 rv q
   rw [eH] at s1 rv
   exact k v d H' (le H' hp s1 s2) rv q
 · rw [eH]
   intro cls dd xn H' hp s1 s2 rv q
   rw [eH] at s1 rv
   exact e cls dd xn H' (le H' hp s1 s2) rv q
theorem lift_callP0 {K:PySem.W.Frag} {p cc:Addr} {fr:Bool} {Ts:List (Addr×Str)} {n:Nat} {f:F3} {W:WX} {E:XK} {t:TA} {x:A3} {dvs:List V} {dts:List T} (ha:LiftA K (potR fr p cc Ts) W t x) (hd:∀H,RepL K H dvs dts):
 Lift K (potR fr p cc Ts) W (tCall (spP K n f) dvs E t) (fnP30 p n f x dts):=by
 intro σ3 Q3 X h Hb G A σ H Q R k e
 refine ha _ _ _ h Hb G A σ H _ R (fun vs ds H1 L1 rx hx=> ?_) e
 obtain ⟨hd0,hl,hf⟩:=hx
 obtain ⟨r,rfl⟩:∃r,ds=T.ref p::r:=by
  cases ds with
  | nil=>cases hd0
  | cons a r=>cases hd0;exact ⟨r,rfl⟩
 exact spP_call (R.le L1) (rx.append (hd _)) hl hf (fun v d H' L r q=>k v d H' (L1.trans L) r q) (fun cls dd x H' L r q=>q.elim)
theorem lift_callP {K:PySem.W.Frag} {p cc:Addr} {fr:Bool} {Ts:List (Addr×Str)} {n:Nat} {f:F3} {W:WX} {E:XK} {t:TA} {x:A3} {dvs:List V} {dts:List T} (hE:∀cls dd σ H,W cls dd σ H→E cls dd H) (ha:LiftA K (potR fr p cc Ts) W t x) (hd:∀H,RepL K H dvs dts):
 Lift K (potR fr p cc Ts) W (tCall (spP K n f) dvs E t) (fnP3 p n f x dts):=by
 intro σ3 Q3 X h Hb G A σ H Q R k e
 refine ha _ _ _ h Hb G A σ H _ R (fun vs ds H1 L1 rx hx=> ?_) e
 obtain ⟨hd0,hl,hf⟩:=hx
 obtain ⟨r,rfl⟩:∃r,ds=T.ref p::r:=by
  cases ds with
  | nil=>cases hd0
  | cons a r=>cases hd0;exact ⟨r,rfl⟩
 exact spP_call (R.le L1) (rx.append (hd _)) hl hf (fun v d H' L r q=>k v d H' (L1.trans L) r q) (fun cls dd x H' L r q=>hE _ _ σ _ (e cls dd x H' (L1.trans L) r q))
def take3:F3:=fun ds Q _=>ob (two ds) fun p=>ob (asI p.2) fun m=>0<m∧m<2 ^ 200∧∀r,0≤r→r<m→Q (.int r)
def spTake:Sp:=fun vs H Q _=>∃p cc m,vs=[.ref p,.int m]∧PotAt p cc H∧0<m∧m<2 ^ 200∧∀r H',0≤r→r<m→PotAt p cc H'→(∀a,a≠p→a≠cc→H' a=H a)→Q (.int r) H'
theorem take_imp {K:PySem.W.Frag}:∀vs H Q E,spP K 2 take3 vs H Q E→spTake vs H Q E:=by
 intro vs H Q E h
 obtain ⟨p,cc,G,ds,hp,hG,hl,r,Q3,X,hf,hq,hx⟩:=h
 obtain ⟨⟨p',m'⟩,e,hf⟩:=ob_iff.mp hf
 obtain ⟨m,em,h0,h1,hd⟩:=ob_iff.mp hf
 cases asI_is em
 have e:=two_is e
 injection e with e1 e2
 subst e2
 obtain ⟨v,w,rfl,rv,rw'⟩:=repL_two r
 cases rv.refI
 cases rw'.intI
 refine ⟨p,cc,m,rfl,hp,h0,h1,fun r H' r0 r1 hp' he=> ?_⟩
 have nin:∀a,a ∉ (potCf p cc).S0→a≠p∧a≠cc:=fun a ha=>⟨fun z=>ha (by rw [z];exact List.mem_cons_self ..),fun z=>ha (by rw [z];exact List.mem_cons_of_mem _ (List.mem_cons_self ..))⟩
 refine hq _ (.int r) H' hp' (fun a o e=> ?_) (fun a ha=> ?_) (.int r) (hd r r0 r1)
 · obtain ⟨e1,e2⟩:=hid_some e
   have ha:=nin a fun z=>e2 (List.mem_append.mpr (.inl z))
   exact hid_mk (by rw [he a ha.1 ha.2];exact e1) e2
 · have:=nin a (hG a ha).2
   exact he a this.1 this.2
theorem get_list {X:Cx}:PGet X (rIxL X.K):=by
 intro pins s σ H x y v u Q I rx ry h
 obtain ⟨p,xs,i,z,rfl,rfl,hq,he,q⟩:=h
 cases rx
 obtain ⟨t,rfl⟩:=ry
 obtain ⟨its,r,pl,hz⟩:=I.list hq
 obtain ⟨j,h1,h2,h3,h4,h5⟩:=atI_get he
 obtain ⟨w,ew,rw'⟩:=r.get h2
 have hl:=r.length
 have hn:=line63
 have fin:EP X pins σ Q w s:=⟨z,H,I,rw',q⟩
 by_cases h0:0≤i
 · have hj:i.toNat=j:=by
    rw [seqIndex_of h0 h5] at h1
    exact Option.some.inj h1
   exact wpAny_getItem_list pl.isList h0 (by omega) (by rw [hj];simpa using ew) fin
 · have hj:(i+(its.toArray.size:Int)).toNat=j:=by
    rw [seqIndex_neg (by omega) h4] at h1
    rw [List.size_toArray, ←hl]
    exact Option.some.inj h1
   exact wpAny_getItem_list_neg pl.isList (by omega) (by rw [List.size_toArray]<;>omega) (by omega) (by rw [hj];simpa using ew) fin
section
variable {K:PySem.W.Frag}
def isB3:T→T→(T→Prop)→Prop:=fun x y Q=>ob (asB x) fun a=>ob (asB y) fun b=>Q (.bl (decide (a=b)))
end
end M3
namespace M3
open PySem L2
section
variable {X:Cx} {K:PySem.W.Frag} {pos:Pos}
theorem ix_listK (h:X.K=K):IxR X (rIxL K):=h ▸ ix_list
theorem ix_tupK (h:X.K=K):IxR X (rIxT K):=h ▸ ix_tup
theorem ix_strK (h:X.K=K):IxR X rIxS:=ix_str
theorem call_lenK (h:X.K=K):CallR X (.builtin "len") (fun xs H Q=>∃x n,xs=[x]∧LenV K x H n∧Q (.int n) H):=h ▸ call_len
theorem call_isiK' (h:X.K=K):CallR X (.builtin "isinstance") (rIsi K):=h ▸ call_isi
theorem cr_allK (h:X.K=K) (hc:X.calm=true):CallR X (.builtin "all") (rAll K):=h ▸ cr_all hc
theorem sl_listK (h:X.K=K):SlR X (rSlL K):=h ▸ sl_list
theorem sl_tupK (h:X.K=K):SlR X (rSlF K):=h ▸ sl_tupF
theorem sl_strK (h:X.K=K):SlR X rSlS:=sl_str
theorem op_catTK (h:X.K=K):OpR X (binaryOp .Add) (rCatF K):=h ▸ op_catF
theorem call_tupleK (h:X.K=K):CallR X (.type "tuple") (rTup K):=h ▸ call_tupleF
theorem call_listK (h:X.K=K):CallR X (.type "list") (fun xs H Q=>∃p ys,xs=[.ref p]∧(SqL K H p ys∨SqT K H p ys)∧∀l,H l=none→Q (.ref l) (upd H l (.lst ys))):=h ▸ call_list_of
theorem pi_zipK {e e2:Expr} {ta:TA} {p tpos:Pos} {elts:List Expr} {kk:Nat} (h:X.K=K) (hg:Gl X "zip") (hm:X.mg "zip"=none) (ha:PA X [e,e2] ta)
 (hs:starEach [e,e2] X.env=(false,eval e X.env)::starEach [e2] X.env:=by rfl) (hpl:(backTo pos (starEach [e2] X.env)).any (·.1)=false:=by rfl):
 PI X (.Tuple elts kk tpos) (.Call (.Name "zip" p) [e,e2] [] pos) (RZ.iZipA K ta):=h ▸ RZ.pi_zipA hg hm ha hs hpl
theorem pg_tupK {es:List Expr} {k:Nat} {t:TGs} {n:Nat} (h:X.K=K) (hc:X.calm=true) (hp:PGs X es t)
 (hn:(assignEach es X.env).length=n:=by rfl) (hst:(assignEach es X.env).findIdx? (·.1)=none:=by rfl):PG X (.Tuple es k pos) (gTup K n t):=h ▸ pg_tup hc hp hn hst
end
section
variable {K:PySem.W.Frag} {c:Cf} {W:WX}
def truT:T→Option Bool
 | .non=>some false
 | .bl b=>some b
 | .int i=>some (i != 0)
 | .str y=>if y.length≤sizeLine then some ((y.length:Int) != 0) else none
 | .lst xs=>some (!xs.isEmpty)
 | .tup xs=>some (!xs.isEmpty)
 | _=>none
def truth3 (a:E3):B3:=fun σ Q X=>a σ (fun x=>ob (truT x) Q) X
theorem RepL.isEmpty {H:Hp} {vs:List V} {ts:List T} (r:RepL K H vs ts):vs.isEmpty=ts.isEmpty:=by cases r<;>rfl
end
end M3
namespace M3
open PySem L2
theorem r3_pot {K:PySem.W.Frag} {p cc:Addr} {Ts:List (Addr×Str)} {H:Hp} (m:Nat) (a:Addr) (hp:PotAt p cc H) (ht:LamX.Tabs Ts H):
 R3 K (potT p cc Ts) H [] (List.replicate (m+2) none) (Sl.no::Sl.val (.ref p)::List.replicate m Sl.no) (some (V.ref a)::some (V.ref p)::List.replicate m none) H:=by
 have hA:addrs (List.replicate (m+2) (none:Option Addr))=[]:=by
  unfold addrs
  rw [List.filterMap_replicate_of_none rfl]
 refine ⟨⟨hp,ht⟩, ?_,fun a h=>(by cases h),fun a h=>(by cases h),(by rw [hA];exact List.nodup_nil),fun a h=>(by rw [hA] at h;cases h),(by simp),(by simp), ?_⟩
 · unfold Cf.S
   rw [hA,List.append_nil,List.append_nil]
   exact Same.refl _
 · intro i s o x h1 h2 h3
   have ho:o=none:=(List.mem_replicate.mp (List.mem_of_getElem? h2)).2
   subst ho
   match i,h1,h3 with
   | 0,h1,h3=>cases h1;exact rfl
   | 1,h1,h3=>cases h1;cases h3;exact ⟨rfl,_,rfl,.ref p⟩
   | i+2,h1,h3=>
     have hs:s= .no:=(List.mem_replicate.mp (List.mem_of_getElem? (show (List.replicate m Sl.no)[i]? =some s by simpa using h1))).2
     subst hs
     exact rfl
theorem ob_atI {xs:List T} {r:Int} {Q:T→Prop} (h0:0≤r) (h1:r<xs.length) (h:∀x∈xs,Q x):ob (atI xs r) Q:=by
 obtain ⟨j,rfl⟩:∃j:Nat,r=(j:Int):=⟨r.toNat,by omega⟩
 have hj:j<xs.length:=by omega
 have e:atI xs (j:Int)=some xs[j]:=atI_nat (List.getElem?_eq_getElem hj)
 rw [e]
 exact h _ (List.getElem_mem hj)
theorem draw_all {xs:List T} {n:Int} {Q:T→Prop} (hn:n=xs.length) (h:∀x∈xs,Q x):∀r:Int,0≤r→r<n→ob (atI xs r) Q:=fun r h0 h1=>ob_atI h0 (by omega) h
theorem seq_by {t u:S3} {N:N3} {σ:List Sl} (M:List Sl→Prop) (h:∀nx:List Sl→Prop,(∀σ',M σ'→nx σ')→t {N with nx:=nx} σ) (k:∀σ',M σ'→u N σ'):seq3 t u N σ:=h (u N) k
end M3
namespace M3
open PySem L2
section
variable {X:Cx} {K:PySem.W.Frag}
theorem op_inK (h:X.K=K):OpR X (compareOp .In) (rIn K false):=h ▸ op_in_seq
theorem op_notInK (h:X.K=K):OpR X (compareOp .NotIn) (rIn K true):=h ▸ op_notIn_seq
end
section
variable {K:PySem.W.Frag}
def flats:List T→Option (List V)
 | []=>some []
 | t::ts=>(flatT t).bind fun v=>(flats ts).map (v::·)
theorem flat_flat {t:T} {v:V} (h:flatT t=some v):flatV v=true:=by cases t<;>cases h<;>rfl
theorem RepL.flats {H:Hp}:∀ {vs:List V} {ts:List T} {ws:List V},RepL K H vs ts→M3.flats ts=some ws→vs=ws∧ws.all flatV=true
 | _,[],ws,.nil,h=>by cases h;exact ⟨rfl,rfl⟩
 | _,t::ts,ws,.cons r q,h=>by
   have h:(flatT t).bind (fun v=>(M3.flats ts).map (v::·))=some ws:=h
   cases e:flatT t with
   | none=>rw [e] at h;cases h
   | some v=>
     rw [e] at h
     cases e2:M3.flats ts with
     | none=>rw [e2] at h;cases h
     | some l=>
       rw [e2] at h
       cases h
       obtain ⟨h1,h2⟩:=RepL.flats q e2
       rw [r.flat e,h1]
       exact ⟨rfl,by rw [List.all_cons,flat_flat e,h2];rfl⟩
def in3 (neg:Bool):T→T→(T→Prop)→Prop:=fun x y Q=>ob (flatT x) fun v=>ob (items y) fun ys=>ob (flats ys) fun vs=>Q (.bl (if neg then !inV v vs else inV v vs))
theorem rl_in (neg:Bool):RL2 K (rIn K neg) (in3 neg):=by
 intro c x y Q3 hh Hb G A σ3 σ H vx vy Q R rx ry k
 obtain ⟨v,ev,h1⟩:=ob_iff.mp hh
 obtain ⟨ys,ey,h2⟩:=ob_iff.mp h1
 obtain ⟨vs,es,q⟩:=ob_iff.mp h2
 have e:=rx.flat ev
 subst e
 rcases items_cases ey with rfl | rfl
 · obtain ⟨a,ws,rfl,ha,rl⟩:=ry.lstI
   obtain ⟨e1,e2⟩:=rl.flats es
   subst e1
   exact ⟨a,ws,rfl,.inl (SqL.of (hid_same _ _ ha)),flat_flat ev,e2,k _ _ H (Le.refl R.inv) (.bl _) q⟩
 · obtain ⟨a,ws,rfl,ha,rl⟩:=ry.tupI
   obtain ⟨e1,e2⟩:=rl.flats es
   subst e1
   exact ⟨a,ws,rfl,.inr (Same.sqT hid_same ha),flat_flat ev,e2,k _ _ H (Le.refl R.inv) (.bl _) q⟩
end
end M3
namespace M3
open PySem L2
section
variable {K:PySem.W.Frag} {c:Cf} {W:WX}
def raise3 (cls:Value):S3:=fun N σ=>N.xn σ ⟨cls,[]⟩
theorem lift_raise {cls:Value}:LiftS K c W (fun _ σ H=>W cls none σ H) (raise3 cls):=by
 intro N σ3 h Hb G A σ H D R Z
 exact Z.xn A σ3 σ H cls none ⟨cls,[]⟩ R ⟨rfl,rfl⟩ h
end
def tOne (s:Str):TS:=tRet (tTup (tCons (tC (.str s)) tNil))
theorem one_line:(1:Nat)≤sizeLine:=by decide
end M3
namespace M3
open PySem L2
section
variable {X:Cx} {K:PySem.W.Frag}
theorem op_eqDK (h:X.K=K) (hu:X.A.units+64<cLine):OpR X (compareOp .Eq) (rEqD K):=h ▸ op_eqD hu
theorem op_neDK (h:X.K=K) (hu:X.A.units+64<cLine):OpR X (compareOp .NotEq) (rNeD K):=h ▸ op_neD hu
end
mutual
def dat:T→Option PyData
 | .non=>some .none
 | .bl b=>some (.bool b)
 | .int i=>some (.int i)
 | .str x=>some (.str x)
 | .tup xs=>(dats xs).map .tuple
 | .lst xs=>(dats xs).map .list
 | .ty _=>none
 | .ref _=>none
 | .dic _=>none
 | .ins _ _=>none
 | .kd _ _=>none
def dats:List T→Option (List PyData)
 | []=>some []
 | t::ts=>(dat t).bind fun d=>(dats ts).map (d::·)
end
mutual
theorem dp_of {K:PySem.W.Frag} {H H':Hp} (s:Same H H'):∀(t:T) (v:V) (d:PyData),Rep K H v t→dat t=some d→Dp K H' v d
 | .non,v,d,r,h=>by
   cases h
   cases r
   exact .non
 | .bl b,v,d,r,h=>by
   cases h
   cases r
   exact .bl _
 | .int i,v,d,r,h=>by
   cases h
   cases r
   exact .int _
 | .str x,v,d,r,h=>by
   cases h
   cases r
   exact .str _
 | .tup xs,v,d,r,h=>by
   obtain ⟨a,vs,rfl,ha,rl⟩:=r.tupI
   have h:(dats xs).map PyData.tuple=some d:=by simpa [dat] using h
   cases e:dats xs with
   | none=>rw [e] at h;cases h
   | some ds=>
     rw [e] at h
     cases h
     exact .tup (Same.sqT s ha) (dps_of s xs vs ds rl e)
 | .lst xs,v,d,r,h=>by
   obtain ⟨a,vs,rfl,ha,rl⟩:=r.lstI
   have h:(dats xs).map PyData.list=some d:=by simpa [dat] using h
   cases e:dats xs with
   | none=>rw [e] at h;cases h
   | some ds=>
     rw [e] at h
     cases h
     exact .lst (SqL.of (s _ _ ha)) (dps_of s xs vs ds rl e)
 | .ty _,v,d,r,h=>by simp [dat] at h
 | .ref _,v,d,r,h=>by simp [dat] at h
 | .dic _,v,d,r,h=>by simp [dat] at h
 | .ins _ _,v,d,r,h=>by simp [dat] at h
 | .kd _ _,v,d,r,h=>by simp [dat] at h
theorem dps_of {K:PySem.W.Frag} {H H':Hp} (s:Same H H'):∀(ts:List T) (vs:List V) (ds:List PyData),RepL K H vs ts→dats ts=some ds→DpAll K H' vs ds
 | [],vs,ds,r,h=>by
   cases h
   cases r
   exact .nil
 | t::ts,vs,ds,r,h=>by
   have h:(dat t).bind (fun d=>(dats ts).map (d::·))=some ds:=by simpa [dats] using h
   cases e:dat t with
   | none=>rw [e] at h;cases h
   | some d=>
     rw [e] at h
     cases e2:dats ts with
     | none=>rw [e2] at h;cases h
     | some es=>
       rw [e2] at h
       cases h
       cases r with
       | cons r1 r2=>exact .cons (dp_of s t _ _ r1 e) (dps_of s ts _ _ r2 e2)
end
section
variable {K:PySem.W.Frag}
def eqD3:T→T→(T→Prop)→Prop:=fun x y Q=>ob (dat x) fun d=>ob (dat y) fun e=>SeqAt.shaped d=true∧SeqAt.shaped e=true∧Q (.bl (PyData.eqv d e))
def neD3:T→T→(T→Prop)→Prop:=fun x y Q=>ob (dat x) fun d=>ob (dat y) fun e=>SeqAt.shaped d=true∧SeqAt.shaped e=true∧Q (.bl (!PyData.eqv d e))
theorem rl_eqD:RL2 K (rEqD K) eqD3:=by
 intro c x y Q3 hh Hb G A σ3 σ H vx vy Q R rx ry k
 obtain ⟨d,ed,h1⟩:=ob_iff.mp hh
 obtain ⟨e,ee,s1,s2,q⟩:=ob_iff.mp h1
 exact ⟨d,e,dp_of hid_same _ _ _ rx ed,dp_of hid_same _ _ _ ry ee,s1,s2,k _ _ H (Le.refl R.inv) (.bl _) q⟩
theorem rl_neD:RL2 K (rNeD K) neD3:=by
 intro c x y Q3 hh Hb G A σ3 σ H vx vy Q R rx ry k
 obtain ⟨d,ed,h1⟩:=ob_iff.mp hh
 obtain ⟨e,ee,s1,s2,q⟩:=ob_iff.mp h1
 exact ⟨d,e,dp_of hid_same _ _ _ rx ed,dp_of hid_same _ _ _ ry ee,s1,s2,k _ _ H (Le.refl R.inv) (.bl _) q⟩
end
end M3
namespace M3
open PySem L2
structure Cs where
 at_:Str→Addr
 em:Value→Value→Option Bool
 w:World
def csOf (w:World) (K:PySem.W.Frag) (mg:Str→Option Value):Cs:=⟨fun x=>match mg x with | some (.ref a)=>a | _=>0,PySem.W.exmOne K,w⟩
theorem csOf_at {w:World} {K:PySem.W.Frag} {mg:Str→Option Value} {x:Str} {a:Addr} (h:mg x=some (.ref a)):(csOf w K mg).at_ x=a:=by
 show (match mg x with | some (.ref a)=>a | _=>0)=a
 rw [h]
theorem OpR.or {X:Cx} {f:Value→Value→Sem Value} {r r':R2} (a:OpR X f r) (b:OpR X f r'):OpR X f (fun x y H Q=>r x y H Q∨r' x y H Q):=fun pins s σ H x y v u Q I rx ry h=>by
 rcases h with h | h
 · exact a pins s σ H x y v u Q I rx ry h
 · exact b pins s σ H x y v u Q I rx ry h
theorem ixR_or {X:Cx} {r r':R2} (a:IxR X r) (b:IxR X r'):IxR X (fun x y H Q=>r x y H Q∨r' x y H Q):=by
 intro e1 e2 pins s σ H x y v u Q I rx ry h hs
 rcases h with h | h
 · exact a e1 e2 pins s σ H x y v u Q I rx ry h hs
 · exact b e1 e2 pins s σ H x y v u Q I rx ry h hs
theorem RL2.or2 {K:PySem.W.Frag} {r r':R2} {q q' m:T→T→(T→Prop)→Prop} (h:RL2 K r q) (h':RL2 K r' q') (hm:∀x y Q,m x y Q→q x y Q∨q' x y Q):RL2 K (fun x y H Q=>r x y H Q∨r' x y H Q) m:=by
 intro c x y Q3 hh Hb G A σ3 σ H vx vy Q R rx ry k
 rcases hm _ _ _ hh with hh | hh
 · exact .inl (h c x y Q3 hh Hb G A σ3 σ H vx vy Q R rx ry k)
 · exact .inr (h' c x y Q3 hh Hb G A σ3 σ H vx vy Q R rx ry k)
section
variable {X:Cx} {K:PySem.W.Frag}
abbrev rAdd (K:PySem.W.Frag):R2:=fun x y H Q=>rI0 (fun i j=>.int (i+j)) x y H Q∨(fun x y H Q=>(fun x y H Q=>∃i j,x= .str i∧y= .str j∧i.length+j.length≤sizeLine∧Q (.str (i++j)) H) x y H Q∨(fun x y H Q=>rCat x y H Q∨rCatF K x y H Q) x y H Q) x y H Q
theorem op_addP (h:X.K=K):OpR X (binaryOp .Add) (rAdd K):=OpR.or op_add (OpR.or op_add_str (OpR.or op_cat (op_catTK h)))
def addP:T→T→(T→Prop)→Prop
 | .int i,.int j,Q=>Q (.int (i+j))
 | .str a,.str b,Q=>a.length+b.length≤sizeLine∧Q (.str (a++b))
 | .lst a,.lst b,Q=>a.length+b.length≤sizeLine∧Q (.lst (a++b))
 | .tup a,.tup b,Q=>a.length+b.length≤sizeLine∧Q (.tup (a++b))
 | _,_,_=>False
theorem rl_addP:RL2 K (rAdd K) addP:=by
 refine RL2.or2 rl_add (RL2.or2 rl_catS (RL2.or2 rl_catL rl_catT (m:=fun x y Q=>match x,y with | .lst a,.lst b=>catL3 (.lst a) (.lst b) Q | .tup a,.tup b=>catT3 (.tup a) (.tup b) Q | _,_=>False) ?_)
  (m:=fun x y Q=>match x,y with | .str a,.str b=>catS3 (.str a) (.str b) Q | .lst a,.lst b=>catL3 (.lst a) (.lst b) Q | .tup a,.tup b=>catT3 (.tup a) (.tup b) Q | _,_=>False) ?_) ?_
 · intro x y Q h
   cases x<;>cases y<;>first | exact .inl h | exact .inr h | exact h.elim
 · intro x y Q h
   cases x<;>cases y<;>first | exact .inl h | exact .inr h | exact h.elim
 · intro x y Q h
   cases x<;>cases y<;>first | exact .inl h | exact .inr h | exact h.elim
abbrev rMul:R2:=fun x y H Q=>rI CMulW (fun i j=>.int (i * j)) x y H Q∨rRep x y H Q
theorem op_mulP:OpR X (binaryOp .Mult) rMul:=OpR.or op_mulW op_rep
def mulP:T→T→(T→Prop)→Prop
 | .int i,.int j,Q=>CMulW i j∧Q (.int (i * j))
 | .lst xs,.int k,Q=> -(2 ^ 63)≤k∧k<2 ^ 63∧xs.length * k.toNat≤sizeLine∧Q (.lst (List.replicate k.toNat xs).flatten)
 | _,_,_=>False
theorem rl_mulP:RL2 K rMul mulP:=by
 refine RL2.or2 rl_mulW rl_repL ?_
 intro x y Q h
 cases x<;>cases y<;>first | exact .inl h | exact .inr h | exact h.elim
abbrev rIx (K:PySem.W.Frag):R2:=fun x y H Q=>rIxL K x y H Q∨(fun x y H Q=>rIxT K x y H Q∨rIxS x y H Q) x y H Q
theorem ix_P (h:X.K=K):IxR X (rIx K):=ixR_or (ix_listK h) (ixR_or (ix_tupK h) (ix_strK h))
def ixP:T→T→(T→Prop)→Prop
 | .lst xs,.int i,Q=>ob (atI xs i) Q
 | .tup xs,.int i,Q=>ob (atI xs i) Q
 | .str z,.int i,Q=>z.length≤sizeLine∧ob (atI z.cps.toList i) fun c=>Q (.str ⟨#[c]⟩)
 | _,_,_=>False
theorem rl_ixP:RL2 K (rIx K) ixP:=by
 refine RL2.or2 rl_ixL (RL2.or2 rl_ixT rl_ixS (m:=fun x y Q=>match x,y with | .tup xs,.int i=>ob (atI xs i) Q | .str z,.int i=>z.length≤sizeLine∧ob (atI z.cps.toList i) fun c=>Q (.str ⟨#[c]⟩) | _,_=>False) ?_) ?_
 · intro x y Q h
   cases x<;>cases y<;>first | exact .inl h | exact .inr h | exact h.elim
 · intro x y Q h
   cases x<;>cases y<;>first | exact .inl h | exact .inr h | exact h.elim
theorem RLs.or2 {r r':V→Option Int→Option Int→Hp→VK→Prop} {q q' m:T→Option Int→Option Int→(T→Prop)→Prop} (h:RLs K r q) (h':RLs K r' q') (hm:∀x l u Q,m x l u Q→q x l u Q∨q' x l u Q):RLs K (fun x l u H Q=>r x l u H Q∨r' x l u H Q) m:=by
 intro c x lo hi Q3 hh Hb G A σ3 σ H vx Q R rx k
 rcases hm _ _ _ _ hh with hh | hh
 · exact .inl (h c x lo hi Q3 hh Hb G A σ3 σ H vx Q R rx k)
 · exact .inr (h' c x lo hi Q3 hh Hb G A σ3 σ H vx Q R rx k)
abbrev rSl (K:PySem.W.Frag):V→Option Int→Option Int→Hp→VK→Prop:=fun x l u H Q=>rSlL K x l u H Q∨(fun x l u H Q=>rSlF K x l u H Q∨rSlS x l u H Q) x l u H Q
theorem sl_P (h:X.K=K):SlR X (rSl K):=L2.SlR.or (sl_listK h) (L2.SlR.or (sl_tupK h) (sl_strK h))
def slP:T→Option Int→Option Int→(T→Prop)→Prop
 | .lst xs,l,u,Q=>Q (.lst (cut xs l u))
 | .tup xs,l,u,Q=>Q (.tup (cut xs l u))
 | .str z,l,u,Q=>z.length≤sizeLine∧Q (.str (cutS z l u))
 | _,_,_,_=>False
theorem rl_slP:RLs K (rSl K) slP:=by
 refine RLs.or2 rl_slL (RLs.or2 rl_slT rl_slS (m:=fun x l u Q=>match x with | .tup xs=>Q (.tup (cut xs l u)) | .str z=>z.length≤sizeLine∧Q (.str (cutS z l u)) | _=>False) ?_) ?_
 · intro x l u Q h
   cases x<;>first | exact .inl h | exact .inr h | exact h.elim
 · intro x l u Q h
   cases x<;>first | exact .inl h | exact .inr h | exact h.elim
abbrev rEq' (K:PySem.W.Frag):R2:=fun x y H Q=>rEq x y H Q∨rEqD K x y H Q
abbrev rNe' (K:PySem.W.Frag):R2:=fun x y H Q=>rNe x y H Q∨rNeD K x y H Q
theorem op_eqP (h:X.K=K) (hu:X.A.units+64<cLine):OpR X (compareOp .Eq) (rEq' K):=OpR.or op_eq (op_eqDK h hu)
theorem op_neP (h:X.K=K) (hu:X.A.units+64<cLine):OpR X (compareOp .NotEq) (rNe' K):=OpR.or op_ne (op_neDK h hu)
def isSeq:T→Bool
 | .lst _=>true
 | .tup _=>true
 | _=>false
def eqP (x y:T) (Q:T→Prop):Prop:=if (isSeq x||isSeq y)=true then eqD3 x y Q else eqS3 x y Q
def neP (x y:T) (Q:T→Prop):Prop:=if (isSeq x||isSeq y)=true then neD3 x y Q else neS3 x y Q
theorem rl_eqP:RL2 K (rEq' K) eqP:=by
 refine RL2.or2 rl_eqS rl_eqD fun x y Q h=> ?_
 unfold eqP at h
 split at h
 · exact .inr h
 · exact .inl h
theorem rl_neP:RL2 K (rNe' K) neP:=by
 refine RL2.or2 rl_neS rl_neD fun x y Q h=> ?_
 unfold neP at h
 split at h
 · exact .inr h
 · exact .inl h
end
section
variable {K:PySem.W.Frag} {c:Cf} {W:WX} {X:Cx}
def rIt (K:PySem.W.Frag) (x:V) (H:Hp) (R:It→Hp→Prop):Prop:=
 (∃a xs,x= .ref a∧SqL K H a xs∧R (Itl K a) H)∨(∃a xs,x= .ref a∧SqT K H a xs∧R (Itt K a) H)∨∃z,x= .str z∧R (Its z) H
def iP (K:PySem.W.Frag) (t:TE):TI:=fun σ H R=>t σ H fun x H'=>rIt K x H' R
theorem pi_P {tg e:Expr} {t:TE} (h:X.K=K) (he:PE X e t):PI X tg e (iP K t):=by
 subst h
 constructor
 intro pins s σ H R I hw
 refine thn (he.run pins s σ H _ I hw) ?_
 rintro v s1 ⟨x,H1,I1,r1,q1⟩
 have fp:∀b∈[s1.heap.objs.size],FpOk X pins H1 b:=by
  intro b hb
  cases List.mem_singleton.mp hb
  exact I1.fpOk (Nat.le_refl _) (I1.hok.fresh (Nat.le_refl _))
 rcases q1 with ⟨a,xs,rfl,hq,q⟩ | ⟨a,xs,rfl,hq,q⟩ | ⟨z,rfl,q⟩
 · cases r1
   obtain ⟨its,_,pl,_⟩:=I1.list hq
   exact wpAny_pyIter_list pl.isList ⟨_,[_],_,_,H1,rfl,I1.kept (t':=s1.toks) (fun _ _ e=>Heap.get?_push_of_some _ e),turn_list a _,⟨_,Heap.get?_push_size _ rfl,rfl,rfl⟩,fp,q⟩
 · cases r1
   obtain ⟨its,_,pl,_⟩:=I1.tuple hq
   exact wpAny_pyIter_tuple (show s1.heap.IsTuple a its.toArray from pl) ⟨_,[_],_,_,H1,rfl,I1.kept (t':=s1.toks) (fun _ _ e=>Heap.get?_push_of_some _ e),turn_tuple a _,⟨_,Heap.get?_push_size _ rfl,rfl,rfl⟩,fp,q⟩
 · obtain ⟨t,rfl⟩:=r1
   cases ha:z.cps.all (· <128)
   · exact wpAny_pyIter_wide ha (pi_one (tk:=s1.toks) I1 _ (turn_str _ z t "str_iterator" (.inr rfl)) ⟨_,Heap.get?_push_size _ rfl,rfl,rfl⟩ q)
   · exact wpAny_pyIter_ascii ha (pi_one (tk:=s1.toks) I1 _ (turn_str _ z t "str_ascii_iterator" (.inl rfl)) ⟨_,Heap.get?_push_size _ rfl,rfl,rfl⟩ q)
def chT (c:Nat):T:=.str ⟨#[c]⟩
def itemsP:T→Option (List T)
 | .lst xs=>some xs
 | .tup xs=>some xs
 | .str z=>some (z.cps.toList.map chT)
 | _=>none
def iterP (a:E3):A3:=fun σ Q X=>a σ (fun d=>ob (itemsP d) Q) X
theorem walks_str {V0:Hp} (z:Str):Walks K V0 (Its z) (z.cps.toList.map chT) where
 go:=fun i d S H hd e=>by
  have:=(List.getElem?_eq_some_iff.mp hd).1
  show i<z.cps.size
  simpa using this
 yld:=fun i d S H x H' hd e _ y=>by
  obtain ⟨rfl,c,hc,rfl⟩:=y
  rw [List.getElem?_map] at hd
  have hc':z.cps.toList[i]? =some c:=by simpa using hc
  rw [hc'] at hd
  cases hd
  exact ⟨.inl rfl,.inl (.str _)⟩
 stop:=fun S H e=>by
  show z.cps.size≤_
  simp
theorem lift_iP {ta:TE} {a:E3} (ha:Lift K c W ta a):LiftI K c W (iP K ta) (iterP a):=by
 intro σ3 Q3 X h Hb G A σ H R' R k e
 refine ha _ _ _ h Hb G A σ H _ R (fun v d H1 L1 r q=> ?_) e
 obtain ⟨xs,ex,q1⟩:=ob_iff.mp q
 cases d with
 | lst ys=>
   cases ex
   obtain ⟨p,vs,rfl,hp,rl⟩:=r.lstI
   exact .inl ⟨p,vs,rfl,SqL.of (hid_same _ _ hp),k _ _ H1 L1 (walks_list hp rl) q1⟩
 | tup ys=>
   cases ex
   obtain ⟨p,vs,rfl,hp,rl⟩:=r.tupI
   exact .inr (.inl ⟨p,vs,rfl,Same.sqT hid_same hp,k _ _ H1 L1 (walks_tup hp rl) q1⟩)
 | str z=>
   cases ex
   cases r.strI
   exact .inr (.inr ⟨z,rfl,k _ _ H1 L1 (walks_str z) q1⟩)
 | _=>cases ex
end
def sel {α:Type} (is:List Nat) (xs:List α):List α:=is.filterMap fun i=>xs[i]?
theorem vals_get:∀ {vs:List V} {us:List Value} {i:Nat},Vals vs us→(∃v u,vs[i]? =some v∧us[i]? =some u∧RelV v u)∨(vs[i]? =none∧us[i]? =none)
 | _,_,_,.nil=>.inr ⟨rfl,rfl⟩
 | _,_,0,.cons r _=>.inl ⟨_,_,rfl,rfl,r⟩
 | _,_,i+1,.cons _ q=>by simpa using vals_get (i:=i) q
theorem vals_sel:∀(is:List Nat) {vs:List V} {us:List Value},Vals vs us→Vals (sel is vs) (sel is us)
 | [],_,_,_=>.nil
 | i::is,vs,us,r=>by
   unfold sel
   rw [List.filterMap_cons,List.filterMap_cons]
   rcases vals_get (i:=i) r with ⟨v,u,e1,e2,q⟩ | ⟨e1,e2⟩
   · rw [e1,e2]
     exact .cons q (vals_sel is r)
   · rw [e1,e2]
     exact vals_sel is r
theorem repL_sel {K:PySem.W.Frag} {H:Hp}:∀(is:List Nat) {vs:List V} {ts:List T},RepL K H vs ts→RepL K H (sel is vs) (sel is ts)
 | [],_,_,_=>.nil
 | i::is,vs,ts,r=>by
   unfold sel
   rw [List.filterMap_cons,List.filterMap_cons]
   cases e:ts[i]? with
   | some t=>
     obtain ⟨v,e1,q⟩:=r.get e
     rw [e1]
     exact .cons q (repL_sel is r)
   | none=>
     have:vs[i]? =none:=by
      rw [List.getElem?_eq_none_iff] at e ⊢
      rw [r.length];exact e
     rw [this]
     exact repL_sel is r
end M3
namespace M3
open PySem L2
structure DefAt (K:PySem.W.Frag) (mg:Str→Option Value) (x qual:Str) (st:Stmt) (dts:List T) (kns:List Str) (kts:List T):Prop where
 ex:∃f fd dvs kvs,(∀H,RepL K H dvs dts)∧(∀H,RepL K H kvs kts)∧FunD K x qual (defArgs st) (defBody st) (defScope st) dvs (kns.zip kvs) f fd∧mg x=some (.ref f)
structure OkF (P:Program) (w:World) (K:PySem.W.Frag) (mg:Str→Option Value) (base:Heap) (CX:CXT) (x qual:Str) (st:Stmt) (dts:List T) (kns:List Str) (kts:List T) (lv:Nat) (ps:List Str) (sp:Sp):Prop where
 ex:∃f fd dvs kvs,(∀H,RepL K H dvs dts)∧(∀H,RepL K H kvs kts)∧FunD K x qual (defArgs st) (defBody st) (defScope st) dvs (kns.zip kvs) f fd∧mg x=some (.ref f)∧FnOk P w K mg base CX lv f fd ps sp
structure ClT (P:Program) (w:World) (K:PySem.W.Frag) (mg:Str→Option Value) (base:Heap) (CX:CXT) (x:Str) (k:Nat) (dts:List T) (sp:Sp):Prop where
 ex:∃dvs,(∀H,RepL K H dvs dts)∧Cl P w K mg base CX x k dvs sp
section
variable {P:Program} {w:World} {K:PySem.W.Frag} {mg:Str→Option Value} {base:Heap} {CX:CXT} {x qual:Str} {st:Stmt} {dts kts:List T} {kns:List Str} {lv:Nat} {ps:List Str} {sp:Sp}
theorem RepL.len0 {H:Hp} {vs:List V} (r:RepL K H vs []):vs=[]:=by cases r;rfl
theorem RepL.ne {vs:List V} {ts:List T} (r:∀H,RepL K H vs ts) (h:ts≠[]):vs≠[]:=fun e=>by
 subst e
 have:=(r (fun _=>none)).length
 cases ts with
 | nil=>exact h rfl
 | cons=>simp at this
theorem zip_ne {kns:List Str} {kvs:List V} {kts:List T} (r:∀H,RepL K H kvs kts) (h:kts≠[]) (hl:kns.length=kts.length):kns.zip kvs≠[]:=by
 have l:=(r (fun _=>none)).length
 cases kns with
 | nil=>cases kts with
   | nil=>exact fun _=>h rfl
   | cons=>simp at hl
 | cons a kns=>cases kvs with
   | nil=>cases kts with
     | nil=>exact fun _=>h rfl
     | cons=>simp at l
   | cons=>simp
theorem OkF.fun_ (O:OkF P w K mg base CX x qual st [] [] [] lv ps sp):∃f fd,Fun K x qual st f fd∧mg x=some (.ref f)∧FnOk P w K mg base CX lv f fd ps sp:=by
 obtain ⟨f,fd,dvs,kvs,rd,rk,F,hm,O⟩:=O.ex
 have e:=(rd (fun _=>none)).len0
 subst e
 obtain ⟨oc,od,dV,kV,doc,pm,an,cdv,ct,osl,e,lk,hcd,hD,hK⟩:=F.ex
 rcases hD with ⟨_,e2⟩ | ⟨z,_⟩
 · subst e2
   exact ⟨f,fd,⟨⟨oc,od,kV,doc,pm,an,cdv,ct,osl,e,lk,hcd⟩,F.kp⟩,hm,O⟩
 · exact absurd rfl z
theorem OkF.cl (O:OkF P w K mg base CX x qual st [] kns kts lv ps sp) (h:∀(kV doc pm:Value) (an:Option Addr) (cdv ct:Value) (us:List Value),us.length=ps.length→bindArgs (PySem.W.fnOf x qual (defArgs st) (defBody st) (defScope st) .none kV doc pm an cdv ct) ⟨us,[]⟩=pure (ps.zip us)):
 ClT P w K mg base CX x lv [] sp:=by
 obtain ⟨f,fd,dvs,kvs,rd,rk,F,hm,O⟩:=O.ex
 have e:=(rd (fun _=>none)).len0
 subst e
 exact ⟨[],fun _=>.nil,f,fd,ps,[],O,hm,F.kp,F.bindsN h,.nil⟩
theorem OkF.cl1 (O:OkF P w K mg base CX x qual st dts [] [] lv ps sp) (n j:Nat) (hd:dts≠[]) (hn:n+(dts.length-j)=ps.length)
 (h:∀(T:Addr) (kV doc pm:Value) (an:Option Addr) (cdv ct:Value) (us its:List Value),us.length=n→its.length=dts.length→
   ∃k,bindArgs (PySem.W.fnOf x qual (defArgs st) (defBody st) (defScope st) (.ref T) kV doc pm an cdv ct) ⟨us,[]⟩=seqItems? (.ref T) >>= k∧k (some its.toArray)=pure (ps.zip (us++its.drop j))):ClT P w K mg base CX x lv (dts.drop j) sp:=by
 obtain ⟨f,fd,dvs,kvs,rd,rk,F,hm,O⟩:=O.ex
 have l:=(rd (fun _=>none)).length
 obtain ⟨ds,v,b⟩:=F.binds1 (ps:=ps) n j (RepL.ne rd hd) (by rw [l];exact hn) (by rw [l];exact h)
 exact ⟨dvs.drop j,fun H=>(rd H).drop j,f,fd,ps,ds,O,hm,F.kp,b,v⟩
theorem kbn0 {f:Addr} {fd:FuncData} {kvs:List V} (rk:∀H,RepL K H kvs kts) (F:FunD K x qual (defArgs st) (defBody st) (defScope st) [] (kns.zip kvs) f fd) (n:Nat) (ks:List Str) (ms is:List Nat) (hk:kts≠[]) (hl:kns.length=kts.length) (hms:∀i∈ms,i<kns.length)
 (h:∀(D:Addr) (doc pm:Value) (an:Option Addr) (cdv ct:Value) (us mv ws:List Value),us.length=n→mv.length=ms.length→ws.length=ks.length→
   KwChain D ((sel ms kns).zip mv) (bindArgs (PySem.W.fnOf x qual (defArgs st) (defBody st) (defScope st) .none (.ref D) doc pm an cdv ct) ⟨us,ks.zip ws⟩) (ps.zip (sel is (us++(mv++ws))))):
 ∃mvs g,(∀H,RepL K H mvs (sel ms kts))∧KBn K fd ps n ks g (fun vs zs=>sel is (vs++(mvs++zs))):=by
 have l:kns.length=kvs.length:=hl.trans (rk (fun _=>none)).length.symm
 have len_sel:∀ {α:Type} (ms:List Nat) (xs:List α),(∀i∈ms,i<xs.length)→(sel ms xs).length=ms.length:=by
  intro α ms xs hm
  induction ms with
  | nil=>rfl
  | cons i ms ih=>
    unfold sel
    rw [List.filterMap_cons,List.getElem?_eq_getElem (hm i (List.mem_cons_self ..))]
    show (sel ms xs).length+1=_
    rw [ih fun j hj=>hm j (List.mem_cons_of_mem _ hj)]
    rfl
 have zsel:∀ms:List Nat,(∀i∈ms,i<kns.length)→(sel ms (kns.zip kvs)).map (·.1)=sel ms kns∧(sel ms (kns.zip kvs)).map (·.2)=sel ms kvs:=by
  intro ms hm
  induction ms with
  | nil=>exact ⟨rfl,rfl⟩
  | cons i ms ih=>
    obtain ⟨h1,h2⟩:=ih fun j hj=>hm j (List.mem_cons_of_mem _ hj)
    have hi:=hm i (List.mem_cons_self ..)
    have hi2:i<kvs.length:=by omega
    have e1:kns[i]? =some kns[i]:=List.getElem?_eq_getElem hi
    have e2:kvs[i]? =some kvs[i]:=List.getElem?_eq_getElem hi2
    have e3:(kns.zip kvs)[i]? =some (kns[i],kvs[i]):=by rw [List.getElem?_zip_eq_some];exact ⟨e1,e2⟩
    unfold sel
    rw [List.filterMap_cons,List.filterMap_cons,List.filterMap_cons,e1,e2,e3]
    exact ⟨by rw [List.map_cons];exact congrArg _ h1,by rw [List.map_cons];exact congrArg _ h2⟩
 obtain ⟨z1,z2⟩:=zsel ms hms
 have lz:(sel ms (kns.zip kvs)).length=ms.length:=len_sel ms _ (fun i hi=>by rw [List.length_zip];have:=hms i hi;omega)
 obtain ⟨mv,B⟩:=F.kbinds0 (ps:=ps) n ks (sel ms (kns.zip kvs)) (fun us mv ws=>sel is (us++(mv++ws))) (zip_ne rk hk hl) (fun q hq=>by
  unfold sel at hq
  obtain ⟨i,_,e⟩:=List.mem_filterMap.mp hq
  exact List.mem_of_getElem? e) (fun a b c=>vals_sel is (a.append (b.append c))) (by
  intro D doc pm an cdv ct us mv ws h1 h2 h3
  rw [z1]
  exact h D doc pm an cdv ct us mv ws h1 (by rw [h2,lz]) h3)
 rw [z2] at B
 exact ⟨sel ms kvs,_,fun H=>repL_sel ms (rk H),B⟩
theorem fnOk_no {k:Nat} {f:Addr} {fd:FuncData} (h:∀vs H Q E,¬sp vs H Q E):FnOk P w K mg base CX k f fd ps sp:=
 ⟨fun vs H Q E z=>(h vs H Q E z).elim,fun A outer s H args us vs Q E _ _ _ _ z=>(h vs H Q E z).elim⟩
def f0:F3:=fun _ _ _=>False
theorem DefAt.no (D:DefAt K mg x qual st dts kns kts) (n:Nat):OkF P w K mg base CX x qual st dts kns kts lv ps (sp3 K n f0):=by
 obtain ⟨f,fd,dvs,kvs,rd,rk,F,hm⟩:=D.ex
 exact ⟨f,fd,dvs,kvs,rd,rk,F,hm,fnOk_no fun vs H Q E z=>by
  obtain ⟨_,_,_,_,_,_,_,z,_⟩:=z
  exact z⟩
end
structure ExcC (w:World) (K:PySem.W.Frag) (mg:Str→Option Value) (x:Str):Prop where
 x_:PySem.W.excIn K ((csOf w K mg).at_ x) [.type "ValueError",.type "Exception",.type "BaseException",.type "object"] "ValueError.__new__"=true
 g:mg x=some (.ref ((csOf w K mg).at_ x))
 k:PySem.W.keepIn K (.ref ((csOf w K mg).at_ x))=true
 b:PySem.W.subIn K (.ref ((csOf w K mg).at_ x)) (.type "BaseException")=some true
 t:PySem.W.typeIn K (.ref ((csOf w K mg).at_ x))=some (.type "type")
def no3:G3 (Option Int):=fun _ Q _=>Q none
theorem for_by {s:A3} {g:TG3} {tb:S3} {N:N3} {σ:List Sl} (P:List T→Prop) (hs:∀Q X,(∀ds,P ds→Q ds)→s σ Q X) (k:∀ds,P ds→loop3 g tb N ds σ):for3 s g tb N σ:=hs _ _ k
end M3
namespace M3
open PySem L2
def TreeAt (K:PySem.W.Frag) (t:T) (u:Value):Prop:=∃v,RelV v u∧∀H,Rep K H v t
theorem treeAt_int {K:PySem.W.Frag} {i:Int} {t:Tok}:TreeAt K (.int i) (.int i t):=⟨.int i,⟨t,rfl⟩,fun _=>.int i⟩
inductive TreesAt (K:PySem.W.Frag):List T→List Value→Prop where
 | nil:TreesAt K [] []
 | cons {t:T} {u:Value} {ts:List T} {us:List Value}:TreeAt K t u→TreesAt K ts us→TreesAt K (t::ts) (u::us)
theorem TreesAt.vals {K:PySem.W.Frag}:∀ {ts:List T} {us:List Value},TreesAt K ts us→∃vs,Vals vs us∧∀H,RepL K H vs ts
 | _,_,.nil=>⟨[],.nil,fun _=>.nil⟩
 | _,_,.cons ⟨v,h1,h2⟩ q=>by
   obtain ⟨vs,q1,q2⟩:=TreesAt.vals q
   exact ⟨v::vs,.cons h1 q1,fun H=>.cons (h2 H) (q2 H)⟩
theorem treeAt_tup {K:PySem.W.Frag} {ts:List T} {us:List Value} {a:Addr} {o:Obj} {its:Array Value} {n:Nat} (h:K.lookup a=some o) (hc:o.cls= .type "tuple") (hd:o.data= .seq its n) (hs:its.size≤sizeLine) (he:its.toList=us) (r:TreesAt K ts us) (hn:o.dict=none:=by rfl):TreeAt K (.tup ts) (.ref a):=by
 obtain ⟨vs,q1,q2⟩:=r.vals
 subst he
 exact ⟨.ref a,rfl,fun H=>.mkT (.inr ⟨o,its,n,h,hn,hc,hd,hs,q1⟩) (q2 H)⟩
theorem exm_mk {K:PySem.W.Frag} {cls:Value} {C:Addr} {b:Bool} (hb:PySem.W.subIn K (.ref C) (.type "BaseException")=some true) (hi:PySem.W.isClsIn K C=true) (ht:PySem.W.typeIn K (.ref C)=some (.type "type")) (hs:PySem.W.subIn K cls (.ref C)=some b):PySem.W.exmOne K cls (.ref C)=some b:=by
 have h1:(PySem.W.subIn K (.ref C) (.type "BaseException")==some true)=true:=by rw [hb];rfl
 have h2:((PySem.W.clsIn K C).isSome&&PySem.W.typeIn K (.ref C)==some (.type "type"))=true:=by
  have hi':(PySem.W.clsIn K C).isSome=true:=hi
  rw [hi',ht]
  rfl
 show (if (PySem.W.subIn K (.ref C) (.type "BaseException")==some true)=true then PySem.W.kitCls K cls (.ref C) else none)=some b
 rw [if_pos h1]
 show (if ((PySem.W.clsIn K C).isSome&&PySem.W.typeIn K (.ref C)==some (.type "type"))=true then PySem.W.subIn K cls (.ref C) else none)=some b
 rw [if_pos h2,hs]
theorem no_of_type {K:PySem.W.Frag} {a:Addr} (h:PySem.W.typeIn K (.ref a)=none):K.lookup a=none:=by
 have h:(K.lookup a).map (·.cls)=none:=h
 cases e:K.lookup a with
 | none=>rfl
 | some o=>rw [e] at h;cases h
theorem defAt_mk {K:PySem.W.Frag} {mg:Str→Option Value} {x qual:Str} {st:Stmt} {dts kts:List T} {kns:List Str} {f:Addr} {oc dV kV doc pm cdv ct:Value} {od an:Option Addr} {osl:Array (Option Value)} (hm:mg x=some (.ref f))
 (l:K.lookup f=some ⟨oc,od,.func (PySem.W.fnOf x qual (defArgs st) (defBody st) (defScope st) dV kV doc pm an cdv ct),osl⟩) (c:PySem.W.codeIn K cdv qual=true) (k:PySem.W.keepIn K (.ref f)=true)
 (hd:(dts=[]∧dV= .none)∨(dts≠[]∧∃(Ta:Addr) (o:Obj) (its:List Value) (n:Nat),dV= .ref Ta∧K.lookup Ta=some o∧o.data= .seq its.toArray n∧TreesAt K dts its))
 (hk:(kns=[]∧kts=[])∨∃(D:Addr) (us:List Value),kV= .ref D∧TreesAt K kts us∧kns.length=us.length∧∀q∈kns.zip us,PySem.W.nsIn K D q.1=some (some q.2)):DefAt K mg x qual st dts kns kts:=by
 obtain ⟨dvs,h1,h2⟩:∃dvs,(∀H,RepL K H dvs dts)∧DflV K dV dvs:=by
  rcases hd with ⟨rfl,rfl⟩ | ⟨hn,Ta,o,its,n,rfl,a1,a2,a3⟩
  · exact ⟨[],fun _=>.nil,.inl ⟨rfl,rfl⟩⟩
  · obtain ⟨vs,q1,q2⟩:=a3.vals
    exact ⟨vs,q2,.inr ⟨RepL.ne q2 hn,Ta,o,its,n,rfl,a1,a2,q1⟩⟩
 obtain ⟨kvs,h3,h4⟩:∃kvs,(∀H,RepL K H kvs kts)∧KwdV K kV (kns.zip kvs):=by
  rcases hk with ⟨rfl,rfl⟩ | ⟨D,us,rfl,a1,a2,a3⟩
  · exact ⟨[],fun _=>.nil,.inl rfl⟩
  · obtain ⟨vs,q1,q2⟩:=a1.vals
    refine ⟨vs,q2,.inr ⟨D,rfl,fun q hq=> ?_⟩⟩
    obtain ⟨i,hi⟩:=List.getElem?_of_mem hq
    obtain ⟨i1,i2⟩:=List.getElem?_zip_eq_some.mp hi
    rcases vals_get (i:=i) q1 with ⟨v,u,e1,e2,r⟩ | ⟨e1,_⟩
    · rw [i2] at e1
      cases e1
      refine ⟨u,a3 (q.1,u) (List.mem_of_getElem? (List.getElem?_zip_eq_some.mpr ⟨i1,e2⟩)),r⟩
    · rw [i2] at e1;cases e1
 exact ⟨f,_,dvs,kvs,h1,h3,⟨⟨oc,od,dV,kV,doc,pm,an,cdv,ct,osl,rfl,l,c,h2,h4⟩,k⟩,hm⟩
end M3
namespace M3
open PySem PySem.Spec PyProof.Rows L2
section
variable {X:Cx} {K:PySem.W.Frag}
theorem depth_of {d:PyData} (h:SeqAt.shaped d=true):d.depth≤64:=by
 have h:(d.canLay0&&decide (d.depth≤64))=true:=h
 rw [Bool.and_eq_true] at h
 exact of_decide_eq_true h.2
def rLtD (K:PySem.W.Frag):R2:=fun x y H Q=>∃d e,Dp K H x d∧Dp K H y e∧PySem.W.alike d e=true∧d≠ .none∧SeqAt.shaped d=true∧Q (.bl (PySem.W.dataLt d e)) H
theorem op_ltD (h:X.K=K) (hu:X.A.units+64<cLine):OpR X (compareOp .Lt) (rLtD K):=by
 subst h
 rintro pins s σ H x y v u Q I rx ry ⟨d,e,hd,he,ha,hn,sd,q⟩
 obtain ⟨as,r1⟩:=Dp.reads I d x v hd rx
 obtain ⟨bs,r2⟩:=Dp.reads I e y u he ry
 exact PySem.W.lt_data r1 r2 ha hn (by have:=depth_of sd;omega) ⟨.bl _,H,I,rfl,q⟩
def ltD3:T→T→(T→Prop)→Prop:=fun x y Q=>ob (dat x) fun d=>ob (dat y) fun e=>PySem.W.alike d e=true∧d≠ .none∧SeqAt.shaped d=true∧Q (.bl (PySem.W.dataLt d e))
theorem rl_ltD:RL2 K (rLtD K) ltD3:=by
 intro c x y Q3 hh Hb G A σ3 σ H vx vy Q R rx ry k
 obtain ⟨d,ed,h1⟩:=ob_iff.mp hh
 obtain ⟨e,ee,s1,s2,s3,q⟩:=ob_iff.mp h1
 exact ⟨d,e,dp_of hid_same _ _ _ rx ed,dp_of hid_same _ _ _ ry ee,s1,s2,s3,k _ _ H (Le.refl R.inv) (.bl _) q⟩
abbrev rLtP (K:PySem.W.Frag):R2:=fun x y H Q=>rI0 (fun i j=>.bl (decide (i<j))) x y H Q∨rLtD K x y H Q
theorem op_ltP (h:X.K=K) (hu:X.A.units+64<cLine):OpR X (compareOp .Lt) (rLtP K):=OpR.or op_lt (op_ltD h hu)
def ltP (x y:T) (Q:T→Prop):Prop:=match x,y with
 | .int i,.int j=>Q (.bl (decide (i<j)))
 | x,y=>ltD3 x y Q
theorem rl_ltP:RL2 K (rLtP K) ltP:=by
 refine RL2.or2 rl_lt rl_ltD fun x y Q h=> ?_
 cases x<;>cases y<;>first | exact .inl h | exact .inr h
def rGtD (K:PySem.W.Frag):R2:=fun x y H Q=>∃d e,Dp K H x d∧Dp K H y e∧PySem.W.alike d e=true∧d≠ .none∧SeqAt.shaped d=true∧Q (.bl (PySem.W.dataLt e d)) H
theorem op_gtD (h:X.K=K) (hu:X.A.units+64<cLine):OpR X (compareOp .Gt) (rGtD K):=by
 subst h
 rintro pins s σ H x y v u Q I rx ry ⟨d,e,hd,he,ha,hn,sd,q⟩
 obtain ⟨as,r1⟩:=Dp.reads I d x v hd rx
 obtain ⟨bs,r2⟩:=Dp.reads I e y u he ry
 exact PySem.W.gt_data r1 r2 ha hn (by have:=depth_of sd;omega) ⟨.bl _,H,I,rfl,q⟩
def gtD3:T→T→(T→Prop)→Prop:=fun x y Q=>ob (dat x) fun d=>ob (dat y) fun e=>PySem.W.alike d e=true∧d≠ .none∧SeqAt.shaped d=true∧Q (.bl (PySem.W.dataLt e d))
theorem rl_gtD:RL2 K (rGtD K) gtD3:=by
 intro c x y Q3 hh Hb G A σ3 σ H vx vy Q R rx ry k
 obtain ⟨d,ed,h1⟩:=ob_iff.mp hh
 obtain ⟨e,ee,s1,s2,s3,q⟩:=ob_iff.mp h1
 exact ⟨d,e,dp_of hid_same _ _ _ rx ed,dp_of hid_same _ _ _ ry ee,s1,s2,s3,k _ _ H (Le.refl R.inv) (.bl _) q⟩
abbrev rGtP (K:PySem.W.Frag):R2:=fun x y H Q=>rI0 (fun i j=>.bl (decide (j<i))) x y H Q∨rGtD K x y H Q
theorem op_gtP (h:X.K=K) (hu:X.A.units+64<cLine):OpR X (compareOp .Gt) (rGtP K):=OpR.or op_gt (op_gtD h hu)
def gtP (x y:T) (Q:T→Prop):Prop:=match x,y with
 | .int i,.int j=>Q (.bl (decide (j<i)))
 | x,y=>gtD3 x y Q
theorem rl_gtP:RL2 K (rGtP K) gtP:=by
 refine RL2.or2 rl_gt rl_gtD fun x y Q h=> ?_
 cases x<;>cases y<;>first | exact .inl h | exact .inr h
def rLeD (K:PySem.W.Frag):R2:=fun x y H Q=>∃d e,Dp K H x d∧Dp K H y e∧PySem.W.alike d e=true∧d≠ .none∧SeqAt.shaped d=true∧Q (.bl (!PySem.W.dataLt e d)) H
theorem op_leD (h:X.K=K) (hu:X.A.units+64<cLine):OpR X (compareOp .LtE) (rLeD K):=by
 subst h
 rintro pins s σ H x y v u Q I rx ry ⟨d,e,hd,he,ha,hn,sd,q⟩
 obtain ⟨as,r1⟩:=Dp.reads I d x v hd rx
 obtain ⟨bs,r2⟩:=Dp.reads I e y u he ry
 exact PySem.W.le_data r1 r2 ha hn (by have:=depth_of sd;omega) ⟨.bl _,H,I,rfl,q⟩
def leD3:T→T→(T→Prop)→Prop:=fun x y Q=>ob (dat x) fun d=>ob (dat y) fun e=>PySem.W.alike d e=true∧d≠ .none∧SeqAt.shaped d=true∧Q (.bl (!PySem.W.dataLt e d))
theorem rl_leD:RL2 K (rLeD K) leD3:=by
 intro c x y Q3 hh Hb G A σ3 σ H vx vy Q R rx ry k
 obtain ⟨d,ed,h1⟩:=ob_iff.mp hh
 obtain ⟨e,ee,s1,s2,s3,q⟩:=ob_iff.mp h1
 exact ⟨d,e,dp_of hid_same _ _ _ rx ed,dp_of hid_same _ _ _ ry ee,s1,s2,s3,k _ _ H (Le.refl R.inv) (.bl _) q⟩
abbrev rLeP (K:PySem.W.Frag):R2:=fun x y H Q=>rI0 (fun i j=>.bl (decide (i≤j))) x y H Q∨rLeD K x y H Q
theorem op_leP (h:X.K=K) (hu:X.A.units+64<cLine):OpR X (compareOp .LtE) (rLeP K):=OpR.or op_le (op_leD h hu)
def leP (x y:T) (Q:T→Prop):Prop:=match x,y with
 | .int i,.int j=>Q (.bl (decide (i≤j)))
 | x,y=>leD3 x y Q
theorem rl_leP:RL2 K (rLeP K) leP:=by
 refine RL2.or2 rl_le rl_leD fun x y Q h=> ?_
 cases x<;>cases y<;>first | exact .inl h | exact .inr h
def rGeD (K:PySem.W.Frag):R2:=fun x y H Q=>∃d e,Dp K H x d∧Dp K H y e∧PySem.W.alike d e=true∧d≠ .none∧SeqAt.shaped d=true∧Q (.bl (!PySem.W.dataLt d e)) H
theorem op_geD (h:X.K=K) (hu:X.A.units+64<cLine):OpR X (compareOp .GtE) (rGeD K):=by
 subst h
 rintro pins s σ H x y v u Q I rx ry ⟨d,e,hd,he,ha,hn,sd,q⟩
 obtain ⟨as,r1⟩:=Dp.reads I d x v hd rx
 obtain ⟨bs,r2⟩:=Dp.reads I e y u he ry
 exact PySem.W.ge_data r1 r2 ha hn (by have:=depth_of sd;omega) ⟨.bl _,H,I,rfl,q⟩
def geD3:T→T→(T→Prop)→Prop:=fun x y Q=>ob (dat x) fun d=>ob (dat y) fun e=>PySem.W.alike d e=true∧d≠ .none∧SeqAt.shaped d=true∧Q (.bl (!PySem.W.dataLt d e))
theorem rl_geD:RL2 K (rGeD K) geD3:=by
 intro c x y Q3 hh Hb G A σ3 σ H vx vy Q R rx ry k
 obtain ⟨d,ed,h1⟩:=ob_iff.mp hh
 obtain ⟨e,ee,s1,s2,s3,q⟩:=ob_iff.mp h1
 exact ⟨d,e,dp_of hid_same _ _ _ rx ed,dp_of hid_same _ _ _ ry ee,s1,s2,s3,k _ _ H (Le.refl R.inv) (.bl _) q⟩
abbrev rGeP (K:PySem.W.Frag):R2:=fun x y H Q=>rI0 (fun i j=>.bl (decide (j≤i))) x y H Q∨rGeD K x y H Q
theorem op_geP (h:X.K=K) (hu:X.A.units+64<cLine):OpR X (compareOp .GtE) (rGeP K):=OpR.or op_ge (op_geD h hu)
def geP (x y:T) (Q:T→Prop):Prop:=match x,y with
 | .int i,.int j=>Q (.bl (decide (j≤i)))
 | x,y=>geD3 x y Q
theorem rl_geP:RL2 K (rGeP K) geP:=by
 refine RL2.or2 rl_ge rl_geD fun x y Q h=> ?_
 cases x<;>cases y<;>first | exact .inl h | exact .inr h
end
end M3
namespace M3
open PySem L2
def ownL (σ:List Sl) (i:Nat):Option (List T):=match σ[i]? with | some (.own (.lst xs))=>some xs | _=>none
def thaw (σ:List Sl) (i:Nat):List Sl:=match σ[i]? with | some (.own (.lst xs))=>σ.set i (.val (.lst xs)) | _=>σ
def isTup:T→Bool
 | .tup _=>true
 | .dic _=>true
 | .kd _ _=>true
 | _=>false
theorem ownL_is {σ:List Sl} {i:Nat} {xs:List T} (h:ownL σ i=some xs):σ[i]? =some (.own (.lst xs)):=by
 unfold ownL at h
 split at h
 · cases h;assumption
 · cases h
theorem addrs_one:∀ {B:List (Option Addr)} {i j:Nat} {p:Addr},(addrs B).Nodup→B[i]? =some (some p)→B[j]? =some (some p)→i=j
 | [],i,j,p,_,h,_=>by simp at h
 | b::B,0,0,p,_,_,_=>rfl
 | b::B,0,j+1,p,hN,h1,h2=>by
   simp at h1 h2
   subst h1
   exact absurd (mem_addrs.mpr (List.mem_of_getElem? h2)) (List.nodup_cons.mp (show (p::addrs B).Nodup from hN)).1
 | b::B,i+1,0,p,hN,h1,h2=>by
   simp at h1 h2
   subst h2
   exact absurd (mem_addrs.mpr (List.mem_of_getElem? h1)) (List.nodup_cons.mp (show (p::addrs B).Nodup from hN)).1
 | b::B,i+1,j+1,p,hN,h1,h2=>by
   simp at h1 h2
   have hN':(addrs B).Nodup:=by
    cases b with
    | none=>exact hN
    | some q=>exact (List.nodup_cons.mp (show (q::addrs B).Nodup from hN)).2
   rw [addrs_one hN' h1 h2]
theorem addrs_none {B:List (Option Addr)} {i:Nat} {p:Addr} (hN:(addrs B).Nodup) (h:B[i]? =some (some p)):p ∉ addrs (B.set i none):=fun z=>by
 obtain ⟨j,hj⟩:=List.getElem?_of_mem (mem_addrs.mp z)
 rcases getElem?_set_cases hj with ⟨_,e,_⟩ | ⟨e,hj2⟩
 · cases e
 · exact e (addrs_one hN h hj2)
theorem addrs_some_sub {B:List (Option Addr)} {i:Nat} {p:Addr}:∀a∈addrs (B.set i (some p)),a=p∨a∈addrs B:=fun a z=>by
 obtain ⟨j,hj⟩:=List.getElem?_of_mem (mem_addrs.mp z)
 rcases getElem?_set_cases hj with ⟨_,e,_⟩ | ⟨_,e⟩
 · cases e;exact .inl rfl
 · exact .inr (mem_addrs.mpr (List.mem_of_getElem? e))
theorem nodup_some:∀ {B:List (Option Addr)} {i:Nat} {p:Addr},(addrs B).Nodup→p ∉ addrs B→(addrs (B.set i (some p))).Nodup
 | [],i,p,h,_=>by simpa using h
 | none::B,0,p,h,n=>List.nodup_cons.mpr ⟨n,h⟩
 | some a::B,0,p,h,n=>List.nodup_cons.mpr ⟨fun z=>n (List.mem_cons_of_mem _ z),(List.nodup_cons.mp (show (a::addrs B).Nodup from h)).2⟩
 | none::B,i+1,p,h,n=>nodup_some (B:=B) (i:=i) h n
 | some a::B,i+1,p,h,n=>by
   have h':=List.nodup_cons.mp (show (a::addrs B).Nodup from h)
   have n':a≠p∧p ∉ addrs B:=⟨fun z=>n (by rw [←z];exact List.mem_cons_self ..),fun z=>n (List.mem_cons_of_mem _ z)⟩
   refine List.nodup_cons.mpr ⟨fun z=> ?_,nodup_some (B:=B) (i:=i) h'.2 n'.2⟩
   rcases addrs_some_sub a z with e | e
   · exact n'.1 e
   · exact h'.1 e
section
variable {K:PySem.W.Frag} {c:Cf} {Hb H H':Hp} {G:List Addr} {A:List (Option Addr)} {σ3:List Sl} {σ:St}
theorem R3.ownGet (r:R3 K c Hb G A σ3 σ H) {i:Nat} {t:T} (h:σ3[i]? =some (.own t)):∃a,A[i]? =some (some a)∧σ[i]? =some (some (.ref a))∧OwnRep K (hid (c.S G A) H) H a t:=by
 have hl:i<σ3.length:=(List.getElem?_eq_some_iff.mp h).1
 have h1:i<A.length:=by rw [r.l1];exact hl
 have h2:i<σ.length:=by rw [r.l2];exact hl
 obtain ⟨a,e1,e2,q⟩:=r.at_ i _ _ _ h (List.getElem?_eq_getElem h1) (List.getElem?_eq_getElem h2)
 exact ⟨a,by rw [List.getElem?_eq_getElem h1,e1],by rw [List.getElem?_eq_getElem h2,e2],q⟩
theorem R3.freeze (r:R3 K c Hb G A σ3 σ H) {i:Nat} {t:T} (h:σ3[i]? =some (.own t)) (ht:isTup t=false):R3 K c Hb G (A.set i none) (σ3.set i (.val t)) σ H:=by
 obtain ⟨a,hA,hσ,q⟩:=r.ownGet h
 have sub:Same (hid (c.S G A) H) (hid (c.S G (A.set i none)) H):=hid_mono (S_sub addrs_set_sub)
 have ha:a∈addrs A:=mem_addrs.mpr (List.mem_of_getElem? hA)
 have na:a ∉ c.S G (A.set i none):=fun z=>by
  rcases mem_S.mp z with z | z | z
  · exact r.ns a ha (List.mem_append.mpr (.inl z))
  · exact r.ns a ha (List.mem_append.mpr (.inr z))
  · exact addrs_none r.nd hA z
 refine ⟨r.inv,Same.trans r.base sub,r.gk,r.gv,nodup_filterMap_set (A:=A) r.nd,fun b hb=>r.ns b (addrs_set_sub b hb),by rw [List.length_set,List.length_set,r.l1],by rw [List.length_set,r.l2], ?_⟩
 intro j s o x h1 h2 h3
 rcases getElem?_set_cases h1 with ⟨e,e1,_⟩ | ⟨e,e1⟩
 · subst e
   subst e1
   rcases getElem?_set_cases h2 with ⟨_,e2,_⟩ | ⟨e2,_⟩
   · subst e2
     rw [hσ] at h3
     cases h3
     refine ⟨rfl,_,rfl, ?_⟩
     cases t with
     | lst xs=>
       obtain ⟨vs,q1,q2⟩:=q
       exact .mkL (hid_mk q1 na) (q2.mono sub)
     | dic kvs=>cases ht
     | tup xs=>cases ht
     | kd w es=>cases ht
     | _=>exact q.elim
   · exact absurd rfl e2
 · rw [List.getElem?_set_ne e] at h2
   have z:=r.at_ j s o x e1 h2 h3
   cases s with
   | no=>exact z
   | val t=>obtain ⟨e,v,e2,q⟩:=z;exact ⟨e,v,e2,q.mono sub⟩
   | own t=>obtain ⟨a,e,e2,q⟩:=z;exact ⟨a,e,e2,q.mono sub rfl⟩
theorem R3.thaw (r:R3 K c Hb G A σ3 σ H) (i:Nat):∃A',R3 K c Hb G A' (M3.thaw σ3 i) σ H:=by
 unfold M3.thaw
 split
 · rename_i t h
   exact ⟨_,r.freeze h rfl⟩
 · exact ⟨_,r⟩
theorem R3.ownAsX (r:R3 K c Hb G A σ3 σ H) {i:Nat} {a:Addr} {t u:T} {o o':HO} (h:σ3[i]? =some (.own t)) (hA:A[i]? =some (some a)) (ha:H a=some o) (hx:∀b q,o≠LamX.CodeO b q) (q:OwnRep K (hid (c.S G A) H) (upd H a o') a u):
 R3 K c Hb G A (σ3.set i (.own u)) σ (upd H a o'):=by
 have hm:a∈addrs A:=mem_addrs.mpr (List.mem_of_getElem? hA)
 have hS:a∈c.S G A:=mem_S.mpr (.inr (.inr hm))
 have n0:∀b∈c.S0++G,b≠a:=fun b hb z=>r.ns a hm (by rw [←z];exact hb)
 refine ⟨c.st H _ (fun b hb=>by rw [upd_ne (n0 b (List.mem_append.mpr (.inl hb)))]) (fun b φ e=>by rw [upd_ne (ne_of e ha (fun z=>hx _ _ z.symm))];exact e) r.inv,by rw [hid_upd_in hS];exact r.base,fun b hb=> ?_,fun b hb o e=> ?_,r.nd,r.ns,by rw [List.length_set,r.l1],by rw [List.length_set,r.l2], ?_⟩
 · rw [upd_ne (n0 b (List.mem_append.mpr (.inr hb)))]
   exact r.gk b hb
 · rw [upd_ne (n0 b (List.mem_append.mpr (.inr hb)))] at e
   exact r.gv b hb o e
 · rw [hid_upd_in hS]
   intro j s o x h1 h2 h3
   rcases getElem?_set_cases h1 with ⟨e,e1,_⟩ | ⟨e,e1⟩
   · subst e
     subst e1
     rw [hA] at h2
     cases h2
     obtain ⟨b,hb,hσ,_⟩:=r.ownGet h
     rw [hA] at hb
     cases hb
     rw [hσ] at h3
     cases h3
     exact ⟨a,rfl,rfl,q⟩
   · have z:=r.at_ j s o x e1 h2 h3
     cases s with
     | no=>exact z
     | val t=>exact z
     | own t=>
       obtain ⟨b,e3,e4,q'⟩:=z
       subst e3
       have nb:b≠a:=fun z=>e (addrs_one r.nd hA (by rw [←z];exact h2))
       exact ⟨b,rfl,e4,q'.mono (Same.refl _) (upd_ne nb)⟩
theorem R3.ownAs (r:R3 K c Hb G A σ3 σ H) {i:Nat} {a:Addr} {t u:T} {o o':HO} (h:σ3[i]? =some (.own t)) (hA:A[i]? =some (some a)) (ha:H a=some o) (hx:∀φ,o≠ .ext φ) (q:OwnRep K (hid (c.S G A) H) (upd H a o') a u):
 R3 K c Hb G A (σ3.set i (.own u)) σ (upd H a o'):=r.ownAsX h hA ha (fun _ _=>hx _) q
theorem R3.ownPut (r:R3 K c Hb G A σ3 σ H) {i:Nat} {a:Addr} {ts us:List T} {ws vs:List V} (h:σ3[i]? =some (.own (.lst ts))) (hA:A[i]? =some (some a)) (ha:H a=some (.lst ws)) (q:RepL K (hid (c.S G A) H) vs us):
 R3 K c Hb G A (σ3.set i (.own (.lst us))) σ (upd H a (.lst vs)):=r.ownAs h hA ha (fun φ z=>by cases z) ⟨vs,upd_same,q⟩
structure FrD (K:PySem.W.Frag) (c:Cf) (G:List Addr) (A:List (Option Addr)) (H H':Hp) (D:Addr) (vs:List V) (ds:List T):Prop where
 nD:D ∉ c.S G A
 vis:Same (hid (c.S G A) H) (hid (D::c.S G A) H')
 own:∀a∈G++addrs A,H' a=H a
 inv:c.I H'
 at_:H' D=some (.lst vs)
 rep:RepL K (hid (D::c.S G A) H') vs ds
theorem FrD.le (f:FrD K c G A H H' D vs ds):Le c G A H H':=⟨Same.trans f.vis (hid_mono fun a h=>List.mem_cons_of_mem _ h),f.own,f.inv⟩
theorem R3.ownNew (r:R3 K c Hb G A σ3 σ H) {D:Addr} {vs:List V} {ds:List T} (f:FrD K c G A H H' D vs ds) (i:Nat):R3 K c Hb G (A.set i (some D)) (σ3.set i (.own (.lst ds))) (σ.set i (some (.ref D))) H':=by
 have sub:∀a∈c.S G (A.set i (some D)),a∈D::c.S G A:=fun a z=>by
  rcases mem_S.mp z with z | z | z
  · exact List.mem_cons_of_mem _ (mem_S.mpr (.inl z))
  · exact List.mem_cons_of_mem _ (mem_S.mpr (.inr (.inl z)))
  · rcases addrs_some_sub a z with z | z
    · rw [z];exact List.mem_cons_self ..
    · exact List.mem_cons_of_mem _ (mem_S.mpr (.inr (.inr z)))
 have vis:Same (hid (c.S G A) H) (hid (c.S G (A.set i (some D))) H'):=Same.trans f.vis (hid_mono sub)
 have nA:D ∉ addrs A:=fun z=>f.nD (mem_S.mpr (.inr (.inr z)))
 have n0:D ∉ c.S0++G:=fun z=>f.nD (by rcases List.mem_append.mp z with z | z;exact mem_S.mpr (.inl z);exact mem_S.mpr (.inr (.inl z)))
 refine ⟨f.inv,Same.trans r.base vis,fun a h=>⟨(f.own a (List.mem_append.mpr (.inl h))).trans (r.gk a h).1,by rw [f.own a (List.mem_append.mpr (.inl h))];exact (r.gk a h).2.1,(r.gk a h).2.2⟩,
  fun a h o e=>r.gv a h o (by rw [←f.own a (List.mem_append.mpr (.inl h))];exact e),nodup_some r.nd nA,fun a h=> ?_,by rw [List.length_set,List.length_set,r.l1],by rw [List.length_set,List.length_set,r.l2], ?_⟩
 · rcases addrs_some_sub a h with z | z
   · rw [z];exact n0
   · exact r.ns a z
 · intro j s o x h1 h2 h3
   rcases getElem?_set_cases h1 with ⟨e,e1,_⟩ | ⟨e,e1⟩
   · subst e
     subst e1
     rcases getElem?_set_cases h2 with ⟨_,e2,_⟩ | ⟨e2,_⟩
     · subst e2
       rcases getElem?_set_cases h3 with ⟨_,e3,_⟩ | ⟨e3,_⟩
       · subst e3
         exact ⟨D,rfl,rfl,vs,f.at_,f.rep.mono (hid_mono sub)⟩
       · exact absurd rfl e3
     · exact absurd rfl e2
   · rw [List.getElem?_set_ne e] at h2 h3
     have z:=r.at_ j s o x e1 h2 h3
     cases s with
     | no=>exact z
     | val t=>obtain ⟨e,v,e2,q⟩:=z;exact ⟨e,v,e2,q.mono vis⟩
     | own t=>
       obtain ⟨a,e,e2,q⟩:=z
       refine ⟨a,e,e2,q.mono vis (f.own a (List.mem_append.mpr (.inr (mem_addrs.mpr ?_))))⟩
       subst e
       exact List.mem_of_getElem? h2
theorem R3.frD (r:R3 K c Hb G A σ3 σ H) {p:Addr} {vs:List V} {ds:List T} (h:H p=none) (q:RepL K (hid (c.S G A) H) vs ds):FrD K c G A H (upd H p (.lst vs)) p vs ds:=by
 have L:=r.new (o:=.lst vs) h
 have v:Same (hid (c.S G A) H) (hid (p::c.S G A) (upd H p (.lst vs))):=by
  rw [hid_upd_in (List.mem_cons_self ..)]
  intro a o e
  obtain ⟨e1,e2⟩:=hid_some e
  exact hid_mk e1 fun z=>by
   rcases List.mem_cons.mp z with z | z
   · rw [z,h] at e1;cases e1
   · exact e2 z
 exact ⟨r.free h,v,L.own,L.inv,upd_same,q.mono v⟩
end
def LiftFr (K:PySem.W.Frag) (c:Cf) (W:WX) (te:TE) (t:E3):Prop:=
 ∀σ3 Q3 X,t σ3 Q3 X→∀Hb G A σ H Q,R3 K c Hb G A σ3 σ H→
  (∀D vs ds H',FrD K c G A H H' D vs ds→Q3 (.lst ds)→Q (.ref D) H')→
  (∀cls dd x H',Le c G A H H'→XRep K (hid (c.S G A) H') cls dd x→X x→W cls dd σ H')→te σ H Q
def ownset3 (t:E3) (i:Nat):S3:=fun N σ=>t σ (fun d=>ob (asL d) fun xs=>N.nx (σ.set i (.own (.lst xs)))) (N.xn σ)
def frz3 (i:Nat) (x:S3):S3:=fun N σ=>x N (thaw σ i)
def appPop3 (i j:Nat) (e:E3):S3:=fun N σ=>ob (ownL σ i) fun xs=>ob (ownL σ j) fun ys=>e σ (fun d=>ob (asI d) fun k=>i≠j∧(-(2 ^ 63)≤k∧k<2 ^ 63)∧ob (seqIndex? k ys.length) fun m=>ob ys[m]? fun y=>xs.length<sizeLine∧
 N.nx ((σ.set j (.own (.lst (ys.eraseIdx m)))).set i (.own (.lst (xs++[y]))))) (N.xn σ)
def lenO3 (i:Nat):E3:=fun σ Q _=>ob (ownL σ i) fun xs=>Q (.int xs.length)
section
variable {K:PySem.W.Frag} {c:Cf} {W:WX} {te:TE} {t e:E3} {i j:Nat}
theorem lift_frLst {ta:TA} {x:A3} (ha:LiftA K c W ta x):LiftFr K c W (tLst ta) (lst3 x):=by
 intro σ3 Q3 X h Hb G A σ H Q R k e
 refine ha _ _ _ h Hb G A σ H _ R (fun vs xs H1 L1 rx hx=> ?_) e
 refine ⟨by rw [rx.length];exact hx.1,fun p hp=> ?_⟩
 have f:=(R.le L1).frD hp rx
 exact k p vs xs _ ⟨f.nD,Same.trans L1.vis f.vis,fun a ha=>(f.own a ha).trans (L1.own a ha),f.inv,f.at_,f.rep⟩ hx.2
theorem lift_frList {ta:TA} {x:A3} (ha:LiftA K c W ta x):LiftFr K c W (tCB (fun xs H Q=>∃p ys,xs=[.ref p]∧(SqL K H p ys∨SqT K H p ys)∧∀l,H l=none→Q (.ref l) (upd H l (.lst ys))) ta) (call3 list3 x):=by
 intro σ3 Q3 X h Hb G A σ H Q R k e
 refine ha _ _ _ h Hb G A σ H _ R (fun vs xs H1 L1 rx hx=> ?_) e
 obtain ⟨d,ed,hx1⟩:=ob_iff.mp hx
 obtain ⟨ys,hi,q⟩:=ob_iff.mp hx1
 cases one_is ed
 obtain ⟨v,rfl,r⟩:=repL_one rx
 have fin:∀(ws:List V),RepL K (hid (c.S G A) H1) ws ys→∀l,H1 l=none→Q (.ref l) (upd H1 l (.lst ws)):=fun ws rw' l hl=>by
  have f:=(R.le L1).frD hl rw'
  exact k l ws ys _ ⟨f.nD,Same.trans L1.vis f.vis,fun a ha=>(f.own a ha).trans (L1.own a ha),f.inv,f.at_,f.rep⟩ q
 rcases items_cases hi with rfl | rfl
 · obtain ⟨a,ws,rfl,ha,rl⟩:=r.lstI
   exact ⟨a,ws,rfl,.inl (SqL.of (hid_same _ _ ha)),fin ws rl⟩
 · obtain ⟨a,ws,rfl,ha,rl⟩:=r.tupI
   exact ⟨a,ws,rfl,.inr (Same.sqT hid_same ha),fin ws rl⟩
theorem lift_ownset (h:LiftFr K c W te t):LiftS K c W (tAsg te (gName i)) (ownset3 t i):=by
 intro N σ3 hh Hb G A σ H D R Z
 refine h _ _ _ hh Hb G A σ H _ R (fun d vs ds H' f q=> ?_) (fun cls dd x H' L r q=>Z.xn _ _ _ _ _ _ _ (R.le L) r q)
 exact Z.nx _ _ _ _ (R.ownNew f i) q
theorem lift_frz {ts:TS} {x:S3} (h:LiftS K c W ts x):LiftS K c W ts (frz3 i x):=by
 intro N σ3 hh Hb G A σ H D R Z
 obtain ⟨A',R'⟩:=R.thaw i
 exact h _ _ hh Hb G A' σ H D R' Z
theorem lift_lenO:Lift K c W (tCB (fun xs H Q=>∃x n,xs=[x]∧LenV K x H n∧Q (.int n) H) (tCons (tVar i) tNil)) (lenO3 i):=by
 intro σ3 Q3 X h Hb G A σ H Q R k e
 obtain ⟨xs,ex,q⟩:=ob_iff.mp h
 obtain ⟨a,hA,hσ,vs,h1,h2⟩:=R.ownGet (ownL_is ex)
 exact ⟨_,hσ,_,_,rfl,.inl ⟨vs,SqL.of h1,rfl⟩,k _ _ H (Le.refl R.inv) (by rw [h2.length];exact .int _) q⟩
theorem RepL.eraseIdx {H:Hp}:∀ {vs:List V} {ts:List T} (m:Nat),RepL K H vs ts→RepL K H (vs.eraseIdx m) (ts.eraseIdx m)
 | _,_,_,.nil=>.nil
 | _,_,0,.cons _ q=>q
 | _,_,m+1,.cons r q=>.cons r (RepL.eraseIdx m q)
theorem lift_appPop {te:TE} {e:E3} (he:Lift K c W te e):LiftS K c W (tDrop (tBM K "list" rAppend (tVar i) (tCons (tBM K "list" rPopAt (tVar j) (tCons te tNil)) tNil))) (appPop3 i j e):=by
 intro N σ3 h Hb G A σ H D R Z
 obtain ⟨xs,ex,h⟩:=ob_iff.mp h
 obtain ⟨a,hA,hσ,vs,h1,h2⟩:=R.ownGet (ownL_is ex)
 refine ⟨_,hσ,.inl ⟨rfl,vs,SqL.of h1⟩, ?_⟩
 obtain ⟨ys,ey,h⟩:=ob_iff.mp h
 · obtain ⟨b,hB,hσb,ws,g1,g2⟩:=R.ownGet (ownL_is ey)
   refine ⟨_,hσb,.inl ⟨rfl,ws,SqL.of g1⟩, ?_⟩
   refine he _ _ _ h Hb G A σ H _ R (fun v d H1 L1 r q=> ?_) (fun cls dd x H' L r q=>Z.xn _ _ _ _ _ _ _ (R.le L) r q)
   obtain ⟨n,en,q1⟩:=ob_iff.mp q
   obtain ⟨nij,nb,q2⟩:=q1
   obtain ⟨m,em,q3⟩:=ob_iff.mp q2
   obtain ⟨y,hy,hl,q4⟩:=ob_iff.mp q3
   cases asI_is en
   cases r.intI
   have R1:=R.le L1
   have k1:H1 a=some (.lst vs):=by rw [L1.own a (List.mem_append.mpr (.inr (mem_addrs.mpr (List.mem_of_getElem? hA))))];exact h1
   have k2:H1 b=some (.lst ws):=by rw [L1.own b (List.mem_append.mpr (.inr (mem_addrs.mpr (List.mem_of_getElem? hB))))];exact g1
   have h4:=h2.mono L1.vis
   have g4:=g2.mono L1.vis
   obtain ⟨vy,evy,ry⟩:=g4.get hy
   have nab:a≠b:=fun z=>nij (addrs_one R.nd hA (by rw [z];exact hB))
   have R2:=R1.ownPut (ownL_is ey) hB k2 (RepL.eraseIdx m g4)
   have hS:b∈c.S G A:=mem_S.mpr (.inr (.inr (mem_addrs.mpr (List.mem_of_getElem? hB))))
   have k3:(upd H1 b (.lst (ws.eraseIdx m))) a=some (.lst vs):=by rw [upd_ne nab];exact k1
   have e3:(σ3.set j (.own (.lst (ys.eraseIdx m))))[i]? =some (.own (.lst xs)):=by rw [List.getElem?_set_ne (fun z=>nij z.symm)];exact ownL_is ex
   have R3':=R2.ownPut e3 hA k3 (vs:=vs++[vy]) (us:=xs++[y]) (by rw [hid_upd_in hS];exact h4.append (.cons ry .nil))
   exact ⟨b,ws,n,m,vy,rfl,rfl,k2,nb.1,nb.2,by rw [g4.length];exact em,evy,a,vs,vy,rfl,rfl,k3,by rw [h4.length];exact hl,Z.nx _ _ _ _ R3' q4⟩
end
end M3
namespace M3
open PySem L2
def putF3 (f:Str) (v:T):List (Str×T)→List (Str×T)
 | []=>[(f,v)]
 | (g,x)::r=>if g=f then (g,v)::r else (g,x)::putF3 f v r
def asIns:T→Option (Addr×List (Str×T))
 | .ins C fs=>some (C,fs)
 | _=>none
abbrev selfT (x C:Addr) (fs:List (Str×T)):T:=.tup [.ref x,.ins C fs]
def ownI (σ:List Sl) (i:Nat):Option (Addr×Addr×List (Str×T)):=match σ[i]? with | some (.own (.tup [.ref x,.ins C fs]))=>some (x,C,fs) | _=>none
theorem ownI_is {σ:List Sl} {i:Nat} {x C:Addr} {fs:List (Str×T)} (h:ownI σ i=some (x,C,fs)):σ[i]? =some (.own (selfT x C fs)):=by
 unfold ownI at h
 split at h
 · cases h;assumption
 · cases h
theorem asIns_is {d:T} {C:Addr} {fs:List (Str×T)} (h:asIns d=some (C,fs)):d= .ins C fs:=by
 cases d<;>simp [asIns] at h
 obtain ⟨rfl,rfl⟩:=h
 rfl
def fld3 (cl:List Addr) (f:Str) (a:E3):E3:=fun σ Q X=>a σ (fun d=>ob (asIns d) fun p=>p.1∈cl∧ob (p.2.lookup f) Q) X
def setO3 (cl:List Addr) (i:Nat) (f:Str) (a:E3):S3:=fun N σ=>a σ (fun d=>ob (ownI σ i) fun p=>p.2.1∈cl∧p.2.2.length<1000∧N.nx (σ.set i (.own (selfT p.1 p.2.1 (putF3 f d p.2.2))))) (N.xn σ)
section
variable {K:PySem.W.Frag} {c:Cf} {W:WX} {ta:TE} {a:E3} {X:Cx}
theorem lookup_rep {H:Hp} {f:Str} {t:T}:∀ {fs:List (Str×V)} {ts:List (Str×T)},fs.map (·.1)=ts.map (·.1)→RepL K H (fs.map (·.2)) (ts.map (·.2))→ts.lookup f=some t→∃v,fs.lookup f=some v∧Rep K H v t
 | [],[],_,_,h=>by cases h
 | [],_::_,h,_,_=>by cases h
 | _::_,[],h,_,_=>by cases h
 | (g,v)::fs,(g',u)::ts,h,r,hl=>by
   have h1:g=g':=by injection h
   have h2:fs.map (·.1)=ts.map (·.1):=by injection h
   subst h1
   cases r with
   | cons r1 r2=>
     unfold List.lookup at hl ⊢
     split at hl
     · cases hl
       exact ⟨v,rfl,r1⟩
     · exact lookup_rep h2 r2 hl
theorem putF_rep {H:Hp} {f:Str} {v:V} {t:T} (q:Rep K H v t):∀ {fs:List (Str×V)} {ts:List (Str×T)},fs.map (·.1)=ts.map (·.1)→RepL K H (fs.map (·.2)) (ts.map (·.2))→(putF f v fs).map (·.1)=(putF3 f t ts).map (·.1)∧RepL K H ((putF f v fs).map (·.2)) ((putF3 f t ts).map (·.2))
 | [],[],_,_=>⟨rfl,.cons q .nil⟩
 | [],_::_,h,_=>by cases h
 | _::_,[],h,_=>by cases h
 | (g,x)::fs,(g',y)::ts,h,r=>by
   have h1:g=g':=by injection h
   have h2:fs.map (·.1)=ts.map (·.1):=by injection h
   subst h1
   cases r with
   | cons r1 r2=>
     obtain ⟨e1,e2⟩:=putF_rep q h2 r2
     unfold putF putF3
     split
     · exact ⟨by rw [List.map_cons,List.map_cons,h2],.cons q r2⟩
     · exact ⟨by rw [List.map_cons,List.map_cons,e1],.cons r1 e2⟩
theorem Rep.insI {H:Hp} {v:V} {C:Addr} {ts:List (Str×T)} (r:Rep K H v (.ins C ts)):∃a dx fs,v= .ref a∧H a=some (.ins C dx fs)∧fs.map (·.1)=ts.map (·.1)∧RepL K H (fs.map (·.2)) (ts.map (·.2)):=by
 cases r with
 | ins h hk hr=>
   refine ⟨_,_,_,rfl,h,hk,repL_mk ?_ hr⟩
   have:=congrArg List.length hk
   simpa using this
theorem pe_fldK {e:Expr} {f:Str} {pos:Pos} (h:X.K=K) (he:PE X e ta) (hb:attributeBase e f X.env (eval e X.env)=eval e X.env):PE X (.Attribute e f pos) (tFld K ta f):=h ▸ pe_fld he hb
theorem lift_fld {cl:List Addr} {f:Str} (hC:∀C∈cl,Cls K C∧NoAttr K C f) (ha:Lift K c W ta a):Lift K c W (tFld K ta f) (fld3 cl f a):=by
 intro σ3 Q3 X h Hb G A σ H Q R k e
 refine ha _ _ _ h Hb G A σ H _ R (fun v d H1 L1 r q=> ?_) e
 obtain ⟨⟨C,ts⟩,ed,hc,q1⟩:=ob_iff.mp q
 obtain ⟨t,et,q2⟩:=ob_iff.mp q1
 cases asIns_is ed
 obtain ⟨p,dx,fs,rfl,hp,hk,hr⟩:=r.insI
 obtain ⟨u,eu,ru⟩:=lookup_rep hk hr et
 exact ⟨p,C,dx,fs,u,rfl,hid_same _ _ hp,(hC C hc).1,(hC C hc).2,eu,k _ _ H1 L1 ru q2⟩
theorem lift_setO {cl:List Addr} {i:Nat} {f:Str} (hC:∀C∈cl,Cls K C∧NoAttr K C f) (ha:Lift K c W ta a):LiftS K c W (sFld K (tVar i) ta f) (setO3 cl i f a):=by
 intro N σ3 h Hb G A σ H D R Z
 refine ha _ _ _ h Hb G A σ H _ R (fun v d H1 L1 r q=> ?_) (fun cls dd x H' L r q=>Z.xn _ _ _ _ _ _ _ (R.le L) r q)
 obtain ⟨⟨x,C,ts⟩,ed,hc,hl,q1⟩:=ob_iff.mp q
 have R1:=R.le L1
 obtain ⟨p,hA,hσ,_,_,_,e0,e9,dx,fs,hp,hk,hr⟩:=R1.ownGet (ownI_is ed)
 cases e0
 obtain ⟨e1,e2⟩:=putF_rep (f:=f) r hk hr
 have ll:fs.length=ts.length:=by simpa using congrArg List.length hk
 exact ⟨_,hσ,p,C,dx,fs,rfl,hp,(hC C hc).1,(hC C hc).2,by rw [ll];exact hl,Z.nx _ _ _ _ (R1.ownAs (u:=selfT x C (putF3 f d ts)) (ownI_is ed) hA hp (fun φ z=>by cases z) ⟨x,C,_,rfl,e9,dx,_,upd_same,e1,e2⟩) q1⟩
theorem ps_fldK {o value:Expr} {f:Str} {pos pos':Pos} {to tv:TE} (h:X.K=K) (ha:PE X o to) (hv:PE X value tv) (hs:swapsWith value (some (.Attribute o f pos')) pos.line X.env=pure false):PS X (.Assign [.Attribute o f pos'] value pos) (sFld K to tv f):=h ▸ ps_fld ha hv hs
end
def spI (K:PySem.W.Frag) (n:Nat) (C:Addr) (f:F3):Sp:=fun vs H Q E=>∃S x dx ds vs',vs= .ref x::vs'∧ds.length+1=n∧x ∉ S∧H x=some (.ins C dx [])∧RepL K (hid (x::S) H) vs' ds∧(∀a∈S,H a≠none)∧∃Q3 X,f ds Q3 X∧
 (∀d H',Same (hid (x::S) H) (hid (x::S) H')→(∀a∈S,H' a=H a)→Rep K (hid S H') (.ref x) d→Q3 d→Q .non H')∧
 (∀cls dd xn H',Same (hid (x::S) H) (hid (x::S) H')→(∀a∈S,H' a=H a)→XRep K (hid S H') cls dd xn→X xn→E cls dd H')
theorem spI_len {K:PySem.W.Frag} {n:Nat} {C:Addr} {f:F3} {ps:List Str} (h:ps.length=n):∀vs H Q E,spI K n C f vs H Q E→vs.length=ps.length:=by
 intro vs H Q E h'
 obtain ⟨S,x,dx,ds,vs',rfl,hl,_,_,r,_⟩:=h'
 rw [List.length_cons,r.length,hl,h]
theorem bodyI {K:PySem.W.Frag} {n:Nat} {C:Addr} {f:F3} {N:List Str} {t:TS} {x3:S3} {W:WX} {vs:List V} {H:Hp} {Q:VK} {E:XK} (h:spI K n C f vs H Q E) (hN:0<N.length) (hW:∀cls dd σ H',E cls dd H'→W cls dd σ H')
 (lt:LiftS K cf0 W t x3) (hb:∀x ds Q3 X,ds.length+1=n→f ds Q3 X→x3 {nx:=fun σ=>ob (ownI σ 0) fun p=>p.1=x∧Q3 (.ins p.2.1 p.2.2),rt:=fun _=>False,xn:=fun _=>X} (Sl.own (selfT x C [])::(ds.map Sl.val++List.replicate (N.length-(ds.length+1)) Sl.no))):
 t {nx:=fun _ H'=>Q .non H',rt:=Q} (start N vs) H:=by
 obtain ⟨S,x,dx,ds,vs',rfl,hl,nx,hx,r,hS,Q3,X,hf,hq,he⟩:=h
 have ll:=r.length
 have R0:R3 K cf0 (out [x] H) S (some x::List.replicate (ds.length+(N.length-(ds.length+1))) none) (Sl.own (selfT x C [])::(ds.map Sl.val++List.replicate (N.length-(ds.length+1)) Sl.no)) (start N (.ref x::vs')) H:=by
  have hA:addrs (some x::List.replicate (ds.length+(N.length-(ds.length+1))) none)=[x]:=by
   unfold addrs
   rw [List.filterMap_cons]
   show x::_=_
   rw [List.filterMap_replicate_of_none rfl]
  have hSS:∀a,a∈cf0.S S (some x::List.replicate (ds.length+(N.length-(ds.length+1))) none)↔a∈x::S:=fun a=>by
   rw [mem_S,hA]
   show a∈[]∨_↔_
   simp [or_comm]
  have hh:hid (cf0.S S (some x::List.replicate (ds.length+(N.length-(ds.length+1))) none)) H=hid (x::S) H:=by
   funext a
   by_cases e:a∈x::S
   · rw [hid_in e,hid_in ((hSS a).mpr e)]
   · unfold hid
     rw [out_out e,out_out (fun z=>e ((hSS a).mp z))]
  refine ⟨trivial, ?_,fun a ha=>⟨by rw [out_out (fun z=>nx (by rw [←List.mem_singleton.mp z];exact ha))],hS a ha,fun z=>by cases z⟩,fun _ _ _ _=>trivial,by rw [hA];simp,fun a ha=> ?_,by simp,by rw [start_eq];simp [ll], ?_⟩
  · rw [hh]
    intro a o e
    obtain ⟨e1,e2,e3⟩:=hid_all e
    obtain ⟨e4,e5⟩:=out_some e1
    exact hid_mk e4 (fun z=>by
     rcases List.mem_cons.mp z with z | z
     · exact e5 (by rw [z];exact List.mem_singleton.mpr rfl)
     · exact e2 (by simpa [cf0] using z)) e3
  · rw [hA] at ha
    cases List.mem_singleton.mp ha
    show x ∉ []++S
    simpa using nx
  · rw [hh,start_eq]
    intro i s o y h1 h2 h3
    cases i with
    | zero=>
      simp at h1 h2 h3
      subst h1 h2 h3
      exact ⟨x,rfl,rfl,x,C,[],rfl,rfl,dx,[],hx,rfl,.nil⟩
    | succ i=>
      simp only [List.getElem?_cons_succ,List.map_cons,List.cons_append,List.length_cons] at h1 h2 h3
      have ho:o=none:=(List.mem_replicate.mp (List.mem_of_getElem? h2)).2
      subst ho
      by_cases hi:i<ds.length
      · rw [List.getElem?_append_left (by simpa using hi),List.getElem?_map] at h1
        rw [List.getElem?_append_left (by rw [List.length_map,ll];exact hi),List.getElem?_map] at h3
        cases e1:ds[i]? with
        | none=>rw [e1] at h1;cases h1
        | some d=>
          rw [e1] at h1
          cases h1
          obtain ⟨v,e2,rv⟩:=r.get e1
          rw [e2] at h3
          cases h3
          exact ⟨rfl,v,rfl,rv⟩
      · rw [List.getElem?_append_right (by simpa using hi)] at h1
        have hs:=(List.mem_replicate.mp (List.mem_of_getElem? h1)).2
        subst hs
        rfl
 have base:∀ {A':List (Option Addr)} {σ3':List Sl} {σ':St} {H':Hp},R3 K cf0 (out [x] H) S A' σ3' σ' H'→Same (hid (x::S) H) (hid (cf0.S S A') H'):=fun {A' σ3' σ' H'} R=>by
  refine Same.trans ?_ R.base
  intro a o e
  obtain ⟨e1,e2,e3⟩:=hid_all e
  exact hid_mk (by rw [out_out (fun z=>e2 (by rw [List.mem_singleton.mp z];exact List.mem_cons_self ..))];exact e1) (fun z=>e2 (List.mem_cons_of_mem _ (by simpa [cf0] using z))) e3
 have keepS:∀ {A':List (Option Addr)} {σ3':List Sl} {σ':St} {H':Hp},R3 K cf0 (out [x] H) S A' σ3' σ' H'→∀a∈S,H' a=H a:=fun R a ha=>by
  rw [(R.gk a ha).1,out_out (fun z=>nx (by rw [←List.mem_singleton.mp z];exact ha))]
 refine lt _ _ (hb x ds Q3 X hl hf) (out [x] H) S _ _ H _ R0 ⟨?_,fun _ _ _ _ z=>z.elim,fun _ _ _ _ _ z=>z.elim,fun _ _ _ _ _ z=>z.elim, ?_⟩
 · intro A' σ3' σ' H' R q
   obtain ⟨⟨x',C',fs⟩,ed,e1,q1⟩:=ob_iff.mp q
   have e1:x'=x:=e1
   subst e1
   obtain ⟨p,hA,hσ,_,_,_,e0,e9,dx',ks,hp,hk,hr⟩:=R.ownGet (ownI_is ed)
   cases e0
   subst e9
   have hS':∀a∈S,a∈cf0.S S A':=fun a ha=>mem_S.mpr (.inr (.inl ha))
   have hx':p∈cf0.S S A':=mem_S.mpr (.inr (.inr (mem_addrs.mpr (List.mem_of_getElem? hA))))
   refine hq (.ins C' fs) H' (Same.trans (base R) (hid_mono fun a ha=> ?_)) (keepS R) (.ins (hid_mk hp nx) hk fun i v t h1 h2=>((hr.mono (hid_mono hS')).at h1 h2)) q1
   rcases List.mem_cons.mp ha with z | z
   · rw [z];exact hx'
   · exact hS' a z
 · intro A' σ3' σ' H' cls dd xn R rx q
   have b:=base R
   have s1:Same (hid (x::S) H) (hid (x::S) H'):=fun a o e=>by
    obtain ⟨e1,e2,e3⟩:=hid_all e
    exact hid_mk (hid_some (b a o e)).1 e2 e3
   have mono:Same (hid (cf0.S S A') H') (hid S H'):=hid_mono fun a ha=>mem_S.mpr (.inr (.inl ha))
   refine hW _ _ _ _ (he cls dd xn H' s1 (keepS R) ?_ q)
   obtain ⟨r1,r2⟩:=rx
   refine ⟨r1, ?_⟩
   cases dd with
   | none=>exact r2
   | some d=>
     obtain ⟨fs,f1,f2,f3⟩:=r2
     exact ⟨fs,mono _ _ f1,f2,f3.mono mono⟩
def mkN3 (n:Nat) (f:F3) (g:List T→List T→List T) (m j:Nat) (x y:A3):E3:=fun σ Q X=>x σ (fun ds=>y σ (fun es=>ds.length=m∧es.length=j∧(g ds es).length+1=n∧f (g ds es) Q X) X) X
def mk3 (n:Nat) (f:F3) (x:A3) (dts:List T):E3:=fun σ Q X=>x σ (fun ds=>(ds++dts).length+1=n∧f (ds++dts) Q X) X
section
variable {K:PySem.W.Frag} {c:Cf} {W:WX}
theorem spI_call {n:Nat} {C:Addr} {f:F3} {Hb H2:Hp} {G:List Addr} {A:List (Option Addr)} {σ3:List Sl} {σ:St} {vs:List V} {ds:List T} {Q:VK} {E:XK} {Q3:T→Prop} {X:X3} {x dx:Addr} (R:R3 K c Hb G A σ3 σ H2) (hx:H2 x=none) (hdx:H2 dx=none) (ne:dx≠x)
 (rx:RepL K (hid (c.S G A) H2) vs ds) (hl:ds.length+1=n) (hf:f ds Q3 X) (k:∀v d H',Le c G A H2 H'→Rep K (hid (c.S G A) H') v d→Q3 d→Q v H') (e:∀cls dd x H',Le c G A H2 H'→XRep K (hid (c.S G A) H') cls dd x→X x→E cls dd H'):
 spI K n C f (.ref x::vs) (upd (upd H2 dx (.own x)) x (.ins C dx [])) (fun v H3=>v= .non∧Q (.ref x) H3) E:=by
 have L1:=R.new (o:=.own x) hdx
 have R1:=R.le L1
 have hx1:(upd H2 dx (.own x)) x=none:=by rw [upd_ne ne.symm];exact hx
 have L2:=R1.new (o:=.ins C dx []) hx1
 have R2:=R1.le L2
 have L:=L1.trans L2
 have nx:x ∉ c.S G A:=R.free hx
 have v1:Same (hid (c.S G A) H2) (hid (x::c.S G A) (upd (upd H2 dx (.own x)) x (.ins C dx []))):=by
  rw [hid_upd_in (List.mem_cons_self ..)]
  intro a o z
  obtain ⟨z1,z2,z3⟩:=hid_all z
  exact hid_mk (by rw [upd_ne (ne_of_none z1 hdx)];exact z1) (fun y=>by
   rcases List.mem_cons.mp y with y | y
   · rw [y,hx] at z1;cases z1
   · exact z2 y) z3
 have le:∀H',Same (hid (x::c.S G A) (upd (upd H2 dx (.own x)) x (.ins C dx []))) (hid (x::c.S G A) H')→(∀a∈c.S G A,H' a=(upd (upd H2 dx (.own x)) x (.ins C dx [])) a)→Le c G A H2 H':=fun H' s1 s2=>by
  have keepA:∀a∈c.S G A,H' a=H2 a:=fun a ha=>by
   have n1:a≠x:=fun z=>nx (by rw [←z];exact ha)
   have n2:a≠dx:=fun z=>R.there ha (by rw [z];exact hdx)
   rw [s2 a ha,upd_ne n1,upd_ne n2]
  refine ⟨Same.trans v1 (Same.trans s1 (hid_mono fun a ha=>List.mem_cons_of_mem _ ha)),fun a ha=>keepA a (mem_S.mpr (by rcases List.mem_append.mp ha with z | z;exact .inr (.inl z);exact .inr (.inr z))), ?_⟩
  refine c.st H2 H' (fun a ha=>keepA a (mem_S.mpr (.inl ha))) (fun a φ z=> ?_) R.inv
  by_cases h:a∈c.S G A
  · rw [keepA a h];exact z
  · exact (hid_some ((Same.trans v1 s1) a _ (hid_mk z h))).1
 refine ⟨c.S G A,x,dx,ds,vs,rfl,hl,nx,upd_same,rx.mono v1,fun a ha=>R2.there ha,Q3,X,hf,fun d H' s1 s2 r q=>⟨rfl,k _ _ H' (le H' s1 s2) r q⟩,fun cls dd xn H' s1 s2 r q=>e cls dd xn H' (le H' s1 s2) r q⟩
theorem lift_mkN {n m j:Nat} {C:Addr} {f:F3} {E:XK} {t tk:TA} {x y:A3} {gV:List V→List V→List V} {g:List T→List T→List T} (hE:∀cls dd σ H,W cls dd σ H→E cls dd H) (hgV:∀v vs zs,∃ws,gV (v::vs) zs=v::ws)
 (hg:∀H a vs ds ws es zs,RepL K H vs ds→RepL K H ws es→ds.length=m→es.length=j→gV (.ref a::vs) ws= .ref a::zs→RepL K H zs (g ds es))
 (ha:LiftA K c W t x) (hb:LiftA K c W tk y):Lift K c W (tMakeK C m j (spI K n C f) gV E t tk) (mkN3 n f g m j x y):=by
 intro σ3 Q3 X h Hb G A σ H Q R k e
 refine ha _ _ _ h Hb G A σ H _ R (fun vs ds H1 L1 rx hx=> ?_) e
 refine hb _ _ _ hx Hb G A σ H1 _ (R.le L1) (fun ws es H2 L2 ry hy=> ?_) (fun cls dd x H' L=>e cls dd x H' (L1.trans L))
 obtain ⟨h1,h2,h3,h4⟩:=hy
 refine ⟨by rw [rx.length];exact h1,by rw [ry.length];exact h2,fun a dx na ndx ne=> ?_⟩
 obtain ⟨zs,ez⟩:=hgV (.ref a) vs ws
 rw [ez]
 exact spI_call ((R.le L1).le L2) na ndx ne (hg _ a _ _ _ _ zs (rx.mono L2.vis) ry h1 h2 ez) h3 h4 (fun v d H' L r q=>k v d H' ((L1.trans L2).trans L) r q) (fun cls dd x H' L r q=>hE _ _ σ _ (e cls dd x H' ((L1.trans L2).trans L) r q))
end
end M3
namespace M3
open PySem PySem.Spec PyProof.Rows L2
def unlTo (xs:List Str):Nat→Nat
 | 0=>0
 | i+1=>if (xs.take i).any (· ==xs.getD i Str.empty) then unlTo xs i else unlTo xs i+1
theorem unlTo_le (xs:List Str):∀i,unlTo xs i≤i
 | 0=>Nat.le_refl _
 | i+1=>by
   have:=unlTo_le xs i
   unfold unlTo
   split<;>omega
section
variable {prog:Program} {w:World} {A:Around} {R:Result→Shared→Prop} {I:Addr} {fp wr:List Addr} {G:Array GenState→Array GenState→Prop} {n:Nat} {P:Nat→Value→Prop} {St:Nat→Shared→Prop}
theorem setOf_moved {S:Addr} {f:Str→Bool} {m:Nat} {h h':Heap} (e:∀o,h.get? S=some o→h'.get? S=some o) (x:h.SetOf (PySem.strKind prog w) S f m):h'.SetOf (PySem.strKind prog w) S f m:=by
 obtain ⟨o,es,ep,t,ho,r⟩:=x
 exact ⟨o,es,ep,t,e o ho,r⟩
theorem loopTexts (wk:WalksS prog w A.in1 I fp wr G n P St) (S:Addr) (nS:S ∉ fp) (xs:List Str) (hsz:xs.length=n) (hb:n+1<scanBound) (hv:∀i v,P i v→∃t,v= .str (xs.getD i Str.empty) t) (j:Nat):
 ∀(i:Nat) (s:Shared),n-i=j→i≤n→St i s→s.heap.SetOf (PySem.strKind prog w) S (fun k=>(xs.take i).any (· ==k)) (unlTo xs i)→
  (∀s2,Moved (S::wr) G s s2→s2.heap.SetOf (PySem.strKind prog w) S (fun k=>(xs.take n).any (· ==k)) (unlTo xs n)→R (.ok (.ret .none)) s2)→codeAny (model prog w) A (.builtin "set.update.loop" ⟨[.ref S,.ref I],[]⟩) R s:=by
 have nw:S ∉ wr:=fun z=>nS (wk.sub _ z)
 induction j with
 | zero=>
   intro i s e1 e2 st hS hR
   obtain rfl:i=n:=by omega
   refine codeAny_builtin PyProof.Rows.F.entry_set_update_loop ?_
   rw [Around.under_plainId PyProof.Rows.F.plain_set_update_loop _]
   refine wpAny_bind (m:=pyNext (.ref I)) (wk.done s _ _ st fun s2 mv=> ?_)
   exact wpAny_pure (hR s2 (mv.mono fun b z=>List.mem_cons_of_mem _ z) (setOf_moved (fun o ho=>mv.heap S _ nw ho) hS))
 | succ j ih=>
   intro i s e1 e2 st hS hR
   have lt:i<n:=by omega
   refine codeAny_builtin PyProof.Rows.F.entry_set_update_loop ?_
   rw [Around.under_plainId PyProof.Rows.F.plain_set_update_loop _]
   refine wpAny_bind (m:=pyNext (.ref I)) (wk.item i s _ _ lt st fun v s2 hP st2 mv=> ?_)
   obtain ⟨t,rfl⟩:=hv i v hP
   have hS2:=setOf_moved (h':=s2.heap) (fun o ho=>mv.heap S _ nw ho) hS
   show wpAny _ A.in1 (holding [Value.str (xs.getD i Str.empty) t] (setAdd S (.str (xs.getD i Str.empty) t)) >>= _) _ _ s2
   refine wpAny_bind (wpAny_holding ?_)
   unfold setAdd
   refine wpAny_holding (wpAny_bind ((PySem.strKind prog w).pyHash (k:=xs.getD i Str.empty) (strKind_is _ _ _ _) ?_))
   have small:=unlTo_le xs i
   refine wpAny_setAddHashed_of (knd:=PySem.strKind prog w) (s:={s2 with toks:=s2.toks+1}) (strKind_is _ _ _ _) rfl hS2 (by omega) fun h3 sb hS3=> ?_
   have hS4:h3.SetOf (PySem.strKind prog w) S (fun k=>(xs.take (i+1)).any (· ==k)) (unlTo xs (i+1)):=by
    have ei:xs[i]? =some (xs.getD i Str.empty):=by
     rw [List.getD_eq_getElem?_getD,List.getElem?_eq_getElem (by omega)]
     rfl
    refine SetOf_congr hS3 (fun k=> ?_) ?_
    · rw [List.take_add_one,ei,List.any_append]
      show ((xs.take i).any (· ==k)||decide (k=xs.getD i Str.empty))=_
      congr 1
      by_cases e:k=xs.getD i Str.empty
      · subst e;simp
      · have z:(xs.getD i Str.empty==k)=false:=beq_eq_false_iff_ne.mpr fun y=>e y.symm
        show _=(xs.getD i Str.empty==k||false)
        rw [z,decide_eq_false e]
        rfl
    · show _=(if (xs.take i).any (· ==xs.getD i Str.empty) then unlTo xs i else unlTo xs i+1)
      first | rfl | (split<;>simp_all)
   refine wpAny_pure ⟨plainId_quiet PyProof.Rows.F.plain_set_update_loop _,ih (i+1) _ (by omega) lt (wk.frame _ s2 _ _ st2 (Nat.le_succ _) fun b hb o e=> ?_) hS4 fun s5 mv5 hS5=> ?_⟩
   · rw [sb.2 b (fun z=>nS (by rw [←z];exact hb))];exact e
   · refine hR s5 (Moved.trans wk.gtrans ((mv.mono fun b z=>List.mem_cons_of_mem _ z).then_heap (Nat.le_succ _) fun b o hb e=> ?_) mv5) hS5
     rw [sb.2 b (fun z=>hb (by rw [z];exact List.mem_cons_self ..))];exact e
end
section
variable {prog:Program} {w:World} {A:Around} {E:Value→Shared→Prop} {s:Shared}
abbrev set0 (led:Bool):Obj:={cls:=.type "set",dict:=none,data:=.set #[] 0 (.fresh 0 0 led)}
theorem set_of {v:Value} {Q:Value→Shared→Prop} {Z:Shared→Prop} (hZ:∀s2,Z s2→Q (.ref s.heap.objs.size) s2)
 (hi:∀led:Bool,wpAny (model prog w) A.in1.in1 (Builtin.«set.__init__» ⟨[.ref s.heap.objs.size,v],[]⟩)
   (fun fin s'=>match fin with | .done f=>wants (fun r s2=>r= .none∧Z s2) E (.ok f) s' | .again c'=>c'.quiet=true∧codeAny (model prog w) A.in1 c' (wants (fun r s2=>r= .none∧Z s2) E) s')
   (fun e s'=>wants (fun r s2=>r= .none∧Z s2) E (.error e) s') {s with heap:=s.heap.push (set0 led)}):
 wpAny (model prog w) A (call (.type "set") [v]) Q E s:=by
 obtain ⟨_,_,m1⟩:=PySem.F.called_set.mro
 have m2:=PySem.F.called_set.made
 have m3:=PySem.F.called_set.sub
 have m4:=PySem.F.called_set.notType
 have m5:=PySem.F.called_set.canCreate
 have m6:=PySem.F.typeCall_set_1 v
 refine wpAny_call (codeAny_of_tree (?_:wpAny _ _ (callAny (.type "set") _) _ _ _))
 refine wpAny_pure ⟨Code.quiet_builtin _ (by decide +kernel),(codeAny_builtin PySem.F.entry_type_call (?_))⟩
 rw [Around.under_plain (weight_type_call_type "set" [v] []) rfl]
 repeat any_goals first | assumption | wp_step
 refine codeAny_mono (code_set_new_1 v (E:=E) (Q₁:=fun x s1=>∃led:Bool,x= .ref s.heap.objs.size∧s1={s with heap:=s.heap.push (set0 led)}) fun led=>⟨led,rfl,rfl⟩) ?_
 rintro (e | fl) s1 hr
 · exact hr
 cases fl with
 | ret x=>
   obtain ⟨led,rfl,rfl⟩:=hr
   have n1:Shared.TypeIs {s with heap:=s.heap.push (set0 led)} (.ref s.heap.objs.size) "set":=⟨_,Heap.get?_push_size _ rfl,rfl⟩
   have n2:=PySem.F.called_set.init.lookup
   have n3:=PySem.F.called_set.init.bind (.ref s.heap.objs.size)
   repeat any_goals first | assumption | wp_step
   refine codeAny_mono (codeAny_call_builtin (R:=wants (fun r s2=>r= .none∧Z s2) E) PySem.F.called_set.init.plain PySem.F.entry_set_init (check_set_init_1 n1 (hi led))) ?_
   rintro (e | f2) s2 h2
   · exact h2
   cases f2 with
   | ret r=>
     obtain ⟨rfl,hz⟩:=h2
     have hq:=hZ _ hz
     repeat any_goals first | assumption | wp_step
   | _=>exact h2.elim
 | _=>exact hr.elim
theorem set_texts {l:Addr} {items:Array Value} {xs:List Str} {Q:Value→Shared→Prop} (hh:A.handled=none) (hl:s.heap.IsList l items∨s.heap.IsTuple l items) (hi:StrsAre items.toList xs) (hb:xs.length+1<scanBound)
 (h:∀(h2:Heap) (tk:Nat),h2.SetOf (PySem.strKind prog w) s.heap.objs.size (fun k=>(xs.take items.size).any (· ==k)) (unlTo xs items.size)→
   (∀b o,s.heap.get? b=some o→h2.get? b=some o)→Q (.ref s.heap.objs.size) {s with heap:=h2,toks:=tk}):wpAny (model prog w) A (call (.type "set") [.ref l]) Q E s:=by
 refine set_of (Z:=fun s2=>∃h2 tk,s2={s with heap:=h2,toks:=tk}∧h2.SetOf (PySem.strKind prog w) s.heap.objs.size (fun k=>(xs.take items.size).any (· ==k)) (unlTo xs items.size)∧∀b o,s.heap.get? b=some o→h2.get? b=some o) ?_ fun led=> ?_
 · rintro s2 ⟨h2,tk,rfl,z1,z2⟩
   exact h h2 tk z1 z2
 have hS:(s.heap.push (set0 led)).get? s.heap.objs.size=some (set0 led):=Heap.get?_push_size _ rfl
 have sz:xs.length=items.size:=by rw [←StrsAre.len_eq hi,Array.length_toList]
 have hv:∀(i:Nat) (v:Value),items[i]? =some v→∃t,v= .str (xs.getD i Str.empty) t:=fun i v e=>SS.strs_at hi i v (by rw [Array.getElem?_toList];exact e)
 have h3:A.in1.in1.in1.handled=none:=by simp [hh]
 have hT:Shared.TypeIs {s with heap:=s.heap.push (set0 led)} (.ref s.heap.objs.size) "set":=⟨_,hS,rfl⟩
 have goOn:∀ {it:Obj} {St:Nat→Shared→Prop} {E':Value→Shared→Prop} {K:Value→Shared→Prop} (lt:l<s.heap.objs.size),it.isFreed=false→
  WalksS prog w A.in1.in1.in1 (s.heap.push (set0 led)).objs.size [(s.heap.push (set0 led)).objs.size,l] [(s.heap.push (set0 led)).objs.size] (fun a b=>b=a) items.size (fun i v=>items[i]? =some v) St→
  St 0 {s with heap:=(s.heap.push (set0 led)).push it}→
  (∀s2,(∃h2 tk,s2={s with heap:=h2,toks:=tk}∧h2.SetOf (PySem.strKind prog w) s.heap.objs.size (fun k=>(xs.take items.size).any (· ==k)) (unlTo xs items.size)∧∀b o,s.heap.get? b=some o→h2.get? b=some o)→K .none s2)→
  codeAny (model prog w) A.in1.in1 (.builtin "set.update.loop" ⟨[.ref s.heap.objs.size,.ref (s.heap.push (set0 led)).objs.size],[]⟩) (wants K E') {s with heap:=(s.heap.push (set0 led)).push it}:=by
  intro it St E' K lt nf wk st hk
  refine loopTexts wk s.heap.objs.size ?_ xs sz (by omega) hv (items.size-0) 0 _ rfl (Nat.zero_le _) st ?_ ?_
  · rw [Heap.size_push]
    simp only [List.mem_cons,List.not_mem_nil,or_false,not_or]
    exact ⟨Nat.ne_of_lt (Nat.lt_succ_self _),Nat.ne_of_gt lt⟩
  · exact SetOf_congr ((setObjOf_fresh (knd:=PySem.strKind prog w) led).setOf (Heap.get?_push_of_some _ hS) (by unfold scanBound;omega)) (fun _=>rfl) rfl
  · rintro ⟨h2,g2,d2,t2,o2⟩ mv hS2
    have e1:g2=s.gens:=mv.gens
    have e2:d2=s.drawn:=mv.drawn
    have e3:o2=s.os:=mv.os
    subst e1 e2 e3
    refine hk _ ⟨h2,t2,rfl,hS2,fun b o e=> ?_⟩
    have lb:=Heap.lt_size e
    refine mv.heap b o ?_ (Heap.get?_push_of_some _ (Heap.get?_push_of_some _ e))
    rw [Heap.size_push]
    simp only [List.mem_cons,List.not_mem_nil,or_false,not_or]
    exact ⟨Nat.ne_of_lt lb,Nat.ne_of_lt (Nat.lt_succ_of_lt lb)⟩
 rcases hl with hl | hl
 · obtain ⟨⟨c1,d1,dt1,sl1⟩,ho,ec,nl,ed⟩:=hl
   simp only at ec ed
   subst ec;subst ed
   have lt:=Heap.lt_size ho
   have ho2:(s.heap.push (set0 led)).get? l=some {cls:=.type "list",dict:=d1,data:=.seq items nl,slots:=sl1}:=Heap.get?_push_of_some _ ho
   have isL:(s.heap.push (set0 led)).IsList l items:=⟨_,ho2,rfl,nl,rfl⟩
   have q1:=PySem.F.sub_list_set
   have q2:=PySem.F.sub_list_frozenset
   have q3:(Value.type "list"==Value.type "dict")=false:=by decide
   unfold Builtin.«set.__init__» noKeywords Builtin.Frozenset.updateFrom
   generalize hPI:pyIter=PI
   wp_walk
   subst hPI
   refine wpAny_pyIter_list isL (wpAny_bind (wpAny_runValue ?_))
   have ne:l≠(s.heap.push (set0 led)).objs.size:=by rw [Heap.size_push];exact Nat.ne_of_lt (Nat.lt_succ_of_lt lt)
   refine goOn lt rfl ((PySem.Walks.list h3 _ l ne items).toS) ⟨⟨_,Heap.get?_push_size _ rfl,rfl,rfl⟩,isL.push _⟩ fun s2 hz=> ?_
   exact wpAny_pure (wpAny_pure ⟨rfl,hz⟩)
 · obtain ⟨⟨c1,d1,dt1,sl1⟩,ho,ec,nl,ed⟩:=hl
   simp only at ec ed
   subst ec;subst ed
   have lt:=Heap.lt_size ho
   have ho2:(s.heap.push (set0 led)).get? l=some {cls:=.type "tuple",dict:=d1,data:=.seq items nl,slots:=sl1}:=Heap.get?_push_of_some _ ho
   have isT:(s.heap.push (set0 led)).IsTuple l items:=⟨_,ho2,rfl,nl,rfl⟩
   have q1:=PySem.F.sub_tuple_set
   have q2:=PySem.F.sub_tuple_frozenset
   have q3:(Value.type "tuple"==Value.type "dict")=false:=by decide
   unfold Builtin.«set.__init__» noKeywords Builtin.Frozenset.updateFrom
   generalize hPI:pyIter=PI
   wp_walk
   subst hPI
   refine wpAny_pyIter_tuple isT (wpAny_bind (wpAny_runValue ?_))
   have ne:l≠(s.heap.push (set0 led)).objs.size:=by rw [Heap.size_push];exact Nat.ne_of_lt (Nat.lt_succ_of_lt lt)
   refine goOn lt rfl ((PySem.Walks.tuple h3 _ l ne items).toS) ⟨⟨_,Heap.get?_push_size _ rfl,rfl,rfl⟩,isT.push _⟩ fun s2 hz=> ?_
   exact wpAny_pure (wpAny_pure ⟨rfl,hz⟩)
end
def tLenSetT (K:PySem.W.Frag) (ta:TE):TE:=fun σ H Q=>ta σ H fun x H1=>∃l,∃xs:List Str,x= .ref l∧(SqL K H1 l (xs.map V.str)∨SqT K H1 l (xs.map V.str))∧xs.length≤1000∧Q (.int (unlTo xs xs.length)) H1
theorem pe_lenSetT {X:Cx} {K:PySem.W.Frag} {a:Expr} {ta:TE} {p p2 q pos:Pos} (hK:X.K=K) (hc:X.calm=true) (hg:Gl X "len") (hm:X.mg "len"=none) (hg2:Gl X "set") (hm2:X.mg "set"=none) (ha:PE X a ta)
 (na:starEach [a] X.env=(false,eval a X.env)::starEach [] X.env:=by rfl):PE X (.Call (.Name "len" p) [.Call (.Name "set" p2) [a] [] q] [] pos) (tLenSetT K ta):=by
 subst hK
 constructor
 intro pins s σ H Q I h
 refine Call_ (ld_blt I hg hm boot_len (callWith_builtin1 (args_cons (Call_ (ld_blt I hg2 hm2 boot_set (callWith_type1 (args_cons (thn (ha.run pins s σ H _ I h) ?_) na) na rfl))) rfl) rfl rfl))
 rintro v s1 ⟨x,H1,I1,r1,l,xs,rfl,hq,h1,q1⟩
 cases r1
 refine args_nil ?_
 have fin:∀(its:List Value),Vals (xs.map V.str) its→(s1.heap.IsList l its.toArray∨s1.heap.IsTuple l its.toArray)→
  wpAny (model X.prog X.w) X.A (call (.type "set") [.ref l]) (fun v s'=>wpAny (model X.prog X.w) X.A (spliced (backTo pos (starEach [] X.env))) (fun vs s2=>wpAny (model X.prog X.w) X.A (call (.builtin "len") (v::vs)) (EP X pins σ Q) X.xe s2) X.xe s') X.xe s1:=fun its r isS=>by
  refine set_texts (xs:=xs) (I1.ok.hd hc) isS (by simpa using strsAre_of r) (by unfold scanBound;omega) fun h2 tk hS kp=> ?_
  refine args_nil ?_
  have hl:its.toArray.size=xs.length:=by rw [List.size_toArray, ←r.length,List.length_map]
  rw [hl] at hS
  obtain ⟨o,es,ep,t,ho,hex,hd,_,_,_,hf,hn⟩:=hS
  have I2:Inv X pins σ H1 {s1 with heap:=h2,toks:=tk}:=I1.kept kp
  have small:=unlTo_le xs xs.length
  refine call_len_set ho hex hd hf (by rw [hn];omega) ⟨.int (unlTo xs xs.length),H1,I2.tok _,⟨_,by rw [hn]⟩,q1⟩
 rcases hq with hq | hq
 · obtain ⟨its,r,pl,hz⟩:=I1.list hq
   exact fin its r (.inl pl.isList)
 · obtain ⟨its,r,pl,hz⟩:=I1.tuple hq
   exact fin its r (.inr pl)
end M3
namespace M3
open PySem L2
def txs:List T→Option (List Str)
 | []=>some []
 | .str x::r=>(txs r).map (x::·)
 | _=>none
@[simp] theorem strs_map:∀xs:List Str,txs (xs.map T.str)=some xs
 | []=>rfl
 | x::xs=>by show (txs (xs.map T.str)).map (x::·)=_;rw [strs_map xs];rfl
theorem strs_is:∀ {ts:List T} {xs:List Str},txs ts=some xs→ts=xs.map T.str
 | [],xs,h=>by cases h;rfl
 | t::ts,xs,h=>by
   cases t with
   | str y=>
     have h:(txs ts).map (y::·)=some xs:=h
     cases e:txs ts with
     | none=>rw [e] at h;cases h
     | some l=>rw [e] at h;cases h;rw [strs_is e,List.map_cons]
   | _=>cases h
def lenSet3 (a:E3):E3:=fun σ Q X=>a σ (fun d=>ob (items d) fun ts=>ob (txs ts) fun xs=>xs.length≤1000∧Q (.int (unlTo xs xs.length))) X
section
variable {K:PySem.W.Frag} {c:Cf} {W:WX} {ta:TE} {a:E3} {X:Cx}
theorem RepL.texts {H:Hp}:∀ {vs:List V} {xs:List Str},RepL K H vs (xs.map T.str)→vs=xs.map V.str
 | _,[],.nil=>rfl
 | _,x::xs,.cons r q=>by rw [r.strI,RepL.texts q,List.map_cons]
theorem lift_lenSet (ha:Lift K c W ta a):Lift K c W (tLenSetT K ta) (lenSet3 a):=by
 intro σ3 Q3 X h Hb G A σ H Q R k e
 refine ha _ _ _ h Hb G A σ H _ R (fun v d H1 L1 r q=> ?_) e
 obtain ⟨ts,et,q1⟩:=ob_iff.mp q
 obtain ⟨xs,ex,hl,q2⟩:=ob_iff.mp q1
 cases strs_is ex
 rcases items_cases et with rfl | rfl
 · obtain ⟨p,vs,rfl,hp,rl⟩:=r.lstI
   cases RepL.texts rl
   exact ⟨p,xs,rfl,.inl (SqL.of (hid_same _ _ hp)),hl,k _ _ H1 L1 (.int _) q2⟩
 · obtain ⟨p,vs,rfl,hp,rl⟩:=r.tupI
   cases RepL.texts rl
   exact ⟨p,xs,rfl,.inr (Same.sqT hid_same hp),hl,k _ _ H1 L1 (.int _) q2⟩
abbrev rInP (K:PySem.W.Frag) (neg:Bool):R2:=fun x y H Q=>rIn K neg x y H Q∨(fun x y H Q=>∃(c:Nat) (z:Str),x= .str ⟨#[c]⟩∧y= .str z∧Q (.bl (if neg then !decide (c∈z.cps.toList) else decide (c∈z.cps.toList))) H) x y H Q
theorem op_inP (h:X.K=K):OpR X (compareOp .In) (rInP K false):=OpR.or (op_inK h) (op_in_sign)
theorem op_notInP (h:X.K=K):OpR X (compareOp .NotIn) (rInP K true):=OpR.or (op_notInK h) (op_notIn_sign)
def asCh:T→Option Nat
 | .str ⟨⟨[c]⟩⟩=>some c
 | _=>none
theorem asCh_is {d:T} {c:Nat} (h:asCh d=some c):d= .str ⟨#[c]⟩:=by
 unfold asCh at h
 split at h
 · cases h;rfl
 · cases h
@[simp] theorem asCh_ch (c:Nat):asCh (.str ⟨#[c]⟩)=some c:=rfl
@[simp] theorem asCh_chT (c:Nat):asCh (chT c)=some c:=rfl
def inP (neg:Bool) (x y:T) (Q:T→Prop):Prop:=match y with
 | .str z=>ob (asCh x) fun c=>Q (.bl (if neg then !decide (c∈z.cps.toList) else decide (c∈z.cps.toList)))
 | y=>in3 neg x y Q
theorem rl_inP (neg:Bool):RL2 K (rInP K neg) (inP neg):=by
 refine RL2.or2 (rl_in neg) (q':=fun x y Q=>ob (asCh x) fun c=>ob (asS y) fun z=>Q (.bl (if neg then !decide (c∈z.cps.toList) else decide (c∈z.cps.toList)))) ?_ fun x y Q h=> ?_
 · intro c x y Q3 hh Hb G A σ3 σ H vx vy Q R rx ry k
   obtain ⟨n,en,h1⟩:=ob_iff.mp hh
   obtain ⟨z,ez,q⟩:=ob_iff.mp h1
   cases asCh_is en
   cases asS_is ez
   exact ⟨n,z,rx.strI,ry.strI,k _ _ H (Le.refl R.inv) (.bl _) q⟩
 · cases y with
   | str z=>
     right
     obtain ⟨n,en,q⟩:=ob_iff.mp h
     exact ob_iff.mpr ⟨n,en,q⟩
   | _=>exact .inl h
end
theorem unlTo_full:∀(xs:List Str) (i:Nat),i≤xs.length→(unlTo xs i=i↔(xs.take i).Nodup)
 | xs,0,_=>by simp [unlTo]
 | xs,i+1,h=>by
   have ih:=unlTo_full xs i (by omega)
   have le:=unlTo_le xs i
   have ei:xs[i]? =some (xs.getD i Str.empty):=by
    rw [List.getD_eq_getElem?_getD,List.getElem?_eq_getElem (by omega)]
    rfl
   have et:xs.take (i+1)=xs.take i++[xs.getD i Str.empty]:=by rw [List.take_add_one,ei];rfl
   rw [et,List.nodup_append]
   unfold unlTo
   by_cases hm:(xs.take i).any (· ==xs.getD i Str.empty)=true
   · rw [if_pos hm]
     obtain ⟨y,hy,ey⟩:=List.any_eq_true.mp hm
     have ey:y=xs.getD i Str.empty:=eq_of_beq ey
     constructor
     · intro z;omega
     · intro z
       exact absurd ey (z.2.2 y hy _ (List.mem_singleton.mpr rfl))
   · rw [if_neg hm]
     constructor
     · intro z
       refine ⟨ih.mp (by omega),by simp,fun a ha b hb e=> ?_⟩
       cases List.mem_singleton.mp hb
       exact hm (List.any_eq_true.mpr ⟨a,ha,beq_iff_eq.mpr e⟩)
     · intro z
       have:=ih.mpr z.1
       omega
theorem unlTo_nodup (xs:List Str):unlTo xs xs.length=xs.length↔xs.Nodup:=by
 rw [unlTo_full xs xs.length (Nat.le_refl _),List.take_length]
structure MkC (P:Program) (w:World) (K:PySem.W.Frag) (mg:Str→Option Value) (base:Heap) (CX:CXT) (x:Str) (C:Addr) (k:Nat) (dvs:List V) (sp:Sp):Prop where
 ex:∃(f:Addr) (fd:FuncData) (ps:List Str) (ds:List Value),FnOk P w K mg base CX k f fd ps sp∧mg x=some (.ref C)∧Mk K C f∧Binds K fd ps ds∧Vals dvs ds
structure MkN (P:Program) (w:World) (K:PySem.W.Frag) (mg:Str→Option Value) (base:Heap) (CX:CXT) (x:Str) (C:Addr) (k n:Nat) (ks:List Str) (gV:List V→List V→List V) (sp:Sp):Prop where
 ex:∃(f:Addr) (fd:FuncData) (ps:List Str) (g:List Value→List Value→List Value),FnOk P w K mg base CX k f fd ps sp∧mg x=some (.ref C)∧Mk K C f∧KBn K fd ps (n+1) ks g gV
section
variable {X:Cx} {CX:CXT} {k n:Nat} {C:Addr} {sp:Sp} {dvs:List V} {E:XK} {x:Str} {p pos:Pos} {e:Expr} {es:List Expr} {kws:List Keyword} {ks:List Str} {t tk:TA} {gV:List V→List V→List V}
theorem pe_mkC0 (M:MkC X.prog X.w X.K X.mg X.base CX x C k dvs sp) (hr:Room (k+1) X.A) (hg:Gl X x) (hx:Passes CX X E) (h1:(x==("__debug__":Str))=false:=by decide):PE X (.Call (.Name x p) [] [] pos) (tMake C sp dvs E tNil):=by
 obtain ⟨f,fd,ps,ds,F,hm,M,hb,hd⟩:=M.ex
 exact pe_make0 M F hr hg hm hb hd hx h1
theorem pe_mkN (M:MkN X.prog X.w X.K X.mg X.base CX x C k n ks gV sp) (hr:Room (k+1) X.A) (hg:Gl X x) (hx:Passes CX X E) (ha:PA X (e::es) t) (hkw:PK X kws tk)
 (h1:(backToKw pos (keywordEach kws X.env)).all (·.1.isSome)=true:=by rfl) (h2:(backToKw pos (keywordEach kws X.env)).filterMap (·.1)=ks:=by rfl) (h3:(x==("__debug__":Str))=false:=by decide)
 (h4:starEach (e::es) X.env=(false,eval e X.env)::starEach es X.env:=by rfl) (h5:((backTo pos (starEach (e::es) X.env)).any (·.1)||(backToKw pos (keywordEach kws X.env)).any (·.1.isNone))=false:=by rfl):
 PE X (.Call (.Name x p) (e::es) kws pos) (tMakeK C n ks.length sp gV E t tk):=by
 obtain ⟨f,fd,ps,g,F,hm,M,hb⟩:=M.ex
 exact pe_makeK M F hr hg hm hb hx ha hkw h1 h2 h3 h4 h5
end
structure MethAt (K:PySem.W.Frag) (C:Addr) (m x qual:Str) (st:Stmt) (dts:List T) (kns:List Str) (kts:List T):Prop where
 ex:∃f fd dvs kvs,(∀H,RepL K H dvs dts)∧(∀H,RepL K H kvs kts)∧FunD K x qual (defArgs st) (defBody st) (defScope st) dvs (kns.zip kvs) f fd∧PySem.W.findIn K (.ref C) m=some (some (.ref f))
structure OkM (P:Program) (w:World) (K:PySem.W.Frag) (mg:Str→Option Value) (base:Heap) (CX:CXT) (C:Addr) (m x qual:Str) (st:Stmt) (dts:List T) (kns:List Str) (kts:List T) (lv:Nat) (ps:List Str) (sp:Sp):Prop where
 ex:∃f fd dvs kvs,(∀H,RepL K H dvs dts)∧(∀H,RepL K H kvs kts)∧FunD K x qual (defArgs st) (defBody st) (defScope st) dvs (kns.zip kvs) f fd∧PySem.W.findIn K (.ref C) m=some (some (.ref f))∧FnOk P w K mg base CX lv f fd ps sp
structure ClsAt (w:World) (K:PySem.W.Frag) (mg:Str→Option Value) (x:Str):Prop where
 g:mg x=some (.ref ((csOf w K mg).at_ x))
 cl:Cls K ((csOf w K mg).at_ x)
 mks:PySem.W.makesIn K ((csOf w K mg).at_ x)=true
 kp:PySem.W.keepIn K (.ref ((csOf w K mg).at_ x))=true
section
variable {P:Program} {w:World} {K:PySem.W.Frag} {mg:Str→Option Value} {base:Heap} {CX:CXT} {x qual:Str} {st:Stmt} {dts kts:List T} {kns:List Str} {lv:Nat} {ps:List Str} {sp:Sp} {cx:Str}
structure MkNT (P:Program) (w:World) (K:PySem.W.Frag) (mg:Str→Option Value) (base:Heap) (CX:CXT) (x:Str) (C:Addr) (k n:Nat) (ks:List Str) (is:List Nat) (mts:List T) (sp:Sp):Prop where
 ex:∃mvs,(∀H,RepL K H mvs mts)∧MkN P w K mg base CX x C k n ks (fun vs zs=>sel is (vs++(mvs++zs))) sp
structure MkT (P:Program) (w:World) (K:PySem.W.Frag) (mg:Str→Option Value) (base:Heap) (CX:CXT) (x:Str) (C:Addr) (k:Nat) (dts:List T) (sp:Sp):Prop where
 ex:∃dvs,(∀H,RepL K H dvs dts)∧MkC P w K mg base CX x C k dvs sp
theorem OkM.mkN0 (O:OkM P w K mg base CX ((csOf w K mg).at_ cx) "__init__" x qual st [] kns kts lv ps sp) (M:ClsAt w K mg cx) (hf:∀f,PySem.W.findIn K (.ref ((csOf w K mg).at_ cx)) "__init__"=some (some (.ref f))→PySem.W.isFn K (.ref f)=true) (n:Nat) (ks:List Str) (ms is:List Nat) (hk:kts≠[]) (hl:kns.length=kts.length) (hms:∀i∈ms,i<kns.length)
 (h:∀(D:Addr) (doc pm:Value) (an:Option Addr) (cdv ct:Value) (us mv ws:List Value),us.length=n+1→mv.length=ms.length→ws.length=ks.length→
   KwChain D ((sel ms kns).zip mv) (bindArgs (PySem.W.fnOf x qual (defArgs st) (defBody st) (defScope st) .none (.ref D) doc pm an cdv ct) ⟨us,ks.zip ws⟩) (ps.zip (sel is (us++(mv++ws))))):MkNT P w K mg base CX cx ((csOf w K mg).at_ cx) lv n ks is (sel ms kts) sp:=by
 obtain ⟨f,fd,dvs,kvs,rd,rk,F,hm,O⟩:=O.ex
 have e:=(rd (fun _=>none)).len0
 subst e
 obtain ⟨mvs,g,h1,B⟩:=kbn0 rk F (n+1) ks ms is hk hl hms h
 exact ⟨mvs,h1,f,fd,ps,g,O,M.g,⟨M.mks,hm,hf f hm,M.kp⟩,B⟩
theorem OkM.mkP (O:OkM P w K mg base CX ((csOf w K mg).at_ cx) "__init__" x qual st [] kns kts lv ps sp) (M:ClsAt w K mg cx) (hf:∀f,PySem.W.findIn K (.ref ((csOf w K mg).at_ cx)) "__init__"=some (some (.ref f))→PySem.W.isFn K (.ref f)=true)
 (h:∀(kV doc pm:Value) (an:Option Addr) (cdv ct:Value) (us:List Value),us.length=ps.length→bindArgs (PySem.W.fnOf x qual (defArgs st) (defBody st) (defScope st) .none kV doc pm an cdv ct) ⟨us,[]⟩=pure (ps.zip us)):MkT P w K mg base CX cx ((csOf w K mg).at_ cx) lv [] sp:=by
 obtain ⟨f,fd,dvs,kvs,rd,rk,F,hm,O⟩:=O.ex
 have e:=(rd (fun _=>none)).len0
 subst e
 exact ⟨[],fun _=>.nil,f,fd,ps,[],O,M.g,⟨M.mks,hm,hf f hm,M.kp⟩,F.bindsN h,.nil⟩
end
theorem methAt_mk {K:PySem.W.Frag} {C:Addr} {m x qual:Str} {st:Stmt} {dts kts:List T} {kns:List Str} {f:Addr} {oc dV kV doc pm cdv ct:Value} {od an:Option Addr} {osl:Array (Option Value)} (hm:PySem.W.findIn K (.ref C) m=some (some (.ref f)))
 (l:K.lookup f=some ⟨oc,od,.func (PySem.W.fnOf x qual (defArgs st) (defBody st) (defScope st) dV kV doc pm an cdv ct),osl⟩) (c:PySem.W.codeIn K cdv qual=true) (k:PySem.W.keepIn K (.ref f)=true)
 (hd:(dts=[]∧dV= .none)∨(dts≠[]∧∃(Ta:Addr) (o:Obj) (its:List Value) (n:Nat),dV= .ref Ta∧K.lookup Ta=some o∧o.data= .seq its.toArray n∧TreesAt K dts its))
 (hk:(kns=[]∧kts=[])∨∃(D:Addr) (us:List Value),kV= .ref D∧TreesAt K kts us∧kns.length=us.length∧∀q∈kns.zip us,PySem.W.nsIn K D q.1=some (some q.2)):MethAt K C m x qual st dts kns kts:=by
 obtain ⟨f',fd,dvs,kvs,h1,h2,F,e⟩:=(defAt_mk (mg:=fun _=>some (.ref f)) (x:=x) rfl l c k hd hk).ex
 cases e
 exact ⟨_,fd,dvs,kvs,h1,h2,F,hm⟩
end M3
namespace M3
open PySem PySem.Spec PyProof.Rows L2
theorem R3.ext {K:PySem.W.Frag} {c:Cf} {Hb H H':Hp} {G:List Addr} {A:List (Option Addr)} {σ3:List Sl} {σ:L2.St} (r:R3 K c Hb G A σ3 σ H) (k:∀b o,H b=some o→H' b=some o):Le c G A H H' where
 vis:=fun a u e=>by
  obtain ⟨e1,e2⟩:=hid_some e
  exact hid_mk (k _ _ e1) e2
 own:=fun a ha=>by
  have hm:a∈c.S G A:=mem_S.mpr (by rcases List.mem_append.mp ha with z | z;exact .inr (.inl z);exact .inr (.inr z))
  cases e:H a with
  | none=>exact absurd e (r.there hm)
  | some o=>exact k _ _ e
 inv:=c.st H _ (fun a ha=>by
  have hm:a∈c.S G A:=mem_S.mpr (.inl ha)
  cases e:H a with
  | none=>exact absurd e (r.there hm)
  | some o=>exact k _ _ e) (fun a φ e=>k _ _ e) r.inv
inductive Kd where
 | l (a:Addr) | t (a:Addr) | s (x:Str)
def Kd.v:Kd→V
 | .l a=>.ref a
 | .t a=>.ref a
 | .s x=>.str x
def Kd.has (K:PySem.W.Frag) (H:Hp):Kd→List V→Prop
 | .l a,xs=>SqL K H a xs
 | .t a,xs=>SqT K H a xs
 | .s x,xs=>xs=x.cps.toList.map fun c=>V.str ⟨#[c]⟩
def Kd.tn (j:Addr) (i:Nat) (h:Heap):Kd→Prop
 | .l a=>h.IsListIter j a i
 | .t a=>h.IsTupleIter j a i
 | .s x=>∃t,h.IsStrIter j (strIterType x) x t i
section
variable {X:Cx} {pins:List (Addr×Obj)} {σ:L2.St} {H:Hp} {s:Shared} {j:Addr} {i:Nat} {xs:List V}
theorem Kd.keep {h h':Heap} (k:Kd) (tn:k.tn j i h) (kp:∀o,h.get? j=some o→h'.get? j=some o):k.tn j i h':=by
 cases k with
 | l a=>exact Heap.IsListIter.at tn kp
 | t a=>exact Heap.IsTupleIter.at tn kp
 | s x=>
   obtain ⟨t,o,ho,r⟩:=tn
   exact ⟨t,o,kp o ho,r⟩
theorem Kd.obj {h:Heap} (k:Kd) (tn:k.tn j i h):∃o,h.get? j=some o∧∀v,o.data≠ .cell v:=by
 cases k with
 | l a=>
   obtain ⟨o,e,_,d⟩:=tn
   exact ⟨o,e,fun v q=>by rw [d] at q;cases q⟩
 | t a=>
   obtain ⟨o,e,_,d⟩:=tn
   exact ⟨o,e,fun v q=>by rw [d] at q;cases q⟩
 | s x=>
   obtain ⟨t,o,e,_,d⟩:=tn
   exact ⟨o,e,fun v q=>by rw [d] at q;cases q⟩
end
theorem Kd.inj {X:Cx} {pins:List (Addr×Obj)} {σ:L2.St} {H:Hp} {s:Shared} (I:Inv X pins σ H s) {xs ys:List V} (k:Kd) (h:k.has X.K H xs) (h':k.has X.K H ys):xs=ys:=by
 cases k with
 | l a=>exact I.list_inj h h'
 | t a=>exact I.tuple_inj h h'
 | s x=>exact h.trans h'.symm
section
variable {K:PySem.W.Frag} {c:Cf} {W:WX}
theorem Rep.kd {S:List Addr} {H:Hp} {v:V} {t:T} {ds:List T} (r:Rep K (hid S H) v t) (h:itemsP t=some ds):∃k vs,v=Kd.v k∧RepL K (hid S H) vs ds∧∀S' H',Same (hid S H) (hid S' H')→k.has K H' vs:=by
 cases t with
 | lst xs=>
   obtain ⟨a,vs,rfl,h1,h2⟩:=r.lstI
   cases h
   exact ⟨.l a,vs,rfl,h2,fun S' H' e=>SqL.of (hid_same _ _ (e _ _ h1))⟩
 | tup xs=>
   obtain ⟨a,vs,rfl,h1,h2⟩:=r.tupI
   cases h
   exact ⟨.t a,vs,rfl,h2,fun S' H' e=>Same.sqT hid_same (Same.sqT e h1)⟩
 | str z=>
   cases r.strI
   cases h
   refine ⟨.s z,z.cps.toList.map fun c=>V.str ⟨#[c]⟩,rfl, ?_,fun _ _ _=>rfl⟩
   have:∀l:List Nat,RepL K (hid S H) (l.map fun c=>V.str ⟨#[c]⟩) (l.map chT):=fun l=>by
    induction l with
    | nil=>exact .nil
    | cons c l ih=>exact .cons (.str _) ih
   exact this _
 | _=>cases h
end
end M3
namespace M3
open PySem L2
end M3
namespace M3
open PySem PySem.Spec PyProof.Rows L2
inductive DEnts (K:PySem.W.Frag) (P:Params):List (Str×T)→List DictEntry→Prop
 | nil:DEnts K P [] []
 | cons {x:Str} {t:Tok} {tr:T} {v:Value} {r:List (Str×T)} {es:List DictEntry} (h:TreeAt K tr v) (q:DEnts K P r es):DEnts K P ((x,tr)::r) (⟨PyData.keyHash P x,.str x t,v⟩::es)
def Look (K:PySem.W.Frag) (es:List DictEntry) (z:Str):Option T→Prop
 | some tr=>∃e,es.find? (·.key.isStr z)=some e∧TreeAt K tr e.val
 | none=>es.find? (·.key.isStr z)=none
theorem DEnts.look {K:PySem.W.Frag} {P:Params} {z:Str}:∀ {kts:List (Str×T)} {es:List DictEntry},DEnts K P kts es→Look K es z (kts.lookup z)
 | _,_,.nil=>rfl
 | _,_, @DEnts.cons _ _ x t tr v r es h q=>by
   have ih:=q.look (z:=z)
   by_cases e:z=x
   · subst e
     have l1:((z,tr)::r).lookup z=some tr:=by simp [List.lookup]
     rw [l1]
     exact ⟨_,by rw [List.find?_cons_of_pos];simp [Value.isStr],h⟩
   · have l1:((x,tr)::r).lookup z=r.lookup z:=by
      have e':(z==x)=false:=by simpa using e
      simp [List.lookup,e']
     have n1:∀w':Value,(⟨PyData.keyHash P x,.str x t,w'⟩:DictEntry).key.isStr z=false:=fun w'=>by
      show (Value.str x t).isStr z=false
      simp [Value.isStr]
      exact fun y=>e y.symm
     rw [l1]
     have f1:(⟨PyData.keyHash P x,.str x t,v⟩::es).find? (·.key.isStr z)=es.find? (·.key.isStr z):=by rw [List.find?_cons_of_neg];simpa using n1 v
     revert ih
     cases r.lookup z with
     | none=>intro ih;exact f1.trans ih
     | some tr'=>intro ⟨e',h1,h2⟩;exact ⟨e',f1.trans h1,h2⟩
section
variable {K:PySem.W.Frag} {c:Cf} {W:WX} {ta tb te:TE} {a b e:E3} {d:Addr} {kts:List (Str×T)} {neg:Bool}
def dvs (l:List (Str×V)):List (Key×V):=l.map fun p=>(.inr p.1,p.2)
inductive CRep (K:PySem.W.Frag):List (Str×V)→List (Str×T)→Prop
 | nil:CRep K [] []
 | cons {x:Str} {v:V} {t:T} {l:List (Str×V)} {m:List (Str×T)} (h:∀H,Rep K H v t) (q:CRep K l m):CRep K ((x,v)::l) ((x,t)::m)
theorem CRep.look {z:Str} {dv:V} {dt:T} (hd:∀H,Rep K H dv dt):∀ {l:List (Str×V)} {m:List (Str×T)},CRep K l m→∀H,Rep K H ((l.lookup z).getD dv) ((m.lookup z).getD dt)
 | _,_,.nil=>hd
 | _,_, @CRep.cons _ x v t l m h q=>fun H=>by
   by_cases e:z=x
   · subst e
     simpa [List.lookup] using h H
   · have e':(z==x)=false:=by simpa using e
     simpa [List.lookup,e'] using q.look hd H
end
end M3
namespace M3
open PySem PySem.Spec PyProof.Rows L2
structure VeiC (w:World) (K:PySem.W.Frag) (mg:Str→Option Value) (x:Str):Prop where
 g:mg x=some (.ref ((csOf w K mg).at_ x))
 sg:PySem.W.specialIn K (.ref ((csOf w K mg).at_ x)) "__getattribute__"=some (some (.builtin "type.__getattribute__"))
 rd:PySem.W.readsIn K ((csOf w K mg).at_ x) (.type "type")=true
 fc:PySem.W.findCls K (.ref ((csOf w K mg).at_ x)) (.type "type") "__init__"=some (.val (.builtin "ValueError.__init__"))
section
variable {X:Cx} {K:PySem.W.Frag} {mg:Str→Option Value} {o e:Expr} {es:List Expr} {to te:TE} {ta:TA} {f x:Str} {p p' p1 p2 pos:Pos}
theorem pe_cinit {pl:Sem Bool} (hK:X.K=K) (hmg:X.mg=mg) (V:VeiC w K mg x) (hg:Gl X x) (ha:PA X (e::es) ta) (hdb:(x==("__debug__":Str))=false)
 (hc:eval (.Call (.Attribute (.Name x p1) "__init__" p2) (e::es) [] pos) X.env=(do
   let ov ←eval (.Name x p1) X.env
   standAt p2.atName
   let (f,first) ←holding [ov] (getMethod ov "__init__" pl)
   callWith pos f first (backTo pos (starEach (e::es) X.env)) (backToKw pos (keywordEach [] X.env))):=by rfl)
 (he:starEach (e::es) X.env=(false,eval e X.env)::starEach es X.env:=by rfl) (hpl:(backTo pos (starEach es X.env)).any (·.1)=false:=by rfl):
 PE X (.Call (.Attribute (.Name x p1) "__init__" p2) (e::es) [] pos) (tVeI K ta):=by
 subst hK hmg
 refine ⟨fun pins s σ H Q I h=> ?_⟩
 refine PySem.W.methodCall_KW (ld_glob I hg V.g ?_ hdb) hc
 refine PySem.W.method_cls I.kIn V.sg (PySem.W.cls_value I.kIn V.rd V.fc (by decide +kernel) ?_)
 show wpAny _ _ (callWith pos (Value.builtin "ValueError.__init__") [] (backTo pos (starEach (e::es) X.env)) []) _ _ _
 refine PyProof.Rows.callWith_method1 (thn (ha.run pos pins _ σ H _ (I.tok _) h) fun us s1 ⟨vs,H1,I1,r1,a,C,ws,ev,hl,T,ea,q⟩=> ?_) he hpl
 subst ev
 cases r1 with
 | @cons _ u0 _ ur ra rw'=>
   obtain rfl:u0=Value.ref a:=ra
   have hlen:ur.length≤sizeLine:=by
    have:sizeLine=16777216:=by decide
    have:=Paired.length rw'
    omega
   exact oinit_ok T I1 ea hlen fun s' J=>⟨.non,H1,J,rfl,q⟩
theorem ps_ostK (hK:X.K=K) (ho:PE X o to) (he:PE X e te) (hs:swapsWith e (some (.Attribute o f p')) pos.line X.env=pure false:=by rfl):PS X (.Assign [.Attribute o f p'] e pos) (tOst K f to te):=hK ▸ ps_ost ho he hs
end
def spX1 (C:Addr) (f:Str):Sp:=fun vs H Q _=>∃a z,vs=[.ref a,.str z]∧H a=some (exo a C none)∧z.length≤1000∧∀dx,H dx=none→dx≠a→Q .non (upd (upd H dx (exd dx [(f,.str z)])) a (exo a C (some dx)))
theorem spX1_len {C:Addr} {f:Str} {ps:List Str} (h:ps.length=2):∀vs H Q E,spX1 C f vs H Q E→vs.length=ps.length:=by
 rintro vs H Q E ⟨a,z,rfl,_⟩
 exact h.symm
theorem bodyX1 {K:PySem.W.Frag} {C:Addr} {f m:Str} {vs:List V} {H:Hp} {Q:VK} {E:XK} {N:List Str} (hN:N.length=2) (hm:m.length≤1000) (T:OexC K C) (hno:PySem.W.findIn K (.ref C) f=some none) (h:spX1 C f vs H Q E):
 tSeq (tDrop (tVeI K (tCons (tVar 0) (tCons (fun σ H Q=>tJs [tC (.str m),tFmt (tVar 1)] Str.empty σ H fun out H1=>Q (.str out) H1) tNil)))) (tOst K f (tVar 0) (tVar 1)) {nx:=fun _ H'=>Q .non H',rt:=Q} (start N vs) H:=by
 obtain ⟨a,z,rfl,ha,hz,q⟩:=h
 have es:start N [V.ref a,V.str z]=[some (.ref a),some (.str z)]:=by
  rw [start_eq,hN]
  rfl
 rw [es]
 have sl:sizeLine=16777216:=by decide
 have l0:(Str.empty++m).length=m.length:=by simp [Str.length_append]<;>rfl
 have l1:(Str.empty++m++z).length=m.length+z.length:=by
  rw [Str.length_append,l0]
 refine ⟨.ref a,rfl,m,rfl,by rw [l0];omega,.str z,rfl,.inl ⟨z,rfl,by omega,z,rfl,by rw [l1];omega, ?_⟩⟩
 refine ⟨a,C,_,rfl,by show (1:Nat)≤1000;decide,T,ha, ?_⟩
 exact ⟨.str z,rfl,.ref a,rfl,a,C,rfl,T,hno,.inl ⟨ha,fun dx h1 h2=>q dx h1 h2⟩⟩
def raiseT3 (cls:Value) (f:Str) (a:E3):S3:=fun N σ=>a σ (fun t=>ob (asS t) fun z=>z.length≤1000∧N.xn σ ⟨cls,[(f,.str z)]⟩) (N.xn σ)
theorem lift_raiseT {K:PySem.W.Frag} {c:Cf} {W:WX} {ta:TE} {a:E3} {C:Addr} {f:Str} (ha:Lift K c W ta a):LiftS K c W (fun _ σ H=>tMkO C (spX1 C f) [] (tCons ta tNil) σ H fun cls d H'=>W cls d σ H') (raiseT3 (.ref C) f a):=by
 intro N σ3 h Hb G A σ H D R Z
 refine ha _ _ _ h Hb G A σ H _ R (fun v t H1 L1 r q0=> ?_) (fun cls dd x H' L r q=>Z.xn _ _ _ _ _ _ _ (R.le L) r q)
 obtain ⟨z,ez,hz,q⟩:=ob_iff.mp q0
 cases asS_is ez
 cases r.strI
 have R1:=R.le L1
 refine ⟨by show (1:Nat)≤1000;decide,fun b hb=>⟨b,z,rfl,upd_same,hz,fun dx h1 h2=>⟨rfl,dx,[(f,.str z)],upd_same, ?_, ?_, ?_⟩⟩⟩
 · rw [upd_ne h2,upd_same]
 · rw [upd_ne h2] at h1;exact h1
 · have h1':H1 dx=none:=by rw [upd_ne h2] at h1;exact h1
   have eH:upd (L2.del (upd (upd (upd H1 b (exo b C none)) dx (exd dx [(f,.str z)])) b (exo b C (some dx))) b) dx (.xd [(f,.str z)])=upd H1 dx (.xd [(f,.str z)]):=by
    funext y
    by_cases y1:y=dx
    · rw [y1,upd_same,upd_same]
    · rw [upd_ne y1,upd_ne y1]
      by_cases y2:y=b
      · rw [y2,del_same,hb]
      · rw [del_ne y2,upd_ne y2,upd_ne y1,upd_ne y2]
   rw [eH]
   have L2:=R1.new (o:=.xd [(f,.str z)]) h1'
   exact Z.xn _ _ _ _ _ _ ⟨.ref C,[(f,.str z)]⟩ (R1.le L2) ⟨rfl,[(f,.str z)],R1.newAt h1',rfl,.cons (.str z) .nil⟩ q
end M3
namespace M3
open PySem PySem.Spec PyProof.Rows L2
abbrev Hd:=Value×Option Nat×(Addr→Value→Option Addr→TS)
def asEnds (i:Nat) (D:Ends):Ends:={nx:=fun σ' H'=>D.nx (σ'.set i none) H',rt:=D.rt,bk:=fun σ' H'=>D.bk (σ'.set i none) H',ct:=fun σ' H'=>D.ct (σ'.set i none) H'}
def wMix (K:PySem.W.Frag) (Wo:WX) (D:Ends):List Hd→WX
 | []=>Wo
 | (c,o,ts)::r=>fun cls d σ H=>∃b,PySem.W.exmOne K cls c=some b∧(b=true→∀a,H a=none→match o with | none=>ts a cls d D σ H | some i=>ts a cls d (asEnds i D) (σ.set i (some (.ref a))) H)∧(b=false→wMix K Wo D r cls d σ H)
inductive HdsM (X:Cx):List ExceptHandler→List Hd→Prop
 | nil:HdsM X [] []
 | bare {x:Str} {c:Value} {ts:Addr→Value→Option Addr→TS} {b₀:Stmt} {suite:List Stmt} {np pos':Pos} {hds:List ExceptHandler} {l:List Hd} (hc:Names X x c)
    (hsu:∀(a:Addr) (oe:Obj) (cls:Value) (d:Option Addr) (pn:List (Addr×Obj)),Zc cls d oe→(∃vs,oe.data= .fields vs)→PSs (X.suite a ((a,oe)::pn)) (b₀::suite) (ts a cls d)) (r:HdsM X hds l):
    HdsM X (.ExceptHandler (some (.Name x np)) none (b₀::suite) pos'::hds) ((c,none,ts)::l)
 | as {x n:Str} {i:Nat} {c:Value} {ts:Addr→Value→Option Addr→TS} {b₀:Stmt} {suite:List Stmt} {np pos':Pos} {hds:List ExceptHandler} {l:List Hd} (hN:X.N.Nodup) (hi:X.N[i]? =some n) (hln:X.env.kindOf n=some .local) (hc:Names X x c)
    (hsu:∀(a:Addr) (oe:Obj) (cls:Value) (d:Option Addr) (pn:List (Addr×Obj)),Zc cls d oe→(∃vs,oe.data= .fields vs)→PSs (X.suite a ((a,oe)::pn)) (b₀::suite) (ts a cls d)) (r:HdsM X hds l):
    HdsM X (.ExceptHandler (some (.Name x np)) (some n) (b₀::suite) pos'::hds) ((c,some i,ts)::l)
section
variable {X:Cx} {body:List Stmt} {h₀:ExceptHandler} {hds:List ExceptHandler} {l:List Hd} {pos:Pos} {tb:WX→TS} {Wo:WX}
theorem ps_try_mix (hs:X.stack=X.env::X.outer) (hf:X.env.frame=some X.env.locals) (tk:Takes X Wo)
 (hb:∀(W:WX) (pn:List (Addr×Obj)) (xe:Value→Shared→Prop),Takes (X.tr pn xe) W→PassesOwn (model X.prog X.w) X.A X.env xe→PSs (X.tr pn xe) body (tb W))
 (hh:HdsM X (h₀::hds) l):PS X (.Try body (h₀::hds) [] [] pos) (fun D σ H=>tb (wMix X.K Wo D l) D σ H):=by
 refine ⟨fun pins s σ H D I h=> ?_⟩
 have ok:=I.ok
 have fr0:X.A.frames=some (X.env::X.outer):=by rw [ok.frames,hs]
 refine wpAny_Try_except ?_
 refine wpAny_mono ((hb (wMix X.K Wo D l) (X.pn++pins) (fun e s₁=>wpAny (model X.prog X.w) X.A (noteFrame e X.env) (fun _ s₂=>wpAny (model X.prog X.w) X.A (setFlight e none) (fun _ s₃=>wpAny (model X.prog X.w) X.A (handleBy e X.env (h₀::hds)) (SP X pins D) X.xe s₃) X.xe s₂) X.xe s₁)
  (fun u s' xx=> ?_) PassesOwn.looking).run [] s σ H D (I.toTry _) h) (fun f s1 hsp=> ?_) (fun e s1 he=>he)
 · obtain ⟨a,B,sI,pins',σ',H',cls,d,rfl,J',nb,up,sky,na,os,ag,w⟩:=xx
   have J:Inv X pins σ' H' sI:=J'.ofTry ok
   have sky':Sky B (X.env::X.outer) a (Zc cls d) X.env.locals s'.heap:=by rw [←hs];exact sky
   show wpAny (model X.prog X.w) X.A (noteFrame (.ref a) X.env) _ _ _
   refine Sky.land Zc.steady fr0 hf sky' fun h3 fl3 up3=> ?_
   have J3:Inv X pins σ' H' {s' with heap:=h3}:=J.landed nb fl3.1 (up.trans up3) os ag
   obtain ⟨oe3,vs3,he3,hz3,hd3⟩:=fl3.there
   have nfr:a ∉ frs (X.env::X.outer):=fun hm=>by
    obtain ⟨_,o',e',hnf⟩:=fl3.2.2.1.mem hm
    rw [he3] at e';cases e'
    exact hnf _ hd3
   have nL:a≠X.env.locals:=fun z=>nfr (List.mem_filterMap.mpr ⟨X.env,List.mem_cons_self,by rw [hf,z]⟩)
   have nF:a ∉ X.fs:=fun hm=>by
    obtain ⟨e,he,q⟩:=List.mem_filterMap.mp hm
    exact nfr (List.mem_filterMap.mpr ⟨e,List.mem_cons_of_mem _ he,q⟩)
   have S3:=J3.suite he3 hd3 na nL nF
   have LT:PySem.W.Looks (model X.prog X.w) h3 (typeOf (.ref a)) cls:=fun A Q E s k q=>wpAny_typeOf_ref (k _ _ he3) (by rw [hz3.1];exact q)
   suffices go:∀ {hds':List ExceptHandler} {l':List Hd},HdsM X hds' l'→wMix X.K Wo D l' cls d σ' H'→wpAny (model X.prog X.w) X.A (handleBy (.ref a) X.env hds') (SP X pins D) X.xe {s' with heap:=h3} from go hh w
   intro hds' l' hk
   induction hk with
   | nil=>
     intro w
     refine wpAny_handleBy_nil ?_
     obtain ⟨k1,k2,k3,oe,vs,Tt,oT,ts',he,hz,hd,h1,hr⟩:=id fl3
     unfold PySem.passOn
     refine wpAny_bind (wpAny_field he hd h1 ?_)
     rw [if_neg (show ¬((Value.ref Tt==Value.none)=true) from by simp)]
     have fin:wpAny (model X.prog X.w) X.A (setFlight (.ref a) X.env.frame) (fun _ s4=>wpAny (model X.prog X.w) X.A (throw (.ref a):Sem Flow) (SP X pins D) X.xe s4) X.xe {s' with heap:=h3}:=by
      rw [hf]
      exact HandSPX.setFlight_upZ fl3 fun h4 hh4 up4=>wpAny_throw (tk _ _ ⟨a,B,sI,pins,σ',H',cls,d,rfl,J,nb,(up.trans up3).trans up4,.inr (.inr (by rw [hs];exact hh4)),na,os,ag,w⟩)
     first | exact wpAny_bind (wpAny_pure (wpAny_bind fin)) | exact wpAny_bind fin
   | @bare x c ts b₀ suite np pos' hds2 l2 hc hsu r ih=>
     intro w
     obtain ⟨b,hb1,hyes,hno⟩:=w
     refine wpAny_handleBy_cons (codeAny_handlers_test ?_) (by intro q;cases q)
     have LM:=PySem.W.exm_one (M:=model X.prog X.w) (J3.kIn) LT hb1
     have test:∀ {Q:Value→Shared→Prop} {E:Value→Shared→Prop},Q c {s' with heap:=h3}→wpAny (model X.prog X.w) (X.A.mark (some (.ref a))) (eval (.Name x np) X.env) Q E {s' with heap:=h3}:=fun {Q E} q=>by
      obtain ⟨hg,hdbg,hm | ⟨hm,hv,hnn⟩⟩:=hc
      · exact ld_glob (X:=X.suite a ((a,oe3)::(X.pn++pins))) S3 hg hm q hdbg
      · exact ld_blt (X:=X.suite a ((a,oe3)::(X.pn++pins))) S3 hg hm hv q hnn hdbg
     refine test (LM.here ?_)
     cases b with
     | true=>
       refine codeAny_handlers_suite ?_
       refine HandSPX.lands_againZ fl3 fun h4 fl4 up4=> ?_
       have J4:Inv X pins σ' H' {s' with heap:=h4}:=J.landed nb fl4.1 ((up.trans up3).trans up4) os ag
       obtain ⟨oe4,vs4,he4,hz4,hd4⟩:=fl4.there
       have S4:=J4.suite he4 hd4 na nL nF
       refine wpAny_mono ((hsu a oe4 cls d (X.pn++pins) hz4 ⟨_,hd4⟩).run [] _ _ H' _ S4 (hyes rfl a na)) (fun f s6 hsp=> ?_) (fun _ _ z=>False.elim z)
       cases f with
       | ret u=>
         obtain ⟨v6,σ6,H6,S6,r6,q6⟩:=hsp
         exact ⟨_,_,_,S6.unsuite ok,r6,q6⟩
       | _=>
         obtain ⟨σ6,H6,S6,q6⟩:=hsp
         exact ⟨_,_,S6.unsuite ok,q6⟩
     | false=>exact ih (hno rfl)
   | @as x n i c ts b₀ suite np pos' hds2 l2 hN hi hln hc hsu r ih=>
     intro w
     obtain ⟨b,hb1,hyes,hno⟩:=w
     refine wpAny_handleBy_cons (codeAny_handlers_test ?_) (by intro q;cases q)
     have LM:=PySem.W.exm_one (M:=model X.prog X.w) (J3.kIn) LT hb1
     have test:∀ {Q:Value→Shared→Prop} {E:Value→Shared→Prop},Q c {s' with heap:=h3}→wpAny (model X.prog X.w) (X.A.mark (some (.ref a))) (eval (.Name x np) X.env) Q E {s' with heap:=h3}:=fun {Q E} q=>by
      obtain ⟨hg,hdbg,hm | ⟨hm,hv,hnn⟩⟩:=hc
      · exact ld_glob (X:=X.suite a ((a,oe3)::(X.pn++pins))) S3 hg hm q hdbg
      · exact ld_blt (X:=X.suite a ((a,oe3)::(X.pn++pins))) S3 hg hm hv q hnn hdbg
     refine test (LM.here ?_)
     cases b with
     | true=>
       refine codeAny_handlers_suite_as ?_
       refine HandSPX.lands_againZ fl3 fun h4 fl4 up4=> ?_
       have J4:Inv X pins σ' H' {s' with heap:=h4}:=J.landed nb fl4.1 ((up.trans up3).trans up4) os ag
       obtain ⟨oe4,vs4,he4,hz4,hd4⟩:=fl4.there
       have S4:=J4.suite he4 hd4 na nL nF
       refine store_ok (X:=X.suite a ((a,oe4)::(X.pn++pins))) (v:=.ref a) S4 hN hi (.inl hln) rfl (fun s5 S5=> ?_) (.inr hln)
       refine wpAny_mono ((hsu a oe4 cls d (X.pn++pins) hz4 ⟨_,hd4⟩).run [] s5 _ H' _ S5 (hyes rfl a na)) (fun f s6 hsp=> ?_) (fun _ _ z=>False.elim z)
       have end_:∀ {σ6:L2.St} {H6:Hp} {Q:Shared→Prop},Inv (X.suite a ((a,oe4)::(X.pn++pins))) [] σ6 H6 s6→(∀s7,Inv X pins (σ6.set i none) H6 s7→Q s7)→
        wpAny (model X.prog X.w) X.A (do bindName X.env n .none;unbindBehindTheSuite X.env n pos') (fun _ s7=>Q s7) X.xe s6:=fun {σ6 H6 Q} S6 hq=>gone_ok (S6.unsuite ok) hN hi hln hq
       cases f with
       | ret u=>
         obtain ⟨v6,σ6,H6,S6,r6,q6⟩:=hsp
         exact end_ S6 fun s7 J7=>⟨_,_,_,J7,r6,q6⟩
       | _=>
         obtain ⟨σ6,H6,S6,q6⟩:=hsp
         exact end_ S6 fun s7 J7=>⟨_,_,J7,q6⟩
     | false=>exact ih (hno rfl)
 · cases f with
   | next=>
     obtain ⟨σ',H',J',q⟩:=hsp
     exact wpAny_execs_nil ⟨σ',H',J'.ofTry ok,q⟩
   | ret u=>
     obtain ⟨v,σ',H',J',r,q⟩:=hsp
     exact ⟨v,σ',H',J'.ofTry ok,r,q⟩
   | _=>
     obtain ⟨σ',H',J',q⟩:=hsp
     exact ⟨σ',H',J'.ofTry ok,q⟩
end
end M3
namespace M3
open PySem PySem.Spec L2
theorem takes_len {X:Cx} {W:WX} (t:Takes X W):Takes X (fun cls d σ H=>σ.length=X.N.length→W cls d σ H):=fun u s' ⟨a,B,sI,pins,σ,H,cls,d,e,I,nb,up,sky,na,os,ag,w⟩=>
 t u s' ⟨a,B,sI,pins,σ,H,cls,d,e,I,nb,up,sky,na,os,ag,w I.len⟩
def tFs (a:Addr) (cls:Value) (d:Option Addr) (C:Addr):List Str→TA
 | []=>tNil
 | f::fs=>tCons (tXf a cls d C f (tVar 1)) (tFs a cls d C fs)
abbrev WhyL:=List (Addr×Str×List Str)
def slotF:List Str→Option Nat
 | []=>none
 | _::_=>some 1
def tWhy (C:Addr) (s:Str) (fs:List Str) (a:Addr) (cls:Value) (d:Option Addr):TS:=tRet (tTup (tCons (tC (.str s)) (tFs a cls d C fs)))
def whyH (l:WhyL):List Hd:=l.map fun p=>(.ref p.1,slotF p.2.2,tWhy p.1 p.2.1 p.2.2)
def TTwhyF (K:PySem.W.Frag) (n:Nat) (l:WhyL) (s0:Str):(XK→Hp→VK→Prop)→Hp→VK→Prop:=fun tl H Q=>
 tl (fun cls d H'=>∀σ':L2.St,σ'.length=n→wMix K (fun _ _ _ _=>False) {nx:=fun _ _=>False,rt:=Q} (whyH l) cls d σ' H') H (fun _ H'=>tOne s0 {nx:=fun _ _=>False,rt:=Q} [] H')
theorem wMix_rt {K:PySem.W.Frag} {Wo:WX} {D D':Ends} (e:D.rt=D'.rt):∀(l:WhyL) cls d σ H,wMix K Wo D (whyH l) cls d σ H→wMix K Wo D' (whyH l) cls d σ H
 | [],cls,d,σ,H,h=>h
 | (C,s,fs)::l,cls,d,σ,H,h=>by
   obtain ⟨b,h1,h2,h3⟩:=h
   refine ⟨b,h1,fun hb a ha=> ?_,fun hb=>wMix_rt e l cls d σ H (h3 hb)⟩
   have:=h2 hb a ha
   cases fs with
   | nil=>
     show tTup _ σ H D'.rt
     rw [←e]
     exact this
   | cons f fs=>
     show tTup _ (σ.set 1 (some (.ref a))) H D'.rt
     rw [←e]
     exact this
theorem why_givesF {X:Cx} {Ng:List Str} {x a q s0:Str} {sg:Scope} {g:Addr} {cdg:Value} {j k0:Nat} {p1 p2 p3 p4 p5 p6 p7:Pos} {h₀:ExceptHandler} {hds:List ExceptHandler} {l:WhyL}
 (hh:∀s H,HdsM (cxOf C8.CX0 X.prog X.w X.K X.mg X.base Ng x sg g cdg X.A X.stack s H C8.E0).nox (h₀::hds) (whyH l)) (h0:∀f:Addr,(L2.start Ng [V.ref f])[0]? =some (some (V.ref f))):
 LamX.GivesTo X Ng x sg g cdg [.Try [.Expr (.Call (.Name a p1) [] [] p2) p3] (h₀::hds) [] [] p4,.Return (some (.Tuple [.Constant (.str s0) j p5] k0 p6)) p7] a q (TTwhyF X.K Ng.length l s0):=by
 intro f c' s H Q tl act hc h
 refine ⟨_,pss_cons (ps_try_mix (X:=(cxOf C8.CX0 X.prog X.w X.K X.mg X.base Ng x sg g cdg X.A X.stack s H C8.E0).nox)
  (tb:=fun W D σ H=>∃Ech:XK,(∀cls d σ' H',Ech cls d H'→σ'.length=Ng.length→W cls d σ' H')∧σ[0]? =some (some (.ref f))∧H c'=some (LamX.CodeO c' q)∧tl Ech H (fun _ H'=>D.nx σ H'))
  rfl rfl takes0 (fun W pn xe tk _=> ?_) (hh s H)) (pss_one (ps_ret (pe_tup (pa_cons pe_str pa_nil)))), ?_⟩
 · refine ⟨fun pins s' σ H' D I h'=> ?_⟩
   obtain ⟨Ech,hW,h1,h2,h3⟩:=h'
   have hp:=act (fun cls d σ H=>σ.length=Ng.length→W cls d σ H) pn xe Ech p1 p2 (takes_len tk) (fun cls d σ' H' z hl=>hW cls d σ' H' z hl)
   have hq:=pss_one (ps_expr (pos:=p3) hp)
   exact hq.run pins s' σ H' D I ⟨h1,h2,h3⟩
 · refine ⟨fun cls d H'=>∀σ':L2.St,σ'.length=Ng.length→wMix X.K (fun _ _ _ _=>False) {nx:=fun _ _=>False,rt:=Q} (whyH l) cls d σ' H',fun cls d σ' H' z hl=>wMix_rt (K:=X.K) (D:={nx:=fun _ _=>False,rt:=Q}) (D':={nx:=tRet (tTup (tCons (tC (V.str s0)) tNil)) {nx:=fun x H'=>Q V.non H',rt:=Q},rt:=Q}) rfl l cls d σ' H' (z σ' hl),h0 f,hc, ?_⟩
   exact h
def getFs (l:List (Str×T)):List Str→Option (List T)
 | []=>some []
 | f::fs=>(l.lookup f).bind fun t=>(getFs l fs).map (t::·)
def whyX5 (em:Value→Value→Option Bool) (x:Xn) (Q:T→Prop):WhyL→Prop
 | []=>False
 | (C,s,fs)::l=>ob (em x.cls (.ref C)) fun b=>if b=true then (fs=[]∨x.cls= .ref C)∧ob (getFs x.fs fs) fun ts=>ts.length<1000∧Q (.tup (.str s::ts)) else whyX5 em x Q l
theorem fs_vals {K:PySem.W.Frag} {Hv H:Hp} {C a dd:Addr} {x:Xn} {vs:List (Str×V)} {σ:L2.St} (hσ:σ[1]? =some (some (.ref a))) (hd:H dd=some (.xd vs)) (hk:vs.map (·.1)=x.fs.map (·.1)) (hr:RepL K Hv (vs.map (·.2)) (x.fs.map (·.2))):
 ∀(fs:List Str) (ts:List T) (Q:List V→Hp→Prop),getFs x.fs fs=some ts→(∀ws,RepL K Hv ws ts→Q ws H)→tFs a (.ref C) (some dd) C fs σ H Q
 | [],ts,Q,e,q=>by
   cases e
   exact q [] .nil
 | f::fs,ts,Q,e,q=>by
   obtain ⟨t,e1,e2⟩:=Option.bind_eq_some_iff.mp (show (x.fs.lookup f).bind _=some ts from e)
   obtain ⟨ts',e3,rfl⟩:=Option.map_eq_some_iff.mp e2
   obtain ⟨v,ev,rv⟩:=lookup_rep hk hr e1
   refine ⟨_,hσ,rfl,rfl,dd,vs,v,rfl,hd,ev, ?_⟩
   exact fs_vals hσ hd hk hr fs ts' _ e3 fun ws r=>q (v::ws) (.cons rv r)
end M3
namespace M3
open PySem PySem.Spec PyProof.Rows L2
structure XCls (w:World) (K:PySem.W.Frag) (mg:Str→Option Value) (x f:Str):Prop where
 g:mg x=some (.ref ((csOf w K mg).at_ x))
 oex:OexC K ((csOf w K mg).at_ x)
 no:PySem.W.findIn K (.ref ((csOf w K mg).at_ x)) f=some none
 fn:∀fI,PySem.W.findIn K (.ref ((csOf w K mg).at_ x)) "__init__"=some (some (.ref fI))→PySem.W.isFn K (.ref fI)=true
structure MkX (P:Program) (w:World) (K:PySem.W.Frag) (mg:Str→Option Value) (base:Heap) (lv:Nat) (x f:Str):Prop where
 ex:∃fI fd ps,PySem.W.findIn K (.ref ((csOf w K mg).at_ x)) "__init__"=some (some (.ref fI))∧FnOk P w K mg base CX0 lv fI fd ps (spX1 ((csOf w K mg).at_ x) f)∧Binds K fd ps []
theorem mkX_of {P:Program} {w:World} {K:PySem.W.Frag} {mg:Str→Option Value} {base:Heap} {x f m qual:Str} {st:Stmt} {k:Nat} {ps:List Str} (D:MethAt K ((csOf w K mg).at_ x) "__init__" m qual st [] [] [])
 (hb:∀(kV doc pm:Value) (an:Option Addr) (cdv ct:Value) (us:List Value),us.length=ps.length→bindArgs (PySem.W.fnOf m qual (defArgs st) (defBody st) (defScope st) .none kV doc pm an cdv ct) ⟨us,[]⟩=pure (ps.zip us))
 (h:∀(fI:Addr) (fd:FuncData),FunD K m qual (defArgs st) (defBody st) (defScope st) [] [] fI fd→FnOk P w K mg base CX0 k fI fd ps (spX1 ((csOf w K mg).at_ x) f)):MkX P w K mg base k x f:=by
 obtain ⟨fI,fd,dvs,kvs,rd,rk,F,hm⟩:=D.ex
 have e:=(rd (fun _=>none)).len0
 have e2:=(rk (fun _=>none)).len0
 subst e e2
 exact ⟨fI,fd,ps,hm,h fI fd F,F.bindsN hb⟩
theorem pmk_X {X:Cx} {P:Program} {w:World} {K:PySem.W.Frag} {mg:Str→Option Value} {base:Heap} {x f:Str} {k:Nat} {e:Expr} {es:List Expr} {ta:TA} {p pos:Pos} (M:MkX P w K mg base k x f) (C:XCls w K mg x f) (hP:X.prog=P) (hw:X.w=w) (hK:X.K=K) (hmg:X.mg=mg) (hba:X.base=base)
 (hr:Room (k+1) X.A) (hg:Gl X x) (ha:PA X (e::es) ta) (hdb:(x==("__debug__":Str))=false:=by decide) (he:starEach (e::es) X.env=(false,eval e X.env)::starEach es X.env:=by rfl) (hpl:(backTo pos (starEach es X.env)).any (·.1)=false:=by rfl):
 PMk X (.Call (.Name x p) (e::es) [] pos) (tMkO ((csOf w K mg).at_ x) (spX1 ((csOf w K mg).at_ x) f) [] ta):=by
 subst hP hw hK hmg hba
 obtain ⟨fI,fd,ps,hm,F,B⟩:=M.ex
 exact pmk_oex C.oex hm (beq_iff_eq.mp (C.fn fI hm)) F hr B .nil pass0 hg C.g ha hdb he hpl
theorem oex_mk {K:PySem.W.Frag} {C:Addr} {nm q:Str} {N:Addr} {bs bm:List Value} {sn:List Str} {sub:List Value} {ab:Bool} {col:Option Bool} {dd:Option Addr} {k0 k1 k2 k3 k5:Option Value} (h:K.lookup C=some (excClassObj nm q C N bs bm true sn sub ab col dd k0 k1 k2 k3 k5 "ValueError.__new__")) (hb:PySem.HandSPX.refsVE bm=true)
 (sa:PySem.W.findIn K (.ref C) "__setattr__"=some (some (.builtin "object.__setattr__"))) (ex:PySem.W.subIn K (.ref C) (.type "BaseException")=some true) (ty:PySem.W.typeIn K (.ref C)=some (.type "type")) (kC:PySem.W.keepIn K (.ref C)=true):OexC K C:=
 ⟨⟨nm,q,N,bs,bm,sn,sub,ab,col,dd,k0,k1,k2,k3,k5,h,hb⟩,sa,ex,ty,kC⟩
end M3
namespace M3
open PySem PySem.Spec PyProof.Rows L2 LamX
structure LamD (N:List Str) (sc scope:Scope) (b:Str):Prop where
 kind:scope.kind= .function
 co:scope.isCoroutine=false
 gen:scope.isGenerator=false
 own:∀y∈scope.names,(y.2= .local→y.1=b)∧y.2≠ .cell
 nb:b ∉ N
 lb:scope.names.lookup b=some .local
 free:∀y∈scope.names,y.2= .free→sc.names.lookup y.1=some .cell∨sc.names.lookup y.1=some .free
theorem LamD.has {X:Cx} {N:List Str} {scope:Scope} {b:Str} (L:LamD N X.env.scope scope b) (ok:X.Ok):∀y∈scope.names,y.2= .free→∃c,X.env.cells.lookup y.1=some c:=fun y hy e=>by
 rcases L.free y hy e with k | k
 · exact ok.has _ (.inl k)
 · exact ok.has _ (.inr k)
end M3
namespace PySem
section
variable {M:Model} {A:Around} {E:Value→Shared→Prop} {env:Env} {s:Shared}
theorem noteFrame_congr {e:Value} {env env':Env} (h:env.frame=env'.frame):noteFrame e env=noteFrame e env':=by
 unfold noteFrame frameOf
 rw [h]
end
end PySem
namespace L2
open PySem PySem.Spec PyProof.Rows
theorem sans (h:Heap) (C:Addr):∃G:Heap,(∀b,b≠C→G.get? b=h.get? b)∧G.get? C=none:=by
 obtain ⟨G,g1,g2⟩:=restrict h fun b=>decide (b≠C)
 exact ⟨G,fun b hb=>g1 b (by simp [hb]),g2 C (by simp)⟩
theorem funFrames_sans {C:Addr} {B B3 h h3:Heap} (hB:∀b,b≠C→B3.get? b=B.get? b) (hh:∀b,b≠C→h3.get? b=h.get? b):∀ {l:List Env},h.FunFrames B l→(∀b∈frs l,b≠C)→h3.FunFrames B3 l
 | [],_,_=>trivial
 | env::l,x,n=>by
   obtain ⟨hk,⟨L,o,hf,hb,ho,hd⟩,hr⟩:=x
   have nL:L≠C:=n L (List.mem_filterMap.mpr ⟨env,List.mem_cons_self,hf⟩)
   exact ⟨hk,⟨L,o,hf,by rw [hB L nL];exact hb,by rw [hh L nL];exact ho,hd⟩,funFrames_sans hB hh hr fun b hb=>by
    obtain ⟨e,he,q⟩:=List.mem_filterMap.mp hb
    exact n b (List.mem_filterMap.mpr ⟨e,List.mem_cons_of_mem _ he,q⟩)⟩
theorem held_sans {C:Addr} {B B3 h h3:Heap} {l:List Env} {e L:Addr} {Z:Obj→Prop} (x:HandSPX.HeldZ B l e Z L h) (hB:∀b,b≠C→B3.get? b=B.get? b) (hC:B3.get? C=none) (hh:∀b,b≠C→h3.get? b=h.get? b)
 (n:∀b∈frs l,b≠C) {o:Obj} (ho:h.get? C=some o) (hd:∀vs,o.data≠ .fields vs):HandSPX.HeldZ B3 l e Z L h3:=by
 obtain ⟨k,ne,ff,oe,vs,T,oT,ts,he,hz,hdv,h1,nT,Te,hT,hdT,h3'⟩:=x
 have eC:e≠C:=fun q=>by rw [q,ho] at he;cases he;exact hd _ hdv
 have TC:T≠C:=fun q=>by rw [q,ho] at hT;cases hT;exact hd _ hdT
 refine ⟨fun b u q=> ?_,by rw [hB e eC];exact ne,funFrames_sans hB hh ff n,oe,vs,T,oT,ts,by rw [hh e eC];exact he,hz,hdv,h1,by rw [hB T TC];exact nT,Te,by rw [hh T TC];exact hT,hdT,h3'⟩
 have bC:b≠C:=fun z=>by rw [z,hC] at q;cases q
 rw [hB b bC] at q
 rw [hh b bC]
 exact k b u q
section
variable {X:Cx} {pins:List (Addr×Obj)} {σ:St} {H:Hp} {s s':Shared} {E:XK}
theorem fly_of_call (I:Inv X pins σ H s) {u:Value} (c:CX X.prog X.w X.stack H s E u s'):∃(a:Addr) (B:Heap) (sI:Shared) (H':Hp) (cls:Value) (d:Option Addr),
 u= .ref a∧Inv X pins σ H' sI∧(∀b o,sI.heap.get? b=some o→b ∉ frs X.stack→B.get? b=some o)∧sI.heap.UpToSlots s'.heap∧HandSPX.FlyingZ B X.stack a (Zc cls d) s'.heap∧H' a=none∧s'.os=sI.os∧AllBare s'.gens∧E cls d H':=by
 obtain ⟨a,B,H',cls,d,rfl,fl,hok,ub,na,os,ag,hE⟩:=c
 obtain ⟨G,g1,g2⟩:=restrict s'.heap fun b=>(B.get? b).isSome||decide (b∈frs X.stack)
 have st:B.StaysIn s'.heap:=fl.1
 have gB:∀b o,B.get? b=some o→G.get? b=some o:=fun b o e=>by
  rw [g1 b (by simp [e])]
  exact st b o e
 have gF:∀b,b∈frs X.stack→G.get? b=s'.heap.get? b:=fun b hb=>g1 b (by simp [hb])
 have og:∀b o,G.get? b=some o→s'.heap.get? b=some o∧((B.get? b).isSome=true∨b∈frs X.stack):=fun b o e=>by
  cases q:((B.get? b).isSome||decide (b∈frs X.stack)) with
  | false=>rw [g2 b q] at e;cases e
  | true=>
    rw [g1 b q] at e
    exact ⟨e,by simpa [Bool.or_eq_true] using q⟩
 refine ⟨a,B,{s with heap:=G,gens:=s'.gens,drawn:=s'.drawn,toks:=s'.toks},H',cls,d,rfl, ?_,fun b o e hb=> ?_,Heap.UpToSlots.of_keeps fun b o e=>(og b o e).1,fl,na,os,ag,hE⟩
 · refine I.call (ch:=[]) ⟨fun b o e n hb _=>gB b o (ub.keep b o e n hb),fun b o e n hb _=> ?_,fun b o e n _=>ub.free b o e n,fun b o e _=> ?_,ub.tups,ub.frzs,ub.tbls⟩ (hok.kept gB) ag (fun _ z=>nomatch z)
   · obtain ⟨sl,q⟩:=ub.slot b o e hb
     exact ⟨sl,by rw [gF b hb];exact q⟩
   · by_cases hb:b∈frs X.stack
     · obtain ⟨sl,q⟩:=ub.slot b o e hb
       exact ⟨_,by rw [gF b hb];exact q⟩
     · obtain ⟨o',q⟩:=ub.there b o e hb
       exact ⟨o',gB b o' q⟩
 · obtain ⟨e',h⟩:=og b o e
   rcases h with h | h
   · obtain ⟨o',q⟩:=Option.isSome_iff_exists.mp h
     have z:=st b o' q
     rw [e'] at z;cases z
     exact q
   · exact absurd h hb
end
end L2
namespace L2
open PySem PySem.Spec PyProof.Rows
end L2
set_option maxHeartbeats 200000
namespace L2
open PySem PySem.Spec PyProof.Rows
def mrgK (kvs more:List (Key×V)):List (Key×V):=more.foldl (fun m kv=>putK m kv.1 kv.2) kvs
abbrev PrsV (K:PySem.W.Frag) (H:Hp):List Addr→List (Key×V)→Prop:=Paired fun t kv=>SqT K H t [kV kv.1,kv.2]
theorem kv_merge:∀ {more:List (Key×V)} {more':List (Key×Value)} {kvs:List (Key×V)} {vs:List (Key×Value)},KV more more'→KV kvs vs→KV (mrgK kvs more) (merged vs more')
 | [],_,_,_,.nil,r=>r
 | p::more,_,_,_,.cons h t,r=>by
   rename_i q more'
   show KV (mrgK (putK _ p.1 p.2) more) (merged (stored _ q.1 q.2) more')
   rw [←h.1]
   exact kv_merge t (r.put p.1 h.2)
section
variable {X:Cx} {K:PySem.W.Frag}
theorem prs_build {pins:List (Addr×Obj)} {s:Shared} {σ:St} {H:Hp} (I:Inv X pins σ H s):∀ {ts:List Addr} {kvs:List (Key×V)},PrsV X.K H ts kvs→∃(ps:List (Value×Value)) (kvs':List (Key×Value)),ps.length=ts.length∧KV kvs kvs'∧kvs'.length=ps.length∧
 (∀(j:Nat) (k v:Value),ps[j]? =some (k,v)→PairAt s.heap (ts.getD j 0) k v)∧(∀(j:Nat) (k v:Value),ps[j]? =some (k,v)→∃key:Key,kvs'[j]? =some (key,v)∧(mixKind X.prog X.w).is key k=true):=by
 intro ts kvs hp
 induction hp with
 | nil=>exact ⟨[],[],rfl,Paired.nil,rfl,fun j k v h=>absurd h (by simp),fun j k v h=>absurd h (by simp)⟩
 | cons h r ih=>
   rename_i t kv ts kvs
   obtain ⟨ps,kvs',l1,r1,l2,h1,h2⟩:=ih
   obtain ⟨its,rv,it,_⟩:=I.tuple h
   cases rv with
   | cons rk r'=>
     rename_i uk us
     cases r' with
     | cons rv r''=>
       rename_i uv us
       cases r'' with
       | nil=>
         refine ⟨(uk,uv)::ps,(kv.1,uv)::kvs',by simp [l1],Paired.cons ⟨rfl,rv⟩ r1,by simp [l2], ?_, ?_⟩
         · intro j k v e
           cases j with
           | zero=>
             have e:(uk,uv)=(k,v):=by simpa using e
             cases e
             exact Or.inl it
           | succ j=>exact h1 j k v (by simpa using e)
         · intro j k v e
           cases j with
           | zero=>
             have e:(uk,uv)=(k,v):=by simpa using e
             cases e
             exact ⟨kv.1,rfl,kV_is rk⟩
           | succ j=>exact h2 j k v (by simpa using e)
theorem vals_refs:∀ {ts:List Addr} {its:List Value},Vals (ts.map V.ref) its→its=ts.map Value.ref
 | [],_,.nil=>rfl
 | t::ts,_,.cons h r=>by
   cases h
   rw [vals_refs r]
   rfl
end
end L2
set_option maxHeartbeats 1000000
namespace M3
open PySem PySem.Spec L2
def valT (ts:List (Key×T)) (k:Key):Option T:=(ts.find? fun kv=>decide (kv.1=k)).map (·.2)
def putT (ts:List (Key×T)) (k:Key) (v:T):List (Key×T):=
 if (ts.any fun kv=>decide (kv.1=k))=true then ts.map (fun kv=>if kv.1=k then (kv.1,v) else kv) else ts++[(k,v)]
def mrgT (ts more:List (Key×T)):List (Key×T):=more.foldl (fun m kv=>putT m kv.1 kv.2) ts
def asD:T→Option (List (Key×T))
 | .dic ts=>some ts
 | _=>none
theorem asD_is {d:T} {ts:List (Key×T)} (h:asD d=some ts):d= .dic ts:=by
 cases d<;>simp [asD] at h<;>subst h<;>rfl
def asK:T→Option Key
 | .str z=>some (.inr z)
 | .int i=>some (.inl i)
 | _=>none
def prs:List T→Option (List (Key×T))
 | []=>some []
 | .tup [.str z,v]::r=>(prs r).map ((.inr z,v)::·)
 | _=>none
section
variable {K:PySem.W.Frag} {H:Hp}
abbrev RepD (K:PySem.W.Frag) (H:Hp):List (Key×V)→List (Key×T)→Prop:=Paired fun p q=>p.1=q.1∧Rep K H p.2 q.2
theorem RepD.any {kvs:List (Key×V)} {ts:List (Key×T)} (r:RepD K H kvs ts) (k:Key):(kvs.any fun kv=>decide (kv.1=k))=ts.any fun kv=>decide (kv.1=k):=by
 induction r with
 | nil=>rfl
 | cons h _ ih=>simp only [List.any_cons,ih,h.1]
theorem RepD.app {kvs kvs':List (Key×V)} {ts ts':List (Key×T)} (r:RepD K H kvs ts) (r':RepD K H kvs' ts'):RepD K H (kvs++kvs') (ts++ts'):=by
 induction r with
 | nil=>exact r'
 | cons h _ ih=>exact .cons h ih
theorem RepD.repl {kvs:List (Key×V)} {ts:List (Key×T)} (r:RepD K H kvs ts) (k:Key) {v:V} {t:T} (rv:Rep K H v t):RepD K H (kvs.map fun kv=>if kv.1=k then (kv.1,v) else kv) (ts.map fun kv=>if kv.1=k then (kv.1,t) else kv):=by
 induction r with
 | nil=>exact .nil
 | cons h _ ih=>
   rename_i p q _ _ _
   refine .cons ?_ ih
   dsimp only
   by_cases e:p.1=k
   · have e':q.1=k:=h.1 ▸ e
     rw [if_pos e,if_pos e']
     exact ⟨h.1,rv⟩
   · have e':¬q.1=k:=h.1 ▸ e
     rw [if_neg e,if_neg e']
     exact h
theorem RepD.put {kvs:List (Key×V)} {ts:List (Key×T)} (r:RepD K H kvs ts) (k:Key) {v:V} {t:T} (rv:Rep K H v t):RepD K H (putK kvs k v) (putT ts k t):=by
 unfold putK putT
 rw [r.any k]
 split
 · exact r.repl k rv
 · exact r.app (.cons ⟨rfl,rv⟩ .nil)
theorem RepD.mrg {more:List (Key×V)} {more':List (Key×T)} (m:RepD K H more more'):∀ {kvs:List (Key×V)} {ts:List (Key×T)},RepD K H kvs ts→RepD K H (mrgK kvs more) (mrgT ts more'):=by
 induction m with
 | nil=>exact fun r=>r
 | cons h _ ih=>
   intro kvs ts r
   rename_i p q more more' _
   show RepD K H (mrgK (putK kvs p.1 p.2) more) (mrgT (putT ts q.1 q.2) more')
   rw [←h.1]
   exact ih (r.put p.1 h.2)
theorem RepD.val {kvs:List (Key×V)} {ts:List (Key×T)} (r:RepD K H kvs ts) {k:Key} {t:T} (h:valT ts k=some t):∃v,valV kvs k=some v∧Rep K H v t:=by
 induction r with
 | nil=>simp [valT] at h
 | cons e _ ih=>
   rename_i p q kvs ts _
   by_cases c:q.1=k
   · have:q.2=t:=by simpa [valT,List.find?_cons,c] using h
     subst this
     exact ⟨p.2,valV_pos (e.1.trans c),e.2⟩
   · have h':valT ts k=some t:=by simpa [valT,List.find?_cons,c] using h
     obtain ⟨v,hv,rv⟩:=ih h'
     exact ⟨v,by rw [valV_neg (fun z=>c (e.1.symm.trans z))];exact hv,rv⟩
theorem RepD.mono {H':Hp} {kvs:List (Key×V)} {ts:List (Key×T)} (r:RepD K H kvs ts) (e:Same H H'):RepD K H' kvs ts:=by
 induction r with
 | nil=>exact .nil
 | cons h _ ih=>exact .cons ⟨h.1,h.2.mono e⟩ ih
theorem repD_mk:∀ {kvs:List (Key×V)} {ts:List (Key×T)},kvs.map (·.1)=ts.map (·.1)→(∀(i:Nat) v t,(kvs.map (·.2))[i]? =some v→(ts.map (·.2))[i]? =some t→Rep K H v t)→RepD K H kvs ts
 | [],[],_,_=>.nil
 | p::kvs,q::ts,h1,h2=>by
   simp only [List.map_cons,List.cons.injEq] at h1
   exact .cons ⟨h1.1,h2 0 _ _ rfl rfl⟩ (repD_mk h1.2 fun i v t a b=>h2 (i+1) v t (by simpa using a) (by simpa using b))
 | [],_::_,h,_=>by simp at h
 | _::_,[],h,_=>by simp at h
theorem RepD.keys {kvs:List (Key×V)} {ts:List (Key×T)} (r:RepD K H kvs ts):kvs.map (·.1)=ts.map (·.1):=by
 induction r with
 | nil=>rfl
 | cons h _ ih=>simp only [List.map_cons,ih,h.1]
theorem RepD.at {kvs:List (Key×V)} {ts:List (Key×T)} (r:RepD K H kvs ts):∀(i:Nat) v t,(kvs.map (·.2))[i]? =some v→(ts.map (·.2))[i]? =some t→Rep K H v t:=by
 induction r with
 | nil=>intro i v t h;simp at h
 | cons h _ ih=>
   rename_i p q _ _ _
   intro i v t a b
   cases i with
   | zero=>
     have a:p.2=v:=by simpa using a
     have b:q.2=t:=by simpa using b
     subst a b
     exact h.2
   | succ i=>exact ih i v t (by simpa using a) (by simpa using b)
theorem Rep.dicI {v:V} {ts:List (Key×T)} (r:Rep K H v (.dic ts)):∃a o kvs,v= .ref a∧H a=some (.frz o (.dK kvs))∧RepD K H kvs ts:=by
 cases r with
 | dic h hk hr=>exact ⟨_,_,_,rfl,h.choose_spec,repD_mk hk hr⟩
theorem prs_rep {vs:List V}:∀ {ds:List T} {ts:List (Key×T)},RepL K H vs ds→prs ds=some ts→∃(as:List Addr) (kvs:List (Key×V)),vs=as.map V.ref∧PrsV K H as kvs∧RepD K H kvs ts:=by
 intro ds ts r
 induction r generalizing ts with
 | nil=>
   intro h
   cases h
   exact ⟨[],[],rfl,.nil,.nil⟩
 | cons h _ ih=>
   intro hp
   unfold prs at hp
   split at hp
   · rename_i heq;cases heq
   · rename_i z v r heq
     cases heq
     obtain ⟨ts',e1,rfl⟩:=Option.map_eq_some_iff.mp hp
     obtain ⟨as,kvs,rfl,p1,p2⟩:=ih e1
     obtain ⟨a,us,rfl,hs,rl⟩:=h.tupI
     cases rl with
     | cons r1 rl=>
       cases rl with
       | cons r2 rl=>
         cases rl with
         | nil=>
           rename_i u1 u2
           cases r1.strI
           exact ⟨a::as,(.inr z,u2)::kvs,rfl,.cons hs p1,.cons ⟨rfl,r2⟩ p2⟩
   · cases hp
def dict3:List T→(T→Prop)→Prop:=fun xs Q=>ob (one xs) fun x=>ob (asL x) fun ds=>ob (prs ds) fun ts=>Q (.dic (mrgT [] ts))
def dget3 (a b:E3):E3:=fun σ Q X=>a σ (fun x=>b σ (fun y=>ob (asD x) fun ts=>ob (asK y) fun k=>ob (valT ts k) Q) X) X
theorem asK_rep {v:V} {t:T} {k:Key} (r:Rep K H v t) (h:asK t=some k):v=kV k:=by
 cases t<;>simp [asK] at h
 · subst h;exact r.intI
 · subst h;exact r.strI
theorem lift_dget {c:Cf} {W:WX} {ta tb:TE} {a b:E3} (ha:Lift K c W ta a) (hb:Lift K c W tb b):Lift K c W (tDGet ta tb) (dget3 a b):=by
 intro σ3 Q3 X h Hb G A σ H Q R k e
 refine ha _ _ _ h Hb G A σ H _ R (fun vx x H1 L1 rx hx=> ?_) e
 refine hb _ _ _ hx Hb G A σ H1 _ (R.le L1) (fun vy y H2 L2 ry hy=> ?_) (fun cls dd x H' L=>e cls dd x H' (L1.trans L))
 obtain ⟨ts,ed,h1⟩:=ob_iff.mp hy
 obtain ⟨ky,ek,h2⟩:=ob_iff.mp h1
 obtain ⟨t,ev,q⟩:=ob_iff.mp h2
 cases asD_is ed
 obtain ⟨a,o,kvs,rfl,hd,rd⟩:=(rx.mono L2.vis).dicI
 obtain ⟨v,hv,rv⟩:=rd.val ev
 exact ⟨a,v,rfl,.inl ⟨kvs,ky,.inr ⟨o,hid_same _ _ hd⟩,asK_rep ry ek,hv.symm⟩,k v t H2 (L1.trans L2) rv q⟩
def keyT:Key→T
 | .inl i=>.int i
 | .inr z=>.str z
theorem rep_key (k:Key):Rep K H (kV k) (keyT k):=by
 cases k with
 | inl i=>exact .int i
 | inr z=>exact .str z
def iterD3 (a:E3):A3:=fun σ Q X=>a σ (fun d=>ob (asD d) fun ts=>Q (ts.map fun kv=>keyT kv.1)) X
theorem RepD.length {kvs:List (Key×V)} {ts:List (Key×T)} (r:RepD K H kvs ts):kvs.length=ts.length:=by
 induction r with
 | nil=>rfl
 | cons _ _ ih=>simp [ih]
theorem RepD.key {kvs:List (Key×V)} {ts:List (Key×T)} (r:RepD K H kvs ts) {i:Nat} {k:Key} {v:V} {d:T} (h:kvs[i]? =some (k,v)) (h':(ts.map fun kv=>keyT kv.1)[i]? =some d):d=keyT k:=by
 have e:=r.keys
 have e1:(kvs.map (·.1))[i]? =some k:=by rw [List.getElem?_map,h];rfl
 rw [e,List.getElem?_map] at e1
 rw [List.getElem?_map] at h'
 cases z:ts[i]? with
 | none=>rw [z] at h';cases h'
 | some q=>
   rw [z] at h' e1
   cases h'
   cases e1
   rfl
theorem walks_keys {V0:Hp} {a:Addr} {o:Obj} {kvs:List (Key×V)} {ts:List (Key×T)} (h:V0 a=some (.frz o (.dK kvs))) (r:RepD K V0 kvs ts):Walks K V0 (Itk a o kvs) (ts.map fun kv=>keyT kv.1) where
 go:=fun i d S H hd e=>by
  have:=(List.getElem?_eq_some_iff.mp hd).1
  exact ⟨hid_same _ _ (e _ _ h),by rw [r.length];simpa using this⟩
 yld:=fun i d S H x H' hd e _ y=>by
  obtain ⟨rfl,k,v,hk,rfl⟩:=y
  cases r.key hk hd
  exact ⟨.inl rfl,.inl (rep_key k)⟩
 stop:=fun S H e=>⟨hid_same _ _ (e _ _ h),by rw [List.length_map,r.length];exact Nat.le_refl _⟩
theorem lift_iD {c:Cf} {W:WX} {ta:TE} {a:E3} (ha:Lift K c W ta a):LiftI K c W (iKeys ta) (iterD3 a):=by
 intro σ3 Q3 X h Hb G A σ H R' R k e
 refine ha _ _ _ h Hb G A σ H _ R (fun v d H1 L1 r q=> ?_) e
 obtain ⟨ts,ed,q1⟩:=ob_iff.mp q
 cases asD_is ed
 obtain ⟨a,o,kvs,rfl,hd,rd⟩:=r.dicI
 exact ⟨a,o,rfl,.inl ⟨kvs,hid_same _ _ hd,k _ _ H1 L1 (walks_keys hd rd) q1⟩⟩
end
end M3
namespace L2
open PySem PySem.Spec
end L2
set_option maxHeartbeats 1000000
namespace M3
open PySem L2
end M3
set_option maxHeartbeats 1000000
namespace M3
open PySem L2
structure ClM (P:Program) (w:World) (K:PySem.W.Frag) (mg:Str→Option Value) (base:Heap) (CX:CXT) (C:Addr) (m:Str) (k:Nat) (dvs:List V) (sp:Sp):Prop where
 ex:∃(f:Addr) (fd:FuncData) (ps:List Str) (ds:List Value),FnOk P w K mg base CX k f fd ps sp∧Meth K C m f∧Binds K fd ps ds∧Vals dvs ds
structure ClMT (P:Program) (w:World) (K:PySem.W.Frag) (mg:Str→Option Value) (base:Heap) (CX:CXT) (C:Addr) (m:Str) (k:Nat) (dts:List T) (sp:Sp):Prop where
 ex:∃dvs,(∀H,RepL K H dvs dts)∧ClM P w K mg base CX C m k dvs sp
section
variable {P:Program} {w:World} {K:PySem.W.Frag} {mg:Str→Option Value} {base:Heap} {CX:CXT} {C:Addr} {m x qual:Str} {st:Stmt} {dts kts:List T} {kns:List Str} {lv:Nat} {ps:List Str} {sp:Sp}
theorem OkM.clM (O:OkM P w K mg base CX C m x qual st [] kns kts lv ps sp) (hf:∀f,PySem.W.findIn K (.ref C) m=some (some (.ref f))→PySem.W.isFn K (.ref f)=true)
 (h:∀(kV doc pm:Value) (an:Option Addr) (cdv ct:Value) (us:List Value),us.length=ps.length→bindArgs (PySem.W.fnOf x qual (defArgs st) (defBody st) (defScope st) .none kV doc pm an cdv ct) ⟨us,[]⟩=pure (ps.zip us)):ClMT P w K mg base CX C m lv [] sp:=by
 obtain ⟨f,fd,dvs,kvs,rd,rk,F,hm,O⟩:=O.ex
 have e:=(rd (fun _=>none)).len0
 subst e
 exact ⟨[],fun _=>.nil,f,fd,ps,[],O,⟨hm,hf f hm,F.kp⟩,F.bindsN h,.nil⟩
end
section
variable {X:Cx} {CX:CXT} {k:Nat} {C:Addr} {m:Str} {sp:Sp} {dvs:List V} {E:XK} {pos apos:Pos} {o e:Expr} {es:List Expr} {ta:TE} {t:TA}
theorem pe_clM {pl:Sem Bool} (M:ClM X.prog X.w X.K X.mg X.base CX C m k dvs sp) (c:Cls X.K C) (hr:Room k X.A) (hx:Passes CX X E) (ho:PE X o ta) (ha:PA X (e::es) t)
 (hst:starEach (e::es) X.env=(false,eval e X.env)::starEach es X.env:=by rfl) (hpl:(backTo pos (starEach es X.env)).any (·.1)=false:=by rfl)
 (ht:eval (.Call (.Attribute o m apos) (e::es) [] pos) X.env=(do
   let ov ←eval o X.env
   standAt apos.atName
   let (f,first) ←holding [ov] (getMethod ov m pl)
   callWith pos f first (backTo pos (starEach (e::es) X.env)) (backToKw pos (keywordEach [] X.env))):=by rfl):
 PE X (.Call (.Attribute o m apos) (e::es) [] pos) (tMeth C m sp dvs E ta t):=by
 obtain ⟨f,fd,ps,ds,F,hm,hb,hd⟩:=M.ex
 exact pe_meth ho c hm F hr hb hd hx ha hst hpl ht
theorem pe_clM0 {pl:Sem Bool} (M:ClM X.prog X.w X.K X.mg X.base CX C m k dvs sp) (c:Cls X.K C) (hr:Room k X.A) (hx:Passes CX X E) (ho:PE X o ta)
 (ht:eval (.Call (.Attribute o m apos) [] [] pos) X.env=(do
   let ov ←eval o X.env
   standAt apos.atName
   let (f,first) ←holding [ov] (getMethod ov m pl)
   callWith pos f first (backTo pos (starEach [] X.env)) (backToKw pos (keywordEach [] X.env))):=by rfl):
 PE X (.Call (.Attribute o m apos) [] [] pos) (tMeth C m sp dvs E ta tNil):=by
 obtain ⟨f,fd,ps,ds,F,hm,hb,hd⟩:=M.ex
 exact pe_meth0 ho c hm F hr hb hd hx ht
end
def meth3 (C:Addr) (m:Str) (n:Nat) (f:F3) (a:E3) (x:A3) (dts:List T):E3:=fun σ Q X=>a σ (fun d=>ob (asIns d) fun p=>p.1=C∧p.2.lookup m=none∧x σ (fun ds=>(d::(ds++dts)).length=n∧f (d::(ds++dts)) Q X) X) X
theorem lookup_none_keys {α β:Type} {m:Str}:∀ {fs:List (Str×α)} {ts:List (Str×β)},fs.map (·.1)=ts.map (·.1)→ts.lookup m=none→fs.lookup m=none
 | [],[],_,_=>rfl
 | p::fs,q::ts,h,e=>by
   obtain ⟨pa,pb⟩:=p
   obtain ⟨qa,qb⟩:=q
   simp only [List.map_cons,List.cons.injEq] at h
   obtain ⟨rfl,h⟩:=h
   simp only [List.lookup] at e ⊢
   cases z:m==pa with
   | true=>rw [z] at e;cases e
   | false=>rw [z] at e;exact lookup_none_keys h e
 | [],_::_,h,_=>by simp at h
 | _::_,[],h,_=>by simp at h
section
variable {K:PySem.W.Frag} {c:Cf} {W:WX} {E:XK} {ta:TE} {a:E3} {t:TA} {x:A3} {C:Addr} {m:Str} {n:Nat} {f:F3} {dvs:List V} {dts:List T}
theorem lift_meth (hE:∀cls dd σ H,W cls dd σ H→E cls dd H) (ha:Lift K c W ta a) (hx:LiftA K c W t x) (hd:∀H,RepL K H dvs dts):Lift K c W (tMeth C m (sp3 K n f) dvs E ta t) (meth3 C m n f a x dts):=by
 intro σ3 Q3 X h Hb G A σ H Q R k e
 refine ha _ _ _ h Hb G A σ H _ R (fun v d H1 L1 r q=> ?_) e
 obtain ⟨⟨C',ts⟩,ed,e1,hl,q1⟩:=ob_iff.mp q
 cases asIns_is ed
 cases e1
 obtain ⟨p,dx,fs,rfl,hp,hk,hr⟩:=r.insI
 refine ⟨p,dx,fs,rfl,hid_same _ _ hp,lookup_none_keys hk hl, ?_⟩
 refine hx _ _ _ q1 Hb G A σ H1 _ (R.le L1) (fun vs ds H2 L2 rx hh=> ?_) (fun cls dd x H' L=>e cls dd x H' (L1.trans L))
 exact sp3_call ((R.le L1).le L2) (.cons (r.mono L2.vis) (rx.append (hd _))) hh.1 hh.2 (fun v d H' L r q=>k v d H' ((L1.trans L2).trans L) r q) (fun cls dd x H' L r q=>hE _ _ σ _ (e cls dd x H' ((L1.trans L2).trans L) r q))
end
end M3
set_option maxHeartbeats 1000000
namespace LamX
open PySem PySem.Spec PyProof.Rows L2
end LamX
set_option maxHeartbeats 1000000
namespace M3
open PySem L2
theorem r3_startG {K:PySem.W.Frag} {c:Cf} {H:Hp} {G:List Addr} {N:List Str} {vs:List V} {ds:List T} (hI:c.I H) (hG:∀a∈G,H a≠none∧a ∉ c.S0) (hV:∀a∈G,∀o,H a=some o→c.gOk o) (r:RepL K (hid (c.S0++G) H) vs ds):
 R3 K c H G (List.replicate ((start3 N.length ds).length) none) (start3 N.length ds) (start N vs) H:=by
 have hA:addrs (List.replicate ((start3 N.length ds).length) none)=[]:=by
  unfold addrs
  rw [List.filterMap_replicate_of_none rfl]
 have hS:c.S G (List.replicate ((start3 N.length ds).length) none)=c.S0++G:=by
  unfold Cf.S
  rw [hA,List.append_nil]
 have hl:=r.length
 refine ⟨hI,by rw [hS];exact Same.refl _,fun a h=>⟨rfl,hG a h⟩,hV,by rw [hA];exact List.nodup_nil,(by rw [hA];intro a h;cases h),(by simp),(by rw [start_eq];unfold start3;simp [hl]), ?_⟩
 rw [hS]
 intro i s o x h1 h2 h3
 have ho:o=none:=by
  have:=List.mem_of_getElem? h2
  exact (List.mem_replicate.mp this).2
 subst ho
 unfold start3 at h1
 rw [start_eq] at h3
 by_cases hi:i<ds.length
 · rw [List.getElem?_append_left (by simpa using hi),List.getElem?_map] at h1
   rw [List.getElem?_append_left (by rw [List.length_map,hl];exact hi),List.getElem?_map] at h3
   cases e1:ds[i]? with
   | none=>rw [e1] at h1;cases h1
   | some d=>
     rw [e1] at h1
     cases h1
     obtain ⟨v,e2,rv⟩:=r.get e1
     rw [e2] at h3
     cases h3
     exact ⟨rfl,v,rfl,rv⟩
 · rw [List.getElem?_append_right (by simpa using hi)] at h1
   have:=List.mem_of_getElem? h1
   have hs:=(List.mem_replicate.mp this).2
   subst hs
   rfl
end M3
set_option maxHeartbeats 1000000
namespace L2
open PySem PySem.Spec PyProof.Rows
theorem Room.units65 {k:Nat} {A:Around} (r:Room k A):A.units+65<cLine:=by have:=r.un;omega
end L2
namespace M3
open PySem L2
end M3
namespace M3
open PySem L2
end M3
namespace M3
open PySem L2
abbrev Mem:=Addr→Option T
def mset (M:Mem) (a:Addr) (t:Option T):Mem:=fun b=>if b=a then t else M b
@[simp] theorem mset_same {M:Mem} {a:Addr} {t:Option T}:mset M a t a=t:=by unfold mset;rw [if_pos rfl]
theorem mset_ne {M:Mem} {a b:Addr} {t:Option T} (h:b≠a):mset M a t b=M b:=by unfold mset;rw [if_neg h]
abbrev XM:=Xn→Mem→Prop
abbrev G4 (β:Type):=List Sl→Mem→(β→Mem→Prop)→XM→Prop
abbrev E4:=G4 T
abbrev B4:=G4 Bool
abbrev A4:=G4 (List T)
def CellRep (K:PySem.W.Frag) (Hv H:Hp) (a:Addr):T→Prop
 | .lst xs=>∃vs,H a=some (.lst vs)∧RepL K Hv vs xs
 | .dic kvs=>∃ks,H a=some (.dK ks)∧ks.map (·.1)=kvs.map (·.1)∧RepL K Hv (ks.map (·.2)) (kvs.map (·.2))
 | .ins C fs=>∃dx ks,H a=some (.ins C dx ks)∧ks.map (·.1)=fs.map (·.1)∧RepL K Hv (ks.map (·.2)) (fs.map (·.2))
 | _=>False
section
variable {K:PySem.W.Frag} {Hv Hv' H H':Hp} {a:Addr} {t:T}
theorem CellRep.mono (r:CellRep K Hv H a t) (e:Same Hv Hv') (h:H' a=H a):CellRep K Hv' H' a t:=by
 cases t with
 | lst xs=>obtain ⟨vs,h1,h2⟩:=r;exact ⟨vs,h.trans h1,h2.mono e⟩
 | dic kvs=>obtain ⟨ks,h1,h2,h3⟩:=r;exact ⟨ks,h.trans h1,h2,h3.mono e⟩
 | ins C fs=>obtain ⟨dx,ks,h1,h2,h3⟩:=r;exact ⟨dx,ks,h.trans h1,h2,h3.mono e⟩
 | _=>exact r.elim
theorem CellRep.obj (r:CellRep K Hv H a t):∃o,H a=some o∧vis o=true∧∀φ,o≠ .ext φ:=by
 cases t with
 | lst xs=>obtain ⟨vs,h1,_⟩:=r;exact ⟨_,h1,rfl,fun _ z=>by cases z⟩
 | dic kvs=>obtain ⟨ks,h1,_⟩:=r;exact ⟨_,h1,rfl,fun _ z=>by cases z⟩
 | ins C fs=>obtain ⟨dx,ks,h1,_⟩:=r;exact ⟨_,h1,rfl,fun _ z=>by cases z⟩
 | _=>exact r.elim
end
structure Cells (K:PySem.W.Frag) (S L:List Addr) (M:Mem) (H:Hp):Prop where
 on:∀a,a∈L↔M a≠none
 off:∀a∈L,a ∉ S
 at_:∀a t,M a=some t→CellRep K (hid (S++L) H) H a t
theorem Cells.obj {K:PySem.W.Frag} {S L:List Addr} {M:Mem} {H:Hp} (c:Cells K S L M H) {a:Addr} (h:a∈L):∃o,H a=some o∧vis o=true∧∀φ,o≠ .ext φ:=by
 cases e:M a with
 | none=>exact absurd e ((c.on a).mp h)
 | some t=>exact (c.at_ a t e).obj
abbrev nons (n:Nat):List (Option Addr):=List.replicate n none
theorem addrs_nons (n:Nat):addrs (nons n)=[]:=by
 unfold addrs
 rw [List.filterMap_replicate_of_none rfl]
theorem S_nons {c:Cf} {G L:List Addr} {n:Nat}:c.S (G++L) (nons n)=c.S0++G++L:=by
 unfold Cf.S
 rw [addrs_nons,List.append_nil,List.append_assoc]
theorem nons_of {A:List (Option Addr)} (h:∀a,a ∉ addrs A):A=nons A.length:=by
 refine List.eq_replicate_iff.mpr ⟨rfl,fun o ho=> ?_⟩
 cases o with
 | none=>rfl
 | some a=>exact absurd (mem_addrs.mpr ho) (h a)
abbrev vs4 (c:Cf) (G L:List Addr) (H:Hp):Hp:=hid (c.S0++G++L) H
theorem R3.re {K:PySem.W.Frag} {c:Cf} {Hb H:Hp} {Y:List Addr} {n:Nat} {σ3:List Sl} {σ:St} (r:R3 K c Hb Y (nons n) σ3 σ H):R3 K c H Y (nons n) σ3 σ H:=by
 refine ⟨r.inv, ?_,fun a h=>⟨rfl,(r.gk a h).2⟩,r.gv,r.nd,r.ns,r.l1,r.l2,r.at_⟩
 have e:c.S Y (nons n)=c.S0++Y:=by
  unfold Cf.S
  rw [addrs_nons,List.append_nil]
 rw [e]
 exact Same.refl _
structure R4 (K:PySem.W.Frag) (c:Cf) (Hb:Hp) (G L0 L:List Addr) (M:Mem) (σ3:List Sl) (σ:St) (H:Hp):Prop where
 r3:R3 K c H (G++L) (nons σ3.length) σ3 σ H
 base:Same (vs4 c G L0 Hb) (vs4 c G L H)
 gk:∀a∈G,H a=Hb a
 cells:Cells K (c.S0++G) L M H
section
variable {K:PySem.W.Frag} {c:Cf} {Hb H H':Hp} {G L0 L L':List Addr} {M M':Mem} {σ3:List Sl} {σ:St} {v:V} {t:T}
theorem Le.vis4 {n:Nat} (l:Le c (G++L) (nons n) H H'):Same (vs4 c G L H) (vs4 c G L H'):=by
 have:=l.vis
 rwa [S_nons] at this
theorem R4.le (r:R4 K c Hb G L0 L M σ3 σ H) (l:Le c (G++L) (nons σ3.length) H H'):R4 K c Hb G L0 L M σ3 σ H' where
 r3:=(r.r3.le l).re
 base:=Same.trans r.base l.vis4
 gk:=fun a h=>(l.own a (by simp [h])).trans (r.gk a h)
 cells:=⟨r.cells.on,r.cells.off,fun a t e=>(r.cells.at_ a t e).mono l.vis4 (l.own a (by simp [(r.cells.on a).mpr (by rw [e];intro z;cases z)]))⟩
theorem R4.rep {n:Nat} {u:V} {d:T} (h:Rep K (hid (c.S (G++L) (nons n)) H) u d):Rep K (vs4 c G L H) u d:=by rwa [S_nons] at h
theorem R4.step (r:R4 K c Hb G L0 L M σ3 σ H) (hi:c.I H') (hv:Same (vs4 c G L H) (vs4 c G L' H')) (hg:∀a∈G,H' a=H a) (hc:Cells K (c.S0++G) L' M' H'):R4 K c Hb G L0 L' M' σ3 σ H' where
 r3:=by
  have e0:∀n,hid (c.S (G++L) (nons n)) H=vs4 c G L H:=fun n=>by rw [S_nons]
  refine ⟨hi, ?_,fun a h=>⟨rfl, ?_⟩,fun a h o e=> ?_,by rw [addrs_nons];exact List.nodup_nil,(by rw [addrs_nons];intro a h;cases h),r.r3.l1,r.r3.l2, ?_⟩
  · rw [S_nons, ←List.append_assoc]
    exact Same.refl _
  · rcases List.mem_append.mp h with h | h
    · rw [hg a h]
      exact (r.r3.gk a (by simp [h])).2
    · obtain ⟨o,e,_⟩:=hc.obj h
      exact ⟨(by rw [e];intro z;cases z),fun z=>hc.off a h (by simp [z])⟩
  · rcases List.mem_append.mp h with h | h
    · exact r.r3.gv a (by simp [h]) o (by rw [←hg a h];exact e)
    · obtain ⟨o',e',v',_⟩:=hc.obj h
      rw [e'] at e
      cases e
      exact c.gV _ v'
  · intro i s o x h1 h2 h3
    have z:=r.r3.at_ i s o x h1 h2 h3
    rw [e0] at z
    rw [S_nons]
    cases s with
    | no=>exact z
    | val t=>obtain ⟨e,v,e2,q⟩:=z;exact ⟨e,v,e2,q.mono hv⟩
    | own t=>
      obtain ⟨a,e,_⟩:=z
      have:=(List.mem_replicate.mp (List.mem_of_getElem? h2)).2
      rw [this] at e
      cases e
 base:=Same.trans r.base hv
 gk:=fun a h=>(hg a h).trans (r.gk a h)
 cells:=hc
theorem R4.rebase (r:R4 K c Hb G L0 L M σ3 σ H):R4 K c H G L L M σ3 σ H:=⟨r.r3,Same.refl _,fun _ _=>rfl,r.cells⟩
theorem R4.debase {L1:List Addr} {M1:Mem} {σ1:List Sl} {σ1':St} {H1:Hp} (r1:R4 K c Hb G L0 L1 M1 σ1 σ1' H1) (r:R4 K c H1 G L1 L M σ3 σ H):R4 K c Hb G L0 L M σ3 σ H:=
 ⟨r.r3,Same.trans r1.base r.base,fun a h=>(r.gk a h).trans (r1.gk a h),r.cells⟩
theorem R4.slots {σ3':List Sl} {σ':St} {A':List (Option Addr)} (r:R4 K c Hb G L0 L M σ3 σ H) (q:R3 K c H (G++L) A' σ3' σ' H) (hA:∀a,a ∉ addrs A'):R4 K c Hb G L0 L M σ3' σ' H where
 r3:=by
  have e:=nons_of hA
  rw [q.l1] at e
  rw [e] at q
  exact q
 base:=r.base
 gk:=r.gk
 cells:=r.cells
end
def LiftG4 (K:PySem.W.Frag) (c:Cf) (W:WX) {α β:Type} (rel:Hp→α→β→Prop) (te:St→Hp→(α→Hp→Prop)→Prop) (t:G4 β):Prop:=
 ∀σ3 M Q4 X,t σ3 M Q4 X→∀Hb G L0 L σ H Q,R4 K c Hb G L0 L M σ3 σ H→
  (∀v d L' M' H',R4 K c Hb G L0 L' M' σ3 σ H'→Same (vs4 c G L H) (vs4 c G L' H')→rel (vs4 c G L' H') v d→Q4 d M'→Q v H')→
  (∀cls dd x L' M' H',R4 K c Hb G L0 L' M' σ3 σ H'→Same (vs4 c G L H) (vs4 c G L' H')→XRep K (vs4 c G L' H') cls dd x→X x M'→W cls dd σ H')→te σ H Q
abbrev Lift4 (K:PySem.W.Frag) (c:Cf) (W:WX) (te:TE) (t:E4):Prop:=LiftG4 K c W (Rep K) te t
abbrev LiftT4 (K:PySem.W.Frag) (c:Cf) (W:WX) (te:TT) (t:B4):Prop:=LiftG4 K c W (fun _ (b b':Bool)=>b=b') te t
abbrev LiftA4 (K:PySem.W.Frag) (c:Cf) (W:WX) (te:TA) (t:A4):Prop:=LiftG4 K c W (RepL K) te t
def pu {β:Type} (t:G3 β):G4 β:=fun σ M Q X=>t σ (fun d=>Q d M) (fun x=>X x M)
section
variable {K:PySem.W.Frag} {c:Cf} {W:WX} {ta tb te:TE} {a b e:E4} {t u:TA} {x y:A4}
theorem lift_pu {α β:Type} {rel:Hp→α→β→Prop} {te:St→Hp→(α→Hp→Prop)→Prop} {t:G3 β} (h:LiftG K c W rel te t):LiftG4 K c W rel te (pu t):=by
 intro σ3 M Q4 X ht Hb G L0 L σ H Q R k e
 refine h _ _ _ ht H (G++L) (nons σ3.length) σ H Q R.r3 (fun v d H' l r q=> ?_) (fun cls dd x H' l r q=> ?_)
 · rw [S_nons] at r
   exact k v d L M H' (R.le l) l.vis4 r q
 · rw [S_nons] at r
   exact e cls dd x L M H' (R.le l) l.vis4 r q
def nil4:A4:=fun _ M Q _=>Q [] M
def cons4 (a:E4) (r:A4):A4:=fun σ M Q X=>a σ M (fun d M1=>r σ M1 (fun ds M2=>Q (d::ds) M2) X) X
theorem lift_nil4:LiftA4 K c W tNil nil4:=by
 intro σ3 M Q4 X h Hb G L0 L σ H Q R k e
 exact k _ _ L M H R (Same.refl _) .nil h
theorem lift_cons4 (ha:Lift4 K c W ta a) (hx:LiftA4 K c W t x):LiftA4 K c W (tCons ta t) (cons4 a x):=by
 intro σ3 M Q4 X h Hb G L0 L σ H Q R k e
 refine ha _ _ _ _ h Hb G L0 L σ H _ R (fun v d L1 M1 H1 R1 s1 r q=> ?_) e
 refine hx _ _ _ _ q Hb G L0 L1 σ H1 _ R1 (fun vs ds L2 M2 H2 R2 s2 rs q2=> ?_) (fun cls dd x L' M' H' R' s'=>e cls dd x L' M' H' R' (Same.trans s1 s'))
 exact k _ _ L2 M2 H2 R2 (Same.trans s1 s2) (.cons (r.mono s2) rs) q2
def op4 (r:T→T→(T→Prop)→Prop) (a b:E4):E4:=fun σ M Q X=>a σ M (fun d M1=>b σ M1 (fun d2 M2=>r d d2 (fun z=>Q z M2)) X) X
theorem lift_op4 {r:R2} {r3:T→T→(T→Prop)→Prop} (hr:RL2 K r r3) (ha:Lift4 K c W ta a) (hb:Lift4 K c W tb b):Lift4 K c W (tOp r ta tb) (op4 r3 a b):=by
 intro σ3 M Q4 X h Hb G L0 L σ H Q R k e
 refine ha _ _ _ _ h Hb G L0 L σ H _ R (fun v d L1 M1 H1 R1 s1 rv q=> ?_) e
 refine hb _ _ _ _ q Hb G L0 L1 σ H1 _ R1 (fun w d2 L2 M2 H2 R2 s2 rw' q2=> ?_) (fun cls dd x L' M' H' R' s'=>e cls dd x L' M' H' R' (Same.trans s1 s'))
 have rv2:=rv.mono s2
 refine hr c d d2 _ q2 H2 (G++L2) (nons σ3.length) σ3 σ H2 v w Q R2.r3 (by rw [S_nons];exact rv2) (by rw [S_nons];exact rw') (fun z dz H3 l rz qz=> ?_)
 rw [S_nons] at rz
 exact k z dz L2 M2 H3 (R2.le l) (Same.trans (Same.trans s1 s2) l.vis4) rz qz
def tst4 (a:E4):B4:=fun σ M Q X=>a σ M (fun d M1=>ob (asB d) fun b=>Q b M1) X
def not4 (a:B4):B4:=fun σ M Q X=>a σ M (fun b M1=>Q (!b) M1) X
def or4 (a b:B4):B4:=fun σ M Q X=>a σ M (fun x M1=>if x=true then Q true M1 else b σ M1 Q X) X
end
abbrev F4:=List T→Mem→(T→Mem→Prop)→XM→Prop
section
variable {K:PySem.W.Frag} {c:Cf} {W:WX} {t:TA} {x:A4} {n:Nat} {f:F4} {E:XK} {dvs:List V} {dts:List T}
def fn4 (n:Nat) (f:F4) (x:A4) (dts:List T):E4:=fun σ M Q X=>x σ M (fun ds M1=>(ds++dts).length=n∧f (ds++dts) M1 Q X) X
def fn40 (n:Nat) (f:F4) (x:A4) (dts:List T):E4:=fun σ M Q X=>x σ M (fun ds M1=>(ds++dts).length=n∧f (ds++dts) M1 Q (fun _ _=>False)) X
end
end M3
namespace M3
open PySem L2
structure N4 where
 nx:List Sl→Mem→Prop
 rt:T→Mem→Prop
 bk:List Sl→Mem→Prop:=fun _ _=>False
 ct:List Sl→Mem→Prop:=fun _ _=>False
 xn:List Sl→Xn→Mem→Prop:=fun _ _ _=>False
abbrev S4:=N4→List Sl→Mem→Prop
structure Fin4 (K:PySem.W.Frag) (c:Cf) (Hb:Hp) (G L0 L:List Addr) (M:Mem) (H:Hp):Prop where
 inv:c.I H
 base:Same (vs4 c G L0 Hb) (vs4 c G L H)
 gk:∀a∈G,H a=Hb a
 cells:Cells K (c.S0++G) L M H
theorem R4.fin {K:PySem.W.Frag} {c:Cf} {Hb H:Hp} {G L0 L:List Addr} {M:Mem} {σ3:List Sl} {σ:St} (r:R4 K c Hb G L0 L M σ3 σ H):Fin4 K c Hb G L0 L M H:=⟨r.r3.inv,r.base,r.gk,r.cells⟩
structure To4 (K:PySem.W.Frag) (c:Cf) (W:WX) (Hb:Hp) (G L0:List Addr) (N:N4) (D:Ends):Prop where
 nx:∀L M σ3 σ H,R4 K c Hb G L0 L M σ3 σ H→N.nx σ3 M→D.nx σ H
 rt:∀v d L M H,Fin4 K c Hb G L0 L M H→Rep K (vs4 c G L H) v d→N.rt d M→D.rt v H
 bk:∀L M σ3 σ H,R4 K c Hb G L0 L M σ3 σ H→N.bk σ3 M→D.bk σ H
 ct:∀L M σ3 σ H,R4 K c Hb G L0 L M σ3 σ H→N.ct σ3 M→D.ct σ H
 xn:∀L M σ3 σ H cls dd x,R4 K c Hb G L0 L M σ3 σ H→XRep K (vs4 c G L H) cls dd x→N.xn σ3 x M→W cls dd σ H
def LiftS4 (K:PySem.W.Frag) (c:Cf) (W:WX) (ts:TS) (t:S4):Prop:=
 ∀N σ3 M,t N σ3 M→∀Hb G L0 L σ H (D:Ends),R4 K c Hb G L0 L M σ3 σ H→To4 K c W Hb G L0 N D→ts D σ H
def next4:S4:=fun N σ M=>N.nx σ M
def seq4 (t u:S4):S4:=fun N σ M=>t {N with nx:=u N} σ M
def drop4 (a:E4):S4:=fun N σ M=>a σ M (fun _ M1=>N.nx σ M1) (N.xn σ)
def ret4 (a:E4):S4:=fun N σ M=>a σ M N.rt (N.xn σ)
def ifs4 (z:B4) (t u:S4):S4:=fun N σ M=>z σ M (fun b M1=>if b=true then t N σ M1 else u N σ M1) (N.xn σ)
def asg4 (a:E4) (g:TG3):S4:=fun N σ M=>a σ M (fun d M1=>g d σ fun σ'=>N.nx σ' M1) (N.xn σ)
section
variable {K:PySem.W.Frag} {c:Cf} {W:WX} {ta:TE} {a:E4} {t u:TS} {x y:S4}
theorem lift_next4:LiftS4 K c W tNext next4:=fun N σ3 M h Hb G L0 L σ H D R Z=>Z.nx _ _ _ _ _ R h
theorem lift_seq4 (h1:LiftS4 K c W t x) (h2:LiftS4 K c W u y):LiftS4 K c W (tSeq t u) (seq4 x y):=by
 intro N σ3 M h Hb G L0 L σ H D R Z
 exact h1 _ _ _ h Hb G L0 L σ H _ R ⟨fun L' M' σ3' σ' H' R' q=>h2 _ _ _ q Hb G L0 L' σ' H' D R' Z,Z.rt,Z.bk,Z.ct,Z.xn⟩
theorem lift_drop4 (ha:Lift4 K c W ta a):LiftS4 K c W (tDrop ta) (drop4 a):=by
 intro N σ3 M h Hb G L0 L σ H D R Z
 exact ha _ _ _ _ h Hb G L0 L σ H _ R (fun v d L' M' H' R' _ _ q=>Z.nx _ _ _ _ _ R' q) (fun cls dd x L' M' H' R' _ r q=>Z.xn _ _ _ _ _ _ _ _ R' r q)
theorem lift_ret4 (ha:Lift4 K c W ta a):LiftS4 K c W (tRet ta) (ret4 a):=by
 intro N σ3 M h Hb G L0 L σ H D R Z
 exact ha _ _ _ _ h Hb G L0 L σ H _ R (fun v d L' M' H' R' _ r q=>Z.rt _ _ _ _ _ R'.fin r q) (fun cls dd x L' M' H' R' _ r q=>Z.xn _ _ _ _ _ _ _ _ R' r q)
theorem lift_ifs4 {k:TT} {z:B4} (hc:LiftT4 K c W k z) (h1:LiftS4 K c W t x) (h2:LiftS4 K c W u y):LiftS4 K c W (tIfS k t u) (ifs4 z x y):=by
 intro N σ3 M h Hb G L0 L σ H D R Z
 refine hc _ _ _ _ h Hb G L0 L σ H _ R (fun vx w L' M' H' R' _ r q=> ?_) (fun cls dd x L' M' H' R' _ r q=>Z.xn _ _ _ _ _ _ _ _ R' r q)
 subst r
 cases vx with
 | true=>exact iteT (h1 _ _ _ (by simpa using q) Hb G L0 L' σ H' D R' Z)
 | false=>exact iteF (h2 _ _ _ (by simpa using q) Hb G L0 L' σ H' D R' Z)
theorem lift_asg4 {vs:List Nat} {g:TG} {g3:TG3} (ha:Lift4 K c W ta a) (hg:LiftTg K c vs g g3):LiftS4 K c W (tAsg ta g) (asg4 a g3):=by
 intro N σ3 M h Hb G L0 L σ H D R Z
 refine ha _ _ _ _ h Hb G L0 L σ H _ R (fun v d L' M' H' R' _ r q=> ?_) (fun cls dd x L' M' H' R' _ r q=>Z.xn _ _ _ _ _ _ _ _ R' r q)
 refine hg _ _ _ q H' (G++L') (nons σ3.length) σ H' v _ R'.r3 (.inl (by rw [S_nons];exact r)) (fun A' σ3' σ' H2 R2 e2 st q'=> ?_)
 subst e2
 exact Z.nx _ _ _ _ _ (R'.slots R2 fun a h=>by
  have:=st.2.2 a h
  rw [addrs_nons] at this
  cases this) q'
def loop4 (g:TG3) (tb:S4) (N:N4):List T→List Sl→Mem→Prop
 | [],σ,M=>N.nx σ M
 | x::r,σ,M=>g x σ fun σ'=>tb {nx:=loop4 g tb N r,ct:=loop4 g tb N r,bk:=N.nx,rt:=N.rt,xn:=N.xn} σ' M
def for4 (s:A3) (g:TG3) (tb:S4):S4:=fun N σ M=>s σ (fun ds=>loop4 g tb N ds σ M) (fun x=>N.xn σ x M)
theorem lift_for4 {wk:Bool} {vs:List Nat} {wi:TI} {s:A3} {g:TG} {g3:TG3} {tb:TS} {b:S4} (hi:LiftIB K c wk W wi s) (hg:LiftTgB K c wk vs g g3) (hb:LiftS4 K c W tb b):LiftS4 K c W (tFor wi g tb) (for4 s g3 b):=by
 intro N σ3 M h Hb G L0 L σ H D R Z
 refine hi _ _ _ h H (G++L) (nons σ3.length) σ H _ R.r3 (fun J ds H1 l1 w q=> ?_) (fun cls dd x H' l r q=> ?_)
 rotate_left
 · rw [S_nons] at r
   exact Z.xn _ _ _ _ _ _ _ _ (R.le l) r q
 have R1:=R.le l1
 rw [S_nons] at w
 refine ⟨fun i m σ' H'=>m=ds.length-i∧i≤ds.length∧∃L' M' σ3',R4 K c H1 G L L' M' σ3' σ' H'∧loop4 g3 b N (ds.drop i) σ3' M',⟨ds.length,rfl,Nat.zero_le _,L,M,σ3,R1.rebase,by simpa using q⟩, ?_⟩
 rintro i m σ' H' ⟨rfl,hi,L',M',σ3',R',q'⟩
 have vis:=R'.base
 by_cases hl:i=ds.length
 · subst hl
   left
   refine ⟨w.stop _ _ vis,Z.nx _ _ _ _ _ (R1.debase R') ?_⟩
   have e:ds.drop ds.length=[]:=List.drop_length
   rw [e] at q'
   exact q'
 · right
   have hlt:i<ds.length:=Nat.lt_of_le_of_ne hi hl
   have hd:ds[i]? =some ds[i]:=List.getElem?_eq_getElem hlt
   rw [List.drop_eq_getElem_cons hlt] at q'
   refine ⟨w.go i _ _ _ hd vis,fun σ2 H2=>∃L2 M2 σ32,R4 K c H1 G L L2 M2 σ32 σ2 H2∧loop4 g3 b N (ds.drop (i+1)) σ32 M2, ?_, ?_⟩
   · rintro σ2 H2 ⟨L2,M2,σ32,R2,q2⟩
     exact ⟨ds.length-(i+1),by omega,rfl,hlt,L2,M2,σ32,R2,q2⟩
   · intro x H2 y
     have th:∀a∈c.S0++G++L',H' a≠none:=fun a h=>R'.r3.there (by rw [S_nons];exact h)
     obtain ⟨hn,rx⟩:=w.yld i _ _ _ x H2 hd vis th y
     have R2:R4 K c H1 G L L' M' σ3' σ' H2:=by
      rcases hn with rfl | ⟨p,o,hp,rfl⟩
      · exact R'
      · exact R'.le (R'.r3.new (o:=o) hp)
     refine hg _ _ _ q' H2 (G++L') (nons σ3'.length) σ' H2 x _ R2.r3 (by rw [S_nons];exact rx) (fun A4 σ4 σ4' H4 R4' e4 st q4=> ?_)
     subst e4
     refine hb _ _ _ q4 H1 G L L' σ4' H4 _ (R2.slots R4' fun a h=>by
      have:=st.2.2 a h
      rw [addrs_nons] at this
      cases this) ⟨?_, ?_, ?_, ?_, ?_⟩
     · exact fun L5 M5 σ5 σ5' H5 R5 q5=>⟨L5,M5,σ5,R5,q5⟩
     · exact fun v d L5 M5 H5 F rv q5=>Z.rt v d L5 M5 H5 ⟨F.inv,Same.trans R1.base F.base,fun a h=>(F.gk a h).trans (R1.gk a h),F.cells⟩ rv q5
     · exact fun L5 M5 σ5 σ5' H5 R5 q5=>Z.nx _ _ _ _ _ (R1.debase R5) q5
     · exact fun L5 M5 σ5 σ5' H5 R5 q5=>⟨L5,M5,σ5,R5,q5⟩
     · exact fun L5 M5 σ5 σ5' H5 cls dd xn R5 rx q5=>Z.xn _ _ _ _ _ _ _ _ (R1.debase R5) rx q5
end
end M3
namespace M3
open PySem L2
section
variable {K:PySem.W.Frag} {c:Cf} {W:WX} {ta tb te:TE} {a b e:E4} {t u:TT} {x y:B4}
theorem lift_tst4 (ha:Lift4 K c W ta a):LiftT4 K c W (tTest ta) (tst4 a):=by
 intro σ3 M Q4 X h Hb G L0 L σ H Q R k e
 refine ha _ _ _ _ h Hb G L0 L σ H _ R (fun v d L1 M1 H1 R1 s1 r q=> ?_) e
 obtain ⟨z,ez,q1⟩:=ob_iff.mp q
 cases asB_is ez
 exact ⟨z,r.blI,k z z L1 M1 H1 R1 s1 rfl q1⟩
theorem lift_not4 (ha:LiftT4 K c W t x):LiftT4 K c W (tNot t) (not4 x):=by
 intro σ3 M Q4 X h Hb G L0 L σ H Q R k e
 refine ha _ _ _ _ h Hb G L0 L σ H _ R (fun v d L1 M1 H1 R1 s1 r q=> ?_) e
 subst r
 exact k _ _ L1 M1 H1 R1 s1 rfl q
theorem lift_or4 (ha:LiftT4 K c W t x) (hb:LiftT4 K c W u y):LiftT4 K c W (tOr t u) (or4 x y):=by
 intro σ3 M Q4 X h Hb G L0 L σ H Q R k e
 refine ha _ _ _ _ h Hb G L0 L σ H _ R (fun v d L1 M1 H1 R1 s1 r q=> ?_) e
 subst r
 cases v with
 | false=>exact iteF (hb _ _ _ _ (by simpa using q) Hb G L0 L1 σ H1 _ R1 (fun v d L' M' H' R' s'=>k v d L' M' H' R' (Same.trans s1 s')) (fun cls dd x L' M' H' R' s'=>e cls dd x L' M' H' R' (Same.trans s1 s')))
 | true=>exact iteT (k true true L1 M1 H1 R1 s1 rfl (by simpa using q))
end
def asR:T→Option Addr
 | .ref a=>some a
 | _=>none
theorem asR_is {t:T} {a:Addr} (h:asR t=some a):t= .ref a:=by
 cases t<;>simp [asR] at h<;>subst h<;>rfl
def cellL (M:Mem) (a:Addr):Option (List T):=(M a).bind asL
theorem cellL_is {M:Mem} {a:Addr} {xs:List T} (h:cellL M a=some xs):M a=some (.lst xs):=by
 unfold cellL at h
 cases e:M a with
 | none=>rw [e] at h;cases h
 | some t=>rw [e] at h;rw [asL_is (show asL t=some xs from h)]
section
variable {K:PySem.W.Frag} {c:Cf} {Hb H H':Hp} {G L0 L L':List Addr} {M M':Mem} {σ3:List Sl} {σ:St} {W:WX}
theorem R4.put (r:R4 K c Hb G L0 L M σ3 σ H) {a:Addr} {o:HO} {t:T} (ha:a∈L) (ho:∀φ,o≠ .ext φ) (hr:CellRep K (vs4 c G L H) (upd H a o) a t):R4 K c Hb G L0 L (mset M a (some t)) σ3 σ (upd H a o):=by
 have na:a ∉ c.S0++G:=r.cells.off a ha
 have hv:vs4 c G L (upd H a o)=vs4 c G L H:=hid_upd_in (by simp [ha])
 obtain ⟨o1,e1,_,n1⟩:=r.cells.obj ha
 refine r.step (c.st H _ (fun b hb=>upd_ne (fun z=>na (by rw [←z];simp [hb]))) (fun b φ e=> ?_) r.r3.inv) (by rw [hv];exact Same.refl _) (fun b hb=>upd_ne (fun z=>na (by rw [←z];simp [hb]))) ⟨fun b=> ?_,r.cells.off,fun b t' e=> ?_⟩
 · have:b≠a:=fun z=>by
    rw [z,e1] at e
    cases e
    exact n1 _ rfl
   rw [upd_ne this];exact e
 · by_cases z:b=a
   · subst z
     simp [ha]
   · rw [mset_ne z];exact r.cells.on b
 · show CellRep K (vs4 c G L (upd H a o)) (upd H a o) b t'
   rw [hv]
   by_cases z:b=a
   · subst z
     rw [mset_same] at e
     cases e
     exact hr
   · rw [mset_ne z] at e
     exact (r.cells.at_ b t' e).mono (Same.refl _) (upd_ne z)
theorem R4.atL (r:R4 K c Hb G L0 L M σ3 σ H) {a:Addr} {xs:List T} (h:M a=some (.lst xs)):a∈L∧∃vs,H a=some (.lst vs)∧RepL K (vs4 c G L H) vs xs:=
 ⟨(r.cells.on a).mpr (by rw [h];intro z;cases z),r.cells.at_ a _ h⟩
def newC4 (t:E3):E4:=fun σ M Q X=>t σ (fun d=>ob (asL d) fun xs=>∀p,M p=none→Q (.ref p) (mset M p (some (.lst xs)))) (fun x=>X x M)
theorem lift_newC {te:TE} {t:E3} (h:LiftFr K c W te t):Lift4 K c W te (newC4 t):=by
 intro σ3 M Q4 X ht Hb G L0 L σ H Q R k e
 refine h _ _ _ ht H (G++L) (nons σ3.length) σ H _ R.r3 (fun D vs ds H' f q=> ?_) (fun cls dd x H' l r q=> ?_)
 · have nD:=f.nD
   have fv:=f.vis
   have fr:=f.rep
   rw [S_nons] at nD fv fr
   have mD:M D=none:=by
    cases e:M D with
    | none=>rfl
    | some t=>exact absurd (by simp [(R.cells.on D).mpr (by rw [e];intro z;cases z)]) nD
   have hS:∀a,a∈D::(c.S0++G++L)↔a∈c.S0++G++(D::L):=fun a=>by
    simp only [List.mem_cons,List.mem_append]
    exact ⟨fun h=>by rcases h with h | (h | h) | h<;>simp [h],fun h=>by rcases h with (h | h) | h | h<;>simp [h]⟩
   have sm:Same (hid (D::(c.S0++G++L)) H') (vs4 c G (D::L) H'):=hid_mono fun a z=>(hS a).mpr z
   have vis:Same (vs4 c G L H) (vs4 c G (D::L) H'):=Same.trans fv sm
   have R':R4 K c Hb G L0 (D::L) (mset M D (some (.lst ds))) σ3 σ H':=by
    refine R.step f.inv vis (fun a h=>f.own a (by simp [h])) ⟨fun a=> ?_,fun a h=> ?_,fun a t' e=> ?_⟩
    · by_cases z:a=D
      · subst z;simp
      · rw [mset_ne z,List.mem_cons]
        exact ⟨fun h=>(R.cells.on a).mp (h.resolve_left z),fun h=>.inr ((R.cells.on a).mpr h)⟩
    · rcases List.mem_cons.mp h with rfl | h
      · exact fun z=>nD (by simp at z ⊢;rcases z with z | z<;>simp [z])
      · exact R.cells.off a h
    · by_cases z:a=D
      · subst z
        rw [mset_same] at e
        cases e
        exact ⟨vs,f.at_,fr.mono sm⟩
      · rw [mset_ne z] at e
        exact (R.cells.at_ a t' e).mono vis (f.own a (by simp [(R.cells.on a).mpr (by rw [e];intro z;cases z)]))
   exact k _ _ (D::L) _ H' R' vis (.ref D) (q D mD)
 · rw [S_nons] at r
   exact e cls dd x L M H' (R.le l) l.vis4 r q
def app4 (o e:E4):E4:=fun σ M Q X=>o σ M (fun d M1=>ob (asR d) fun a=>ob (cellL M1 a) fun _=>e σ M1 (fun y M2=>ob (cellL M2 a) fun xs=>xs.length<sizeLine∧Q .non (mset M2 a (some (.lst (xs++[y]))))) X) X
theorem lift_app4 {to te:TE} {o e:E4} (ho:Lift4 K c W to o) (he:Lift4 K c W te e):Lift4 K c W (tBM K "list" rAppend to (tCons te tNil)) (app4 o e):=by
 intro σ3 M Q4 X h Hb G L0 L σ H Q R k ex
 refine ho _ _ _ _ h Hb G L0 L σ H _ R (fun v d L1 M1 H1 R1 s1 r q=> ?_) ex
 obtain ⟨a,ea,qa⟩:=ob_iff.mp q
 obtain ⟨xs,e1,qb⟩:=ob_iff.mp qa
 cases asR_is ea
 cases r.refI
 obtain ⟨_,vs,h1,_⟩:=R1.atL (cellL_is e1)
 refine ⟨.inl ⟨rfl,vs,SqL.of h1⟩, ?_⟩
 refine he _ _ _ _ qb Hb G L0 L1 σ H1 _ R1 (fun u y L2 M2 H2 R2 s2 ru q2=> ?_) (fun cls dd x L' M' H' R' s'=>ex cls dd x L' M' H' R' (Same.trans s1 s'))
 obtain ⟨ys,e2,hl,q3⟩:=ob_iff.mp q2
 obtain ⟨m2,ws,h2,r2⟩:=R2.atL (cellL_is e2)
 refine ⟨a,ws,u,rfl,rfl,h2,by rw [r2.length];exact hl, ?_⟩
 have hv:vs4 c G L2 (upd H2 a (.lst (ws++[u])))=vs4 c G L2 H2:=hid_upd_in (by simp [m2])
 exact k _ _ L2 _ _ (R2.put (t:=.lst (ys++[y])) m2 (fun φ z=>by cases z) ⟨ws++[u],upd_same,r2.append (.cons ru .nil)⟩) (Same.trans (Same.trans s1 s2) (by rw [hv];exact Same.refl _)) .non q3
end
end M3
namespace M3
open PySem L2
section
variable {K:PySem.W.Frag} {c:Cf} {Hb H H':Hp} {G L0 L L':List Addr} {M M':Mem} {σ3:List Sl} {σ:St} {W:WX}
theorem R4.noOwn (r:R4 K c Hb G L0 L M σ3 σ H) (vs:List Nat):noOwn σ3 vs:=fun i _ t e=>by
 have hl:i<σ3.length:=(List.getElem?_eq_some_iff.mp e).1
 have h1:(nons σ3.length)[i]? =some none:=by simp [hl]
 have h2:i<σ.length:=by rw [r.r3.l2];exact hl
 obtain ⟨a,z,_⟩:=r.r3.at_ i _ _ _ e h1 (List.getElem?_eq_getElem h2)
 cases z
theorem R4.hide (r:R4 K c Hb G L0 L M σ3 σ H) {D:Addr} {o:HO} (hD:H D=none) (ho:vis o=true):R4 K c (upd H D o) (D::G) L L M σ3 σ (upd H D o)∧Same (vs4 c G L H) (vs4 c (D::G) L (upd H D o)):=by
 have nD:D ∉ c.S0++G++L:=fun z=>r.r3.there (by rw [S_nons];exact z) hD
 have l:=r.r3.new (o:=o) hD
 have eS:∀a,a∈c.S0++(D::G)++L↔a=D∨a∈c.S0++G++L:=fun a=>by
  simp only [List.mem_cons,List.mem_append]
  exact ⟨fun h=>by rcases h with (h | h | h) | h<;>simp [h],fun h=>by rcases h with h | (h | h) | h<;>simp [h]⟩
 have hv:Same (vs4 c G L H) (vs4 c (D::G) L (upd H D o)):=fun a u z=>by
  obtain ⟨z1,z2⟩:=hid_some z
  have na:a≠D:=fun y=>by rw [y,hD] at z1;cases z1
  exact hid_mk (by rw [upd_ne na];exact z1) (fun y=>((eS a).mp y).elim na z2) (hid_vis z)
 have e0:∀n,hid (c.S (G++L) (nons n)) H=vs4 c G L H:=fun n=>by rw [S_nons]
 refine ⟨⟨⟨l.inv, ?_,fun a h=>⟨rfl, ?_⟩,fun a h u e=> ?_,by rw [addrs_nons];exact List.nodup_nil,(by rw [addrs_nons];intro a h;cases h),r.r3.l1,r.r3.l2, ?_⟩,Same.refl _,fun _ _=>rfl,⟨r.cells.on,fun a h z=> ?_,fun a t e=> ?_⟩⟩,hv⟩
 · rw [S_nons, ←List.append_assoc]
   exact Same.refl _
 · by_cases z:a=D
   · subst z
     exact ⟨(by rw [upd_same];intro y;cases y),fun y=>nD (by simp [y])⟩
   · have hm:a∈G++L:=by
      rcases List.mem_append.mp h with h | h
      · exact List.mem_append.mpr (.inl ((List.mem_cons.mp h).resolve_left z))
      · exact List.mem_append.mpr (.inr h)
     rw [upd_ne z]
     exact (r.r3.gk a hm).2
 · by_cases z:a=D
   · subst z
     rw [upd_same] at e
     cases e
     exact c.gV _ ho
   · have hm:a∈G++L:=by
      rcases List.mem_append.mp h with h | h
      · exact List.mem_append.mpr (.inl ((List.mem_cons.mp h).resolve_left z))
      · exact List.mem_append.mpr (.inr h)
     rw [upd_ne z] at e
     exact r.r3.gv a hm u e
 · intro i s o' x h1 h2 h3
   have z:=r.r3.at_ i s o' x h1 h2 h3
   rw [e0] at z
   rw [S_nons]
   cases s with
   | no=>exact z
   | val t=>obtain ⟨e,v,e2,q⟩:=z;exact ⟨e,v,e2,q.mono hv⟩
   | own t=>
     obtain ⟨a,e,_⟩:=z
     have:=(List.mem_replicate.mp (List.mem_of_getElem? h2)).2
     rw [this] at e
     cases e
 · have:=r.cells.off a h
   rcases List.mem_append.mp z with z | z
   · exact this (by simp [z])
   · rcases List.mem_cons.mp z with z | z
     · subst z;exact nD (by simp [h])
     · exact this (by simp [z])
 · have na:a≠D:=fun y=>by
    subst y
    exact nD (by simp [(r.cells.on a).mpr (by rw [e];intro z;cases z)])
   exact (r.cells.at_ a t e).mono hv (upd_ne na)
theorem R4.show_ {D:Addr} {Hx:Hp} {Lx:List Addr} (r:R4 K c Hx (D::G) Lx L M σ3 σ H) (nG:D ∉ c.S0++G):R4 K c H G L L M σ3 σ H∧Same (vs4 c (D::G) L H) (vs4 c G L H):=by
 have hv:Same (vs4 c (D::G) L H) (vs4 c G L H):=hid_mono fun a h=>by
  simp only [List.mem_cons,List.mem_append] at h ⊢
  rcases h with (h | h) | h<;>simp [h]
 have e0:∀n,hid (c.S (D::G++L) (nons n)) H=vs4 c (D::G) L H:=fun n=>by rw [S_nons]
 refine ⟨⟨⟨r.r3.inv, ?_,fun a h=>⟨rfl,(r.r3.gk a ?_).2⟩,fun a h u e=>r.r3.gv a ?_ u e,by rw [addrs_nons];exact List.nodup_nil,(by rw [addrs_nons];intro a h;cases h),r.r3.l1,r.r3.l2, ?_⟩,Same.refl _,fun _ _=>rfl,⟨r.cells.on,fun a h z=> ?_,fun a t e=>(r.cells.at_ a t e).mono hv rfl⟩⟩,hv⟩
 · rw [S_nons, ←List.append_assoc]
   exact Same.refl _
 · rcases List.mem_append.mp h with h | h<;>simp [h]
 · rcases List.mem_append.mp h with h | h<;>simp [h]
 · intro i s o' x h1 h2 h3
   have z:=r.r3.at_ i s o' x h1 h2 h3
   rw [e0] at z
   rw [S_nons]
   cases s with
   | no=>exact z
   | val t=>obtain ⟨e,v,e2,q⟩:=z;exact ⟨e,v,e2,q.mono hv⟩
   | own t=>
     obtain ⟨a,e,_⟩:=z
     have:=(List.mem_replicate.mp (List.mem_of_getElem? h2)).2
     rw [this] at e
     cases e
 · exact r.cells.off a h (by rcases List.mem_append.mp z with z | z<;>simp [z])
theorem R4.hidPut (r:R4 K c Hb G L0 L M σ3 σ H) {D:Addr} {o:HO} (hD:D∈G) (h0:∀φ,H D≠some (.ext φ)) (ho:vis o=true):R4 K c (upd H D o) G L L M σ3 σ (upd H D o)∧vs4 c G L (upd H D o)=vs4 c G L H:=by
 have hv:vs4 c G L (upd H D o)=vs4 c G L H:=hid_upd_in (by simp [hD])
 have nD:D ∉ c.S0:=(r.r3.gk D (by simp [hD])).2.2
 have e0:∀n,hid (c.S (G++L) (nons n)) H=vs4 c G L H:=fun n=>by rw [S_nons]
 have inv:c.I (upd H D o):=c.st H _ (fun b hb=>upd_ne (fun z=>nD (by rw [←z];exact hb))) (fun b φ e=>by
  have:b≠D:=fun z=>h0 _ ((congrArg H z).symm.trans e)
  rw [upd_ne this];exact e) r.r3.inv
 refine ⟨⟨⟨inv, ?_,fun a h=>⟨rfl, ?_⟩,fun a h u e=> ?_,by rw [addrs_nons];exact List.nodup_nil,(by rw [addrs_nons];intro a h;cases h),r.r3.l1,r.r3.l2, ?_⟩,Same.refl _,fun _ _=>rfl,⟨r.cells.on,r.cells.off,fun a t e=> ?_⟩⟩,hv⟩
 · rw [S_nons, ←List.append_assoc]
   exact Same.refl _
 · by_cases z:a=D
   · subst z
     exact ⟨(by rw [upd_same];intro y;cases y),nD⟩
   · rw [upd_ne z]
     exact (r.r3.gk a h).2
 · by_cases z:a=D
   · subst z
     rw [upd_same] at e
     cases e
     exact c.gV _ ho
   · rw [upd_ne z] at e
     exact r.r3.gv a h u e
 · intro i s o' x h1 h2 h3
   have z:=r.r3.at_ i s o' x h1 h2 h3
   rw [e0] at z
   rw [S_nons]
   show SlRep K (vs4 c G L (upd H D o)) (upd H D o) s o' x
   rw [hv]
   cases s with
   | no=>exact z
   | val t=>exact z
   | own t=>
     obtain ⟨a,e,_⟩:=z
     have:=(List.mem_replicate.mp (List.mem_of_getElem? h2)).2
     rw [this] at e
     cases e
 · show CellRep K (vs4 c G L (upd H D o)) (upd H D o) a t
   rw [hv]
   refine (r.cells.at_ a t e).mono (Same.refl _) (upd_ne fun z=> ?_)
   exact r.cells.off a ((r.cells.on a).mpr (by rw [e];intro z;cases z)) (by rw [z];simp [hD])
end
end M3
namespace M3
open PySem L2
section
variable {K:PySem.W.Frag} {c:Cf} {Hb H H':Hp} {G L0 L L':List Addr} {M M':Mem} {σ3:List Sl} {σ:St} {W:WX}
theorem set_same {α:Type} {l:List α} {i:Nat} {x:α} (h:l[i]? =some x):l.set i x=l:=by
 apply List.ext_getElem?
 intro j
 by_cases e:i=j
 · subst e
   rw [List.getElem?_set_self (List.getElem?_eq_some_iff.mp h).1,h]
 · rw [List.getElem?_set_ne e]
theorem nons_set {n i:Nat}:(nons n).set i none=nons n:=by
 apply List.ext_getElem?
 intro j
 by_cases e:i=j
 · subst e
   by_cases hl:i<n
   · rw [List.getElem?_set_self (by simpa using hl)]
     simp [hl]
   · rw [List.getElem?_eq_none (by simpa using Nat.le_of_not_lt hl),List.getElem?_eq_none (by simpa using Nat.le_of_not_lt hl)]
 · rw [List.getElem?_set_ne e]
def thaw4 (M:Mem) (σ:List Sl) (i:Nat):Option (List Sl×Mem):=match σ[i]? with
 | some (.val (.ref a))=>(cellL M a).map fun xs=>(σ.set i (.val (.lst xs)),mset M a none)
 | _=>none
theorem R4.thaw (r:R4 K c Hb G L0 L M σ3 σ H) {i:Nat} {p:List Sl×Mem} (h:thaw4 M σ3 i=some p):∃L',R4 K c Hb G L0 L' p.2 p.1 σ H:=by
 unfold thaw4 at h
 split at h
 · rename_i a ea
   cases ex:cellL M a with
   | none=>rw [ex] at h;cases h
   | some xs=>
     rw [ex] at h
     cases h
     obtain ⟨ma,vs,h1,h2⟩:=r.atL (cellL_is ex)
     have sub:∀b∈L.filter (fun b=>decide (b≠a)),b∈L:=fun b hb=>(List.mem_filter.mp hb).1
     have hv:Same (vs4 c G L H) (vs4 c G (L.filter fun b=>decide (b≠a)) H):=hid_mono fun b hb=>by
      rcases List.mem_append.mp hb with hb | hb
      · exact List.mem_append.mpr (.inl hb)
      · exact List.mem_append.mpr (.inr (sub b hb))
     have R1:R4 K c Hb G L0 (L.filter fun b=>decide (b≠a)) (mset M a none) σ3 σ H:=by
      refine r.step r.r3.inv hv (fun _ _=>rfl) ⟨fun b=> ?_,fun b hb=>r.cells.off b (sub b hb),fun b t e=> ?_⟩
      · by_cases z:b=a
        · subst z;simp
        · rw [mset_ne z,List.mem_filter]
          simp [z,r.cells.on b]
      · by_cases z:b=a
        · subst z;rw [mset_same] at e;cases e
        · rw [mset_ne z] at e
          exact (r.cells.at_ b t e).mono hv rfl
     refine ⟨L.filter fun b=>decide (b≠a), ?_⟩
     obtain ⟨v,hσ,rv⟩:=R1.r3.get ea
     cases rv.refI
     have nS:a ∉ c.S0++G++L.filter fun b=>decide (b≠a):=fun z=>by
      rcases List.mem_append.mp z with z | z
      · exact r.cells.off a ma z
      · simpa using (List.mem_filter.mp z).2
     have rl:Rep K (hid (c.S (G++L.filter fun b=>decide (b≠a)) (nons σ3.length)) H) (.ref a) (.lst xs):=by
      rw [S_nons]
      exact .mkL (hid_mk h1 nS) (h2.mono hv)
     have q:=R1.r3.set i rl
     rw [set_same hσ,nons_set] at q
     exact R1.slots q (by intro b hb;rw [addrs_nons] at hb;cases hb)
 · cases h
end
end M3
namespace M3
open PySem L2
theorem law_rest4 {K:PySem.W.Frag} {p cc:Addr} {Ts:List (Addr×Str)} {W:WX} {t:TS} {x:S4} {H:Hp} {Q:VK} {a:Addr} (m:Nat) (lt:LiftS4 K (potT p cc Ts) W t x) (hp:PotAt p cc H) (ht:LamX.Tabs Ts H) (hQ:∀H',Q (.bl true) H')
 (hx:x {nx:=fun _ _=>False,rt:=fun d _=>d= .bl true} (Sl.no::Sl.val (.ref p)::List.replicate m Sl.no) (fun _=>none)):t {nx:=fun _ H'=>Q .non H',rt:=Q} (some (V.ref a)::some (V.ref p)::List.replicate m none) H:=by
 have r:=r3_pot (K:=K) (Ts:=Ts) m a hp ht
 have hA:=nons_of (A:=_) (fun b (hb:b∈addrs _)=>by
  have:=r.ns b hb
  exact absurd hb (by
   intro z
   have h2:=mem_addrs.mp z
   simp at h2))
 rw [r.l1] at hA
 rw [hA] at r
 have R0:R4 K (potT p cc Ts) H [] [] [] (fun _=>none) (Sl.no::Sl.val (.ref p)::List.replicate m Sl.no) (some (V.ref a)::some (V.ref p)::List.replicate m none) H:=
  ⟨r.re,Same.refl _,fun _ h=>(by cases h),⟨fun b=>by simp,fun b h=>(by cases h),fun b t e=>by cases e⟩⟩
 refine lt _ _ _ hx H [] [] [] _ H _ R0 ⟨fun _ _ _ _ _ _ z=>z.elim,fun v d L' M' H' _ rv e=> ?_,fun _ _ _ _ _ _ z=>z.elim,fun _ _ _ _ _ _ z=>z.elim,fun _ _ _ _ _ _ _ _ _ _ z=>z.elim⟩
 subst e
 rw [rv.blI]
 exact hQ H'
end M3
namespace M3
open PySem L2
structure FrK (K:PySem.W.Frag) (c:Cf) (G:List Addr) (A:List (Option Addr)) (H H':Hp) (D:Addr) (kvs:List (Key×V)) (ts:List (Key×T)):Prop where
 nD:D ∉ c.S G A
 vis:Same (hid (c.S G A) H) (hid (D::c.S G A) H')
 own:∀a∈G++addrs A,H' a=H a
 inv:c.I H'
 at_:H' D=some (.dK kvs)
 key:kvs.map (·.1)=ts.map (·.1)
 rep:RepL K (hid (D::c.S G A) H') (kvs.map (·.2)) (ts.map (·.2))
def LiftFrK (K:PySem.W.Frag) (c:Cf) (W:WX) (te:TE) (t:E3):Prop:=
 ∀σ3 Q3 X,t σ3 Q3 X→∀Hb G A σ H Q,R3 K c Hb G A σ3 σ H→
  (∀D kvs ts H',FrK K c G A H H' D kvs ts→Q3 (.dic ts)→Q (.ref D) H')→
  (∀cls dd x H',Le c G A H H'→XRep K (hid (c.S G A) H') cls dd x→X x→W cls dd σ H')→te σ H Q
section
variable {K:PySem.W.Frag} {c:Cf} {W:WX} {te:TE} {t:E3} {Hb H H':Hp} {G:List Addr} {A:List (Option Addr)} {σ3:List Sl} {σ:St}
theorem rep_dic {Hv:Hp} {a:Addr} {o:Obj} {kvs:List (Key×V)} {ts:List (Key×T)} (h:Hv a=some (.frz o (.dK kvs))) (hk:kvs.map (·.1)=ts.map (·.1)) (r:RepL K Hv (kvs.map (·.2)) (ts.map (·.2))):Rep K Hv (.ref a) (.dic ts):=.dic ⟨o,h⟩ hk fun i v t e1 e2=>r.at e1 e2
def newD4 (t:E3):E4:=fun σ M Q X=>t σ (fun d=>ob (asD d) fun ts=>∀p,M p=none→Q (.ref p) (mset M p (some (.dic ts)))) (fun x=>X x M)
theorem lift_newD (h:LiftFrK K c W te t):Lift4 K c W te (newD4 t):=by
 intro σ3 M Q4 X ht Hb G L0 L σ H Q R k e
 refine h _ _ _ ht H (G++L) (nons σ3.length) σ H _ R.r3 (fun D kvs ts H' f q=> ?_) (fun cls dd x H' l r q=> ?_)
 · have nD:=f.nD
   have fv:=f.vis
   have fr:=f.rep
   rw [S_nons] at nD fv fr
   have mD:M D=none:=by
    cases e:M D with
    | none=>rfl
    | some t=>exact absurd (by simp [(R.cells.on D).mpr (by rw [e];intro z;cases z)]) nD
   have hS:∀a,a∈D::(c.S0++G++L)↔a∈c.S0++G++(D::L):=fun a=>by
    simp only [List.mem_cons,List.mem_append]
    exact ⟨fun h=>by rcases h with h | (h | h) | h<;>simp [h],fun h=>by rcases h with (h | h) | h | h<;>simp [h]⟩
   have sm:Same (hid (D::(c.S0++G++L)) H') (vs4 c G (D::L) H'):=hid_mono fun a z=>(hS a).mpr z
   have vis:Same (vs4 c G L H) (vs4 c G (D::L) H'):=Same.trans fv sm
   have R':R4 K c Hb G L0 (D::L) (mset M D (some (.dic ts))) σ3 σ H':=by
    refine R.step f.inv vis (fun a h=>f.own a (by simp [h])) ⟨fun a=> ?_,fun a h=> ?_,fun a t' e=> ?_⟩
    · by_cases z:a=D
      · subst z;simp
      · rw [mset_ne z,List.mem_cons]
        exact ⟨fun h=>(R.cells.on a).mp (h.resolve_left z),fun h=>.inr ((R.cells.on a).mpr h)⟩
    · rcases List.mem_cons.mp h with rfl | h
      · exact fun z=>nD (by simp at z ⊢;rcases z with z | z<;>simp [z])
      · exact R.cells.off a h
    · by_cases z:a=D
      · subst z
        rw [mset_same] at e
        cases e
        exact ⟨kvs,f.at_,f.key,fr.mono sm⟩
      · rw [mset_ne z] at e
        exact (R.cells.at_ a t' e).mono vis (f.own a (by simp [(R.cells.on a).mpr (by rw [e];intro z;cases z)]))
   exact k _ _ (D::L) _ H' R' vis (.ref D) (q D mD)
 · rw [S_nons] at r
   exact e cls dd x L M H' (R.le l) l.vis4 r q
theorem R3.frK (r:R3 K c Hb G A σ3 σ H) {D:Addr} {kvs:List (Key×V)} {ts:List (Key×T)} (h:H D=none) (hk:kvs.map (·.1)=ts.map (·.1)) (q:RepL K (hid (c.S G A) H) (kvs.map (·.2)) (ts.map (·.2))):FrK K c G A H (upd H D (.dK kvs)) D kvs ts:=by
 have L:=r.new (o:=.dK kvs) h
 have v:Same (hid (c.S G A) H) (hid (D::c.S G A) (upd H D (.dK kvs))):=by
  rw [hid_upd_in (List.mem_cons_self ..)]
  intro a o e
  obtain ⟨e1,e2⟩:=hid_some e
  exact hid_mk e1 (fun z=>by
   rcases List.mem_cons.mp z with z | z
   · rw [z,h] at e1;cases e1
   · exact e2 z) (hid_vis e)
 exact ⟨r.free h,v,L.own,L.inv,upd_same,hk,q.mono v⟩
theorem zipK {Hv:Hp}:∀ {ks:List Str} {vs:List V} {ds:List T},ks.length=ds.length→RepL K Hv vs ds→RepD K Hv ((ks.zip vs).map fun p=>(.inr p.1,p.2)) ((ks.zip ds).map fun p=>(.inr p.1,p.2))
 | [],_,_,_,_=>by simp;exact .nil
 | _::_,_,[],h,_=>by simp at h
 | _::ks,_,_::ds,h,.cons r rs=>.cons ⟨rfl,r⟩ (zipK (by simpa using h) rs)
end
end M3
namespace PySem.SeqAt
open AutoSeq1 (wpAny_loadPart')
open MeetsSeq MeetsSeq2 MeetsSeq3 SeqRoads2
end PySem.SeqAt
namespace M3
open PySem L2
inductive EqS:Nat→T→T→Prop
 | data {n:Nat} {t u:T} {d e:PyData} (h1:dat t=some d) (h2:dat u=some e) (s1:SeqAt.shaped d=true) (s2:SeqAt.shaped e=true) (h:PyData.eqv d e=true):EqS n t u
 | lst {n:Nat} {xs ys:List T} (hl:xs.length=ys.length) (h:∀(i:Nat) x y,xs[i]? =some x→ys[i]? =some y→EqS n x y):EqS (n+1) (.lst xs) (.lst ys)
 | tup {n:Nat} {xs ys:List T} (hl:xs.length=ys.length) (h:∀(i:Nat) x y,xs[i]? =some x→ys[i]? =some y→EqS n x y):EqS (n+1) (.tup xs) (.tup ys)
 | dic {n:Nat} {ks ls:List (Key×T)} (hl:ks.length=ls.length) (f:Key→T→T) (hf:∀k v,(k,v)∈ks→valT ls k=some (f k v)) (h:∀k v,(k,v)∈ks→EqS n v (f k v)):EqS (n+1) (.dic ks) (.dic ls)
section
variable {X:Cx} {pins:List (Addr×Obj)} {σ:St} {H:Hp} {s:Shared} {S:List Addr}
theorem vals_at {vs:List V} {us:List Value} (r:Vals vs us) {i:Nat} {u:Value} (h:us[i]? =some u):∃v,vs[i]? =some v∧RelV v u:=by
 rcases vals_get (i:=i) r with ⟨v,w,e1,e2,q⟩ | ⟨_,e2⟩
 · rw [h] at e2;cases e2;exact ⟨v,e1,q⟩
 · rw [h] at e2;cases e2
theorem paired_i {α β:Type} {F:α→β→Prop}:∀ {xs:List α} {ys:List β} {i:Nat} {x:α} {y:β},Paired F xs ys→xs[i]? =some x→ys[i]? =some y→F x y
 | _,_,_,_,_,.nil,e,_=>by simp at e
 | _,_,0,_,_,.cons r _,e,f=>by simp at e f;subst e;subst f;exact r
 | _,_,i+1,_,_,.cons _ q,e,f=>paired_i (i:=i) q (by simpa using e) (by simpa using f)
theorem dic_look (I:Inv X pins σ H s) {Qt:Value→Value→Prop} {ks ls:List (Key×T)} {f:Key→T→T} (hf:∀k v,(k,v)∈ks→valT ls k=some (f k v))
 (ih:∀k v,(k,v)∈ks→∀(x y:V) (a b:Value),Rep X.K (hid S H) x v→Rep X.K (hid S H) y (f k v)→RelV x a→RelV y b→Qt a b)
 {kvs lvs:List (Key×V)} {va vb:List (Key×Value)} (rd:RepD X.K (hid S H) kvs ks) (re:RepD X.K (hid S H) lvs ls) (ka:KV kvs va) (kb:KV lvs vb):∀k v',(k,v')∈va→∃y,valueAt vb k=some y∧Qt v' y:=by
 intro k v' hm
 obtain ⟨i,hi⟩:=List.getElem?_of_mem hm
 have li:i<va.length:=(List.getElem?_eq_some_iff.mp hi).1
 have lk:i<kvs.length:=by rw [ka.length];exact li
 have lt:i<ks.length:=by rw [←Paired.length rd];exact lk
 obtain ⟨z1,z2⟩:=paired_i ka (List.getElem?_eq_getElem lk) hi
 obtain ⟨y1,y2⟩:=paired_i rd (List.getElem?_eq_getElem lk) (List.getElem?_eq_getElem lt)
 have em:(k,ks[i].2)∈ks:=by
  have:ks[i].1=k:=by rw [←y1];exact z1
  rw [←this]
  exact List.getElem_mem lt
 obtain ⟨u,eu,ru⟩:=re.val (hf _ _ em)
 have rr:RelO (some u) (valueAt vb k):=by rw [←eu];exact kb.val k
 obtain ⟨y,hy,ry⟩:=rr.some_of
 exact ⟨y,hy,ih _ _ em _ _ _ _ y2 ru z2 ry⟩
theorem dic_all {Qt:Value→Value→Prop} {va vb:List (Key×Value)} (look:∀k v',(k,v')∈va→∃y,valueAt vb k=some y∧Qt v' y) (l1:va.length=vb.length):(va.length==vb.length&&va.all fun p=>(valueAt vb p.1).isSome&&true)=true:=by
 rw [l1]
 simp only [beq_self_eq_true,Bool.true_and,Bool.and_true,List.all_eq_true]
 rintro ⟨k,v'⟩ hm
 obtain ⟨y,hy,_⟩:=look k v' hm
 simp [hy]
theorem eqs_run (I:Inv X pins σ H s) {n:Nat} {t u:T} (h:EqS n t u):∀(v w:V) (a b:Value),Rep X.K (hid S H) v t→Rep X.K (hid S H) w u→RelV v a→RelV w b→PySem.W.EqTree X.prog X.w s (n+64) a b true:=by
 induction h with
 | @data n t u d e h1 h2 s1 s2 he=>
   intro v w a b r1 r2 ra rb
   obtain ⟨as,q1⟩:=Dp.reads I d v a (dp_of hid_same t v d r1 h1) ra
   obtain ⟨bs,q2⟩:=Dp.reads I e w b (dp_of hid_same u w e r2 h2) rb
   refine .leaf fun A hu=> ?_
   rw [←he]
   exact SeqAt.eqAt_reads d e A s a b as bs q1 q2 (SeqAt.canLay_of_shaped s1) (SeqAt.canLay_of_shaped s2) (SeqAt.room_of_shaped s1 (by omega))
 | @lst n xs ys hl h ih=>
   intro v w a b r1 r2 ra rb
   obtain ⟨p,vs,rfl,hp,rl⟩:=r1.lstI
   obtain ⟨q,ws,rfl,hq,rm⟩:=r2.lstI
   cases ra
   cases rb
   by_cases e:p=q
   · subst e;exact .same
   obtain ⟨i1,v1,p1,_⟩:=I.list (SqL.of (hid_same _ _ hp))
   obtain ⟨i2,v2,p2,_⟩:=I.list (SqL.of (hid_same _ _ hq))
   have sz:i1.toArray.size=i2.toArray.size:=by rw [List.size_toArray,List.size_toArray, ←v1.length, ←v2.length,rl.length,rm.length,hl]
   have:=PySem.W.EqTree.lists (n:=n+64) (e:=fun _=>true) e p1.isList p2.isList sz (fun j h1 h2=>by
    have g1:i1[j]? =some i1.toArray[j]:=by simp at h1 ⊢
    have g2:i2[j]? =some i2.toArray[j]:=by simp at h2 ⊢
    obtain ⟨x,ex,rx⟩:=vals_at v1 g1
    obtain ⟨y,ey,ry⟩:=vals_at v2 g2
    have l1:j<xs.length:=by rw [←rl.length];exact (List.getElem?_eq_some_iff.mp ex).1
    have l2:j<ys.length:=by rw [←rm.length];exact (List.getElem?_eq_some_iff.mp ey).1
    exact ih j _ _ (List.getElem?_eq_getElem l1) (List.getElem?_eq_getElem l2) x y _ _ (rl.at ex (List.getElem?_eq_getElem l1)) (rm.at ey (List.getElem?_eq_getElem l2)) rx ry)
   have e1:((List.range i1.toArray.size).all fun _=>true)=true:=List.all_eq_true.mpr fun _ _=>rfl
   rw [e1] at this
   have e2:n+1+64=n+64+1:=by omega
   rw [e2]
   exact this
 | @tup n xs ys hl h ih=>
   intro v w a b r1 r2 ra rb
   obtain ⟨p,vs,rfl,hp,rl⟩:=r1.tupI
   obtain ⟨q,ws,rfl,hq,rm⟩:=r2.tupI
   cases ra
   cases rb
   by_cases e:p=q
   · subst e;exact .same
   obtain ⟨i1,v1,p1,_⟩:=I.tuple (Same.sqT hid_same hp)
   obtain ⟨i2,v2,p2,_⟩:=I.tuple (Same.sqT hid_same hq)
   have sz:i1.toArray.size=i2.toArray.size:=by rw [List.size_toArray,List.size_toArray, ←v1.length, ←v2.length,rl.length,rm.length,hl]
   have:=PySem.W.EqTree.tuples (prog:=X.prog) (w:=X.w) (n:=n+64) (e:=fun _=>true) e p1 p2 (fun j h1 h2=>by
    have g1:i1[j]? =some i1.toArray[j]:=by simp at h1 ⊢
    have g2:i2[j]? =some i2.toArray[j]:=by simp at h2 ⊢
    obtain ⟨x,ex,rx⟩:=vals_at v1 g1
    obtain ⟨y,ey,ry⟩:=vals_at v2 g2
    have l1:j<xs.length:=by rw [←rl.length];exact (List.getElem?_eq_some_iff.mp ex).1
    have l2:j<ys.length:=by rw [←rm.length];exact (List.getElem?_eq_some_iff.mp ey).1
    exact ih j _ _ (List.getElem?_eq_getElem l1) (List.getElem?_eq_getElem l2) x y _ _ (rl.at ex (List.getElem?_eq_getElem l1)) (rm.at ey (List.getElem?_eq_getElem l2)) rx ry)
   have e1:((List.range (min i1.toArray.size i2.toArray.size)).all fun _=>true)=true:=List.all_eq_true.mpr fun _ _=>rfl
   rw [e1,sz] at this
   have e2:n+1+64=n+64+1:=by omega
   rw [e2]
   simpa using this
 | @dic n ks ls hl f hf h ih=>
   intro v w a b r1 r2 ra rb
   obtain ⟨p,o1,kvs,rfl,hp,rd⟩:=r1.dicI
   obtain ⟨q,o2,lvs,rfl,hq,re⟩:=r2.dicI
   cases ra
   cases rb
   by_cases e:p=q
   · subst e;exact .same
   obtain ⟨_,np,va,ka,da⟩:=dk_rd I.hok (.inr ⟨o1,(hid_some hp).1⟩:Rd H p (.dK kvs))
   obtain ⟨_,nq,vb,kb,db⟩:=dk_rd I.hok (.inr ⟨o2,(hid_some hq).1⟩:Rd H q (.dK lvs))
   have look:=dic_look I hf ih rd re ka kb
   have:=PySem.W.EqTree.dicts (prog:=X.prog) (w:=X.w) (knd:=mixKind X.prog X.w) (n:=n+64) (e:=fun _=>true) e np nq da db (fun k v' y hm hv=>by
    obtain ⟨y',hy,q⟩:=look k v' hm
    rw [hv] at hy
    cases hy
    exact q)
   have e1:=dic_all look (by rw [←ka.length, ←kb.length,Paired.length rd,Paired.length re,hl])
   rw [e1] at this
   have e2:n+1+64=n+64+1:=by omega
   rw [e2]
   exact this
end
end M3
namespace M3
open PySem L2
def flatV (t:T):Bool:=match t with
 | .dic _=>false
 | .tup _=>false
 | _=>true
def rEqS (K:PySem.W.Frag) (b:Bool):R2:=fun x y H Q=>∃S n t u,n≤100∧Rep K (hid S H) x t∧Rep K (hid S H) y u∧EqS n t u∧Q (.bl b) H
section
variable {X:Cx} {K:PySem.W.Frag}
theorem op_eqS (h:X.K=K) (hu:X.A.units+200<cLine):OpR X (compareOp .Eq) (rEqS K true):=by
 subst h
 intro pins s σ H x y v u Q I rx ry h
 obtain ⟨S,n,t,t',hn,r1,r2,he,q⟩:=h
 have fin:EP X pins σ Q (.bool true) s:=⟨.bl true,H,I,rfl,q⟩
 cases he with
 | data h1 h2 s1 s2 hh=>
   obtain ⟨as,q1⟩:=Dp.reads I _ x v (dp_of hid_same _ x _ r1 h1) rx
   obtain ⟨bs,q2⟩:=Dp.reads I _ y u (dp_of hid_same _ y _ r2 h2) ry
   refine SeqAt.compareEq_shaped q1 q2 s1 s2 (by omega) ?_
   rw [hh]
   exact fin
 | @lst n xs ys hl h=>
   obtain ⟨p,vs,rfl,hp,rl⟩:=r1.lstI
   obtain ⟨p',ws,rfl,hq,rm⟩:=r2.lstI
   cases rx
   cases ry
   obtain ⟨i1,v1,p1,_⟩:=I.list (SqL.of (hid_same _ _ hp))
   obtain ⟨i2,v2,p2,_⟩:=I.list (SqL.of (hid_same _ _ hq))
   have sz:i1.toArray.size=i2.toArray.size:=by rw [List.size_toArray,List.size_toArray, ←v1.length, ←v2.length,rl.length,rm.length,hl]
   refine PySem.W.eq_listsT (n:=n+64) (e:=fun _=>true) p1.isList p2.isList sz (fun j h1 h2=> ?_) (by omega) ?_
   · have g1:i1[j]? =some i1.toArray[j]:=by simp at h1 ⊢
     have g2:i2[j]? =some i2.toArray[j]:=by simp at h2 ⊢
     obtain ⟨x,ex,rx⟩:=vals_at v1 g1
     obtain ⟨y,ey,ry⟩:=vals_at v2 g2
     have l1:j<xs.length:=by rw [←rl.length];exact (List.getElem?_eq_some_iff.mp ex).1
     have l2:j<ys.length:=by rw [←rm.length];exact (List.getElem?_eq_some_iff.mp ey).1
     exact eqs_run I (h j _ _ (List.getElem?_eq_getElem l1) (List.getElem?_eq_getElem l2)) x y _ _ (rl.at ex (List.getElem?_eq_getElem l1)) (rm.at ey (List.getElem?_eq_getElem l2)) rx ry
   · rw [show ((List.range i1.toArray.size).all fun _=>true)=true from List.all_eq_true.mpr fun _ _=>rfl]
     exact fin
 | @tup n xs ys hl h=>
   obtain ⟨p,vs,rfl,hp,rl⟩:=r1.tupI
   obtain ⟨p',ws,rfl,hq,rm⟩:=r2.tupI
   cases rx
   cases ry
   obtain ⟨i1,v1,p1,_⟩:=I.tuple (Same.sqT hid_same hp)
   obtain ⟨i2,v2,p2,_⟩:=I.tuple (Same.sqT hid_same hq)
   have sz:i1.toArray.size=i2.toArray.size:=by rw [List.size_toArray,List.size_toArray, ←v1.length, ←v2.length,rl.length,rm.length,hl]
   refine PySem.W.eq_tuplesT (n:=n+64) (e:=fun _=>true) p1 p2 (fun j h1 h2=> ?_) (by omega) ?_
   · have g1:i1[j]? =some i1.toArray[j]:=by simp at h1 ⊢
     have g2:i2[j]? =some i2.toArray[j]:=by simp at h2 ⊢
     obtain ⟨x,ex,rx⟩:=vals_at v1 g1
     obtain ⟨y,ey,ry⟩:=vals_at v2 g2
     have l1:j<xs.length:=by rw [←rl.length];exact (List.getElem?_eq_some_iff.mp ex).1
     have l2:j<ys.length:=by rw [←rm.length];exact (List.getElem?_eq_some_iff.mp ey).1
     exact eqs_run I (h j _ _ (List.getElem?_eq_getElem l1) (List.getElem?_eq_getElem l2)) x y _ _ (rl.at ex (List.getElem?_eq_getElem l1)) (rm.at ey (List.getElem?_eq_getElem l2)) rx ry
   · rw [show ((List.range (min i1.toArray.size i2.toArray.size)).all fun _=>true)=true from List.all_eq_true.mpr fun _ _=>rfl,sz]
     simpa using fin
 | @dic n ks ls hl f hf h=>
   obtain ⟨p,o1,kvs,rfl,hp,rd⟩:=r1.dicI
   obtain ⟨p',o2,lvs,rfl,hq,re⟩:=r2.dicI
   cases rx
   cases ry
   obtain ⟨_,np,va,ka,da⟩:=dk_rd I.hok (.inr ⟨o1,(hid_some hp).1⟩:Rd H p (.dK kvs))
   obtain ⟨_,nq,vb,kb,db⟩:=dk_rd I.hok (.inr ⟨o2,(hid_some hq).1⟩:Rd H p' (.dK lvs))
   have look:=dic_look I hf (fun k v e=>eqs_run (S:=S) I (h k v e)) rd re ka kb
   refine PySem.W.eq_dictsT (knd:=mixKind X.prog X.w) (n:=n+64) (e:=fun _=>true) np nq da db (fun k v' y hm hv=> ?_) (by omega) ?_
   · obtain ⟨y',hy,z⟩:=look k v' hm
     rw [hv] at hy
     cases hy
     exact z
   · rw [dic_all look (by rw [←ka.length, ←kb.length,Paired.length rd,Paired.length re,hl])]
     exact fin
end
theorem Room.units200 {k:Nat} {A:Around} (r:Room k A):A.units+200<cLine:=by have:=r.un;omega
def eqSm3:T→T→(T→Prop)→Prop:=fun x y Q=>(∃n,n≤100∧EqS n x y)∧Q (.bl true)
section
variable {K:PySem.W.Frag}
theorem rl_eqSm:RL2 K (rEqS K true) eqSm3:=by
 intro c x y Q3 hh Hb G A σ3 σ H vx vy Q R rx ry k
 obtain ⟨⟨n,hn,he⟩,q⟩:=hh
 exact ⟨_,n,x,y,hn,rx,ry,he,k _ _ H (Le.refl R.inv) (.bl _) q⟩
end
end M3
namespace M3
open PySem L2
end M3
namespace M3
open PySem L2
end M3
namespace M3
open PySem L2 PySem.Froz PyProof.Rows
end M3
namespace M3
open PySem L2 PySem.Froz PyProof.Rows
end M3
namespace M3
open PySem L2 PySem.Froz PyProof.Rows
def putS (l:List Str) (k:Str):List Str:=if k∈l then l else k::l
end M3
namespace M3
open PySem L2 PySem.Froz PyProof.Rows PySem.Spec
end M3
namespace M3
open PySem L2 PySem.Froz PyProof.Rows
section
variable {K:PySem.W.Frag} {c:Cf} {W:WX} {te:TE} {t:E3}
theorem lift_ofFr (h:LiftFr K c W te t):Lift K c W te t:=by
 intro σ3 Q3 X ht Hb G A σ H Q R k e
 refine h _ _ _ ht Hb G A σ H Q R (fun D vs ds H' f q=> ?_) e
 have sm:Same (hid (D::c.S G A) H') (hid (c.S G A) H'):=hid_mono fun a h=>List.mem_cons_of_mem _ h
 exact k _ _ H' f.le (.mkL (hid_mk f.at_ f.nD) (f.rep.mono sm)) q
end
theorem repL_strs {K:PySem.W.Frag} {H:Hp}:∀ys:List Str,RepL K H (ys.map V.str) (ys.map T.str)
 | []=>.nil
 | y::ys=>.cons (.str y) (repL_strs ys)
end M3
namespace M3
open PySem PySem.Spec PySem.Froz PyProof.Rows L2
def setOf (xs:List Str):List Str:=xs.foldl putS []
end M3
namespace M3
open PySem L2
section
variable {K:PySem.W.Frag} {c:Cf} {Hb H H':Hp} {G L0 L L':List Addr} {M M':Mem} {σ3:List Sl} {σ:St} {W:WX} {t:TA} {x:A4} {n:Nat} {E:XK} {dvs:List V} {dts:List T}
def fn34 (n:Nat) (f:F3) (x:A4) (dts:List T):E4:=fun σ M Q X=>x σ M (fun ds M1=>(ds++dts).length=n∧f (ds++dts) (fun d=>Q d M1) (fun _=>False)) X
theorem lift_fn34 {f:F3} (hx:LiftA4 K c W t x) (hd:∀H,RepL K H dvs dts):Lift4 K c W (tCall (sp3 K n f) dvs E t) (fn34 n f x dts):=by
 intro σ3 M Q4 X h Hb G L0 L σ H Q R k e
 refine hx _ _ _ _ h Hb G L0 L σ H _ R (fun vs ds L1 M1 H1 R1 s1 rs q=> ?_) e
 refine sp3_call R1.r3 (by rw [S_nons];exact rs.append (hd _)) q.1 q.2 (fun v d H' l r q=> ?_) (fun cls dd x H' L r q=>q.elim)
 rw [S_nons] at r
 exact k v d L1 M1 H' (R1.le l) (Same.trans s1 l.vis4) r q
end
end M3
namespace M3
open PySem PySem.Spec PyProof.Rows L2
end M3
namespace M3
open PySem PySem.Spec PyProof.Rows L2
section
variable {K:PySem.W.Frag} {c:Cf} {W:WX} {ta tb:TE} {a b:E3} {X:Cx}
def m13 (r3:Str→T→(T→Prop)→Prop) (a b:E3):E3:=fun σ Q X=>a σ (fun x=>ob (asS x) fun s=>b σ (fun y=>r3 s y Q) X) X
end
end M3
set_option maxHeartbeats 1000000
namespace M3
open PySem PySem.Spec PyProof.Rows L2 LamX
structure LamP (sc scope:Scope) (b:Str):Prop where
 kind:scope.kind= .function
 co:scope.isCoroutine=false
 gen:scope.isGenerator=false
 own:∀y∈scope.names,(y.2= .local→y.1=b)∧y.2≠ .cell
 lb:scope.names.lookup b=some .local
 free:∀y∈scope.names,y.2= .free→sc.names.lookup y.1=some .cell∨sc.names.lookup y.1=some .free
 nn:∀y∈scope.names,y.1≠Str.empty
theorem LamP.has {X:Cx} {scope:Scope} {b:Str} (L:LamP X.env.scope scope b) (ok:X.Ok):∀y∈scope.names,y.2= .free→∃c,X.env.cells.lookup y.1=some c:=fun y hy e=>by
 rcases L.free y hy e with k | k
 · exact ok.has _ (.inl k)
 · exact ok.has _ (.inr k)
end M3
set_option maxHeartbeats 1000000
namespace M3
open PySem PySem.Spec PyProof.Rows L2 LamX PySem.W PySem.Calls
theorem Un.untracked {fs ex:List Addr} {H H1:Hp} {h h1 h2:Heap} {x:Addr} (u:Un fs ex H H1 h h1) (k:∀b o,b≠x→h1.get? b=some o→h2.get? b=some o) (hx:h.get? x=none):Un fs ex H H1 h h2:=by
 have ne:∀ {b:Addr} {o:Obj},h.get? b=some o→b≠x:=fun {b o} e z=>by rw [z,hx] at e;cases e
 exact ⟨fun b o e n h1 h2=>k b o (ne e) (u.keep b o e n h1 h2),fun b o e n h1 h2=>by
  obtain ⟨sl,q⟩:=u.slot b o e n h1 h2
  exact ⟨sl,k b _ (ne e) q⟩,u.free,fun b o e hb=>by
  obtain ⟨o',q⟩:=u.there b o e hb
  exact ⟨o',k b _ (ne e) q⟩,u.tups,u.frzs,u.tbls⟩
theorem HOk.untracked {P:Program} {w:World} {H:Hp} {h h':Heap} {x:Addr} (z:HOk P w H h) (hx:H x=none) (k:∀b o,b≠x→h.get? b=some o→h'.get? b=some o):HOk P w H h':=fun a o e=>
 (z a o e).stay (fun b u hb q=>k b u (fun y=>by
   subst y
   rcases hb with hb | hb
   · subst hb;rw [hx] at e;cases e
   · rw [hx] at hb;cases hb) q) (fun _ q=>q) fun _ _ q=>q
section
variable {X:Cx} {pins:List (Addr×Obj)} {σ:L2.St} {H0:Hp} {s0 s:Shared} {a kS f c':Addr} {k:Nat} {b:Str} {tb:TE} {params:Arguments} {body:Expr} {scope:Scope} {pm ctv:Value} {Qk:List V→Hp→Prop} {P:PySem.Fin→Shared→Prop} {E:Value→Shared→Prop} {A:Around} {e1:Nat}
structure KSt (X:Cx) (H0 H:Hp) (s0 s:Shared) (a kS:Addr) (e1:Nat) (ks:List V):Prop where
 os:s.os=s0.os
 bare:AllBare s.gens
 un:Un (frs X.stack) [] H0 H s0.heap s.heap
 hok:HOk X.prog X.w H s.heap
 nk:∃kA e,s.heap.get? kS=some (seqObj "list" kA e)∧Vals ks kA.toList
 na:s.heap.get? a=some (seqObj "list" #[] e1)
 fk:H kS=none
 fa:H a=none
theorem KSt.inv (z:KSt X H0 H s0 s a kS e1 ks) (I0:Inv X pins σ H0 s0):Inv X pins σ H s:=I0.call' (ch:=[]) z.os z.un z.hok z.bare fun b hb=>absurd hb (by simp)
theorem KSt.push (z:KSt X H0 H s0 s a kS e1 ks) (hk0:s0.heap.get? kS=none) (hka:kS≠a) (nfk:kS ∉ frs X.stack) (nfa:a ∉ frs X.stack) {H1:Hp} {s1:Shared} {v:V} {u:Value} (os:s1.os=s.os) (bare:AllBare s1.gens) (un:Un (frs X.stack) [] H H1 s.heap s1.heap) (hok:HOk X.prog X.w H1 s1.heap) (r:RelV v u)
 {g:Shared} (hg:g={s1 with heap:=s1.heap.update kS (Obj.mapSeq (·.push u))}):KSt X H0 H1 s0 g a kS e1 (ks++[v]):=by
 obtain ⟨kA,e,nk,hv⟩:=z.nk
 have nk2:s1.heap.get? kS=some (seqObj "list" kA e):=un.keep kS _ nk z.fk nfk (by simp)
 have na2:s1.heap.get? a=some (seqObj "list" #[] e1):=un.keep a _ z.na z.fa nfa (by simp)
 have fk2:H1 kS=none:=un.free kS _ nk z.fk (by simp)
 have fa2:H1 a=none:=un.free a _ z.na z.fa (by simp)
 have sb:=Heap.SameBut.update s1.heap kS (Obj.mapSeq (·.push u))
 obtain ⟨c2,hc2⟩:∃c2,(s1.heap.update kS (Obj.mapSeq (·.push u))).get? kS=some (seqObj "list" (kA.push u) c2):=⟨_,get?_update_seq nk2 (·.push u)⟩
 have kk:∀b o,b≠kS→s1.heap.get? b=some o→(s1.heap.update kS (Obj.mapSeq (·.push u))).get? b=some o:=fun b o hb e=>(sb.2 b hb).trans e
 subst hg
 refine ⟨os.trans z.os,bare,Un.untracked (z.un.trans un) kk hk0,HOk.untracked hok fk2 kk,⟨_,_,hc2, ?_⟩,(sb.2 a hka.symm).trans na2,fk2,fa2⟩
 rw [Array.toList_push]
 exact hv.append (.cons r .nil)
end
end M3
set_option maxHeartbeats 1000000
namespace M3
open PySem PySem.Spec PyProof.Rows L2 LamX PySem.W PySem.Calls
end M3
set_option maxHeartbeats 1000000
namespace M3
open PySem PySem.Spec PyProof.Rows L2 LamX PySem.W PySem.Calls
section
variable {K:PySem.W.Frag} {fr:Bool} {p cc:Addr} {P:Addr×Str} {Ts:List (Addr×Str)} {Hb H H1:Hp} {G:List Addr} {A:List (Option Addr)} {σ3:List Sl} {σ:L2.St}
theorem Le.code (L:Le (potR fr p cc (P::Ts)) G A H H1) (hi:(potR fr p cc (P::Ts)).I H) {c':Addr} {q:Str} (h:H c'=some (CodeO c' q)):H1 c'=some (CodeO c' q):=by
 by_cases hS:c'∈(potR fr p cc (P::Ts)).S G A
 · rcases mem_S.mp hS with z | z | z
   · exfalso
     have z:c'∈p::cc::(P::Ts).map (·.1):=z
     obtain ⟨⟨cs,i,n,s,h1,h2,_⟩,ht⟩:=hi
     rcases List.mem_cons.mp z with z | z
     · rw [z,h1] at h
       have h:=Option.some.inj h
       unfold CodeO at h
       cases h
     · rcases List.mem_cons.mp z with z | z
       · rw [z,h2] at h
         have h:=Option.some.inj h
         unfold CodeO at h
         cases h
       · obtain ⟨q',hq,e⟩:=List.mem_map.mp z
         obtain ⟨ps,e2,_⟩:=ht q' hq
         rw [←e,e2] at h
         exact codeO_ne ps (Option.some.inj h).symm
   · rw [L.own c' (List.mem_append.mpr (.inl z))];exact h
   · rw [L.own c' (List.mem_append.mpr (.inr z))];exact h
 · exact (hid_some (L.vis _ _ (hid_mk h hS rfl))).1
end
end M3
set_option maxHeartbeats 1000000
namespace M3
open PySem PySem.Spec PyProof.Rows L2
theorem RepL.rep {K:PySem.W.Frag} {H:Hp} {vs:List V} {ts:List T} (r:RepL K H vs ts):∀n:Nat,RepL K H (List.replicate n vs).flatten (List.replicate n ts).flatten
 | 0=>.nil
 | n+1=>by
   rw [List.replicate_succ,List.replicate_succ,List.flatten_cons,List.flatten_cons]
   exact r.append (RepL.rep r n)
end M3
namespace M3
open PySem PySem.Spec PySem.Froz PyProof.Rows L2
end M3
set_option maxHeartbeats 1000000
namespace M3
open PySem L2
def plainT:T→Bool
 | .non=>true
 | .bl _=>true
 | .int _=>true
 | .str _=>true
 | _=>false
section
variable {K:PySem.W.Frag} {c:Cf} {W:WX} {te:TE} {t:E3} {i:Nat}
theorem Rep.plain {Hv Hv':Hp} {v:V} {d:T} (r:Rep K Hv v d) (h:plainT d=true):Rep K Hv' v d:=by
 cases d with
 | non=>cases r;exact .non
 | bl b=>cases r;exact .bl b
 | int n=>cases r;exact .int n
 | str z=>cases r;exact .str z
 | _=>cases h
end
end M3
set_option maxHeartbeats 1000000
namespace M3
open PySem L2
end M3
set_option maxHeartbeats 1000000
namespace M3
open PySem PySem.Spec PyProof.Rows L2
def SideO (K:PySem.W.Frag) (C:Addr) (y:V) (H:Hp):Prop:=(∃b dy gs,y= .ref b∧H b=some (.ins C dy gs))∨∃n,TyX K H y (.type n)∧PySem.W.notFirst K C (.type n)=true
theorem SideO.look {X:Cx} {pins:List (Addr×Obj)} {s:Shared} {σ:L2.St} {H:Hp} {C:Addr} {y:V} {v:Value} (h:SideO X.K C y H) (I:Inv X pins σ H s) (ry:RelV y v):∃tb,(∀M:Model,PySem.W.Looks M s.heap (typeOf v) tb)∧PySem.W.notFirst X.K C tb=true:=by
 rcases h with ⟨b,dy,gs,rfl,hb⟩ | ⟨n,ty,hn⟩
 · cases ry
   obtain ⟨mB,J',_⟩:=ins_get I.hok hb
   obtain ⟨od',J',_⟩:=J'.look
   exact ⟨.ref C,fun M=>J'.type,by simp [PySem.W.notFirst]⟩
 · obtain ⟨P,Z,p,_⟩:=kit_of I ry ty
   exact ⟨_,fun M=>Z.ty M s.heap I.kIn p,hn⟩
end M3
set_option maxHeartbeats 1000000
namespace M3
open PySem PySem.Spec PyProof.Rows L2
end M3
set_option maxHeartbeats 1000000
namespace M3
open PySem PySem.Spec PyProof.Rows L2 PySem.W
end M3
set_option maxHeartbeats 1000000
namespace M3
open PySem PySem.Spec PyProof.Rows L2 LamX PySem.W PySem.Calls
end M3
set_option maxHeartbeats 1000000
namespace M3
open PySem PySem.Spec PyProof.Rows L2 LamX PySem.W PySem.Calls
end M3
set_option maxHeartbeats 1000000
namespace M3
open PySem PySem.Spec PyProof.Rows L2
end M3
set_option maxHeartbeats 1000000
namespace M3
open PySem L2
structure FrO (K:PySem.W.Frag) (c:Cf) (G:List Addr) (A:List (Option Addr)) (H H':Hp) (D:Addr) (d:T):Prop where
 nD:D ∉ c.S G A
 vis:Same (hid (c.S G A) H) (hid (D::c.S G A) H')
 own:∀a∈G++addrs A,H' a=H a
 inv:c.I H'
 rep:OwnRep K (hid (D::c.S G A) H') H' D d
def LiftFrO (K:PySem.W.Frag) (c:Cf) (W:WX) (te:TE) (t:E3):Prop:=
 ∀σ3 Q3 X,t σ3 Q3 X→∀Hb G A σ H Q,R3 K c Hb G A σ3 σ H→
  (∀D d H',FrO K c G A H H' D d→Q3 d→Q (.ref D) H')→
  (∀cls dd x H',Le c G A H H'→XRep K (hid (c.S G A) H') cls dd x→X x→W cls dd σ H')→te σ H Q
section
variable {K:PySem.W.Frag} {c:Cf} {W:WX} {te:TE} {t:E3} {i:Nat} {Hb H H':Hp} {G:List Addr} {A:List (Option Addr)} {σ3:List Sl} {σ:St} {D:Addr} {d:T}
theorem FrO.le (f:FrO K c G A H H' D d):Le c G A H H':=⟨Same.trans f.vis (hid_mono fun a h=>List.mem_cons_of_mem _ h),f.own,f.inv⟩
theorem LiftFr.o (h:LiftFr K c W te t):LiftFrO K c W te t:=fun σ3 Q3 X ht Hb G A σ H Q R k e=>
 h _ _ _ ht Hb G A σ H Q R (fun D vs ds H' f q=>k D (.lst ds) H' ⟨f.nD,f.vis,f.own,f.inv,vs,f.at_,f.rep⟩ q) e
theorem LiftFrK.o (h:LiftFrK K c W te t):LiftFrO K c W te t:=fun σ3 Q3 X ht Hb G A σ H Q R k e=>
 h _ _ _ ht Hb G A σ H Q R (fun D kvs ts H' f q=>k D (.dic ts) H' ⟨f.nD,f.vis,f.own,f.inv,kvs,f.at_,f.key,f.rep⟩ q) e
theorem lift_retO (h:LiftFrO K c W te t) (ef:c.fr=true:=by rfl):LiftS K c W (tRet te) (ret3 t):=by
 intro N σ3 hh Hb G A σ H D R Z
 refine h _ _ _ hh Hb G A σ H _ R (fun D' d H' f q=> ?_) (fun cls dd x H' L r q=>Z.xn _ _ _ _ _ _ _ (R.le L) r q)
 have sub:∀a∈c.S0++G,a∈c.S G A:=fun a z=>by rcases List.mem_append.mp z with z | z;exact mem_S.mpr (.inl z);exact mem_S.mpr (.inr (.inl z))
 have sm:Same (hid (D'::c.S G A) H') (hid (D'::(c.S0++G)) H'):=hid_mono fun a z=>by
  rcases List.mem_cons.mp z with z | z
  · rw [z];exact List.mem_cons_self ..
  · exact List.mem_cons_of_mem _ (sub a z)
 exact Z.rt _ _ _ (.new ef ⟨D',rfl,fun z=>f.nD (sub _ z),f.inv,Same.trans R.base (Same.trans f.vis sm),fun a ha=>(f.own a (List.mem_append.mpr (.inl ha))).trans (R.gk a ha).1,f.rep.mono sm rfl⟩) q
def ofL3 (t:E3):E3:=fun σ Q X=>t σ (fun d=>ob (asL d) fun xs=>Q (.lst xs)) X
theorem lift_ofL (h:LiftFrO K c W te t):Lift K c W te (ofL3 t):=by
 intro σ3 Q3 X ht Hb G A σ H Q R k e
 refine h _ _ _ ht Hb G A σ H Q R (fun D d H' f q=> ?_) e
 obtain ⟨xs,ed,q⟩:=ob_iff.mp q
 cases asL_is ed
 obtain ⟨vs,h1,h2⟩:=f.rep
 have sm:Same (hid (D::c.S G A) H') (hid (c.S G A) H'):=hid_mono fun a h=>List.mem_cons_of_mem _ h
 exact k _ _ H' f.le (.mkL (hid_mk h1 f.nD) (h2.mono sm)) q
end
def cf1:Cf:=⟨[],fun _=>True,fun _ _ _ _ h=>h,fun _ _ a h=>(by cases h),fun _=>True,fun _=>trivial,fun _ _=>trivial,true⟩
def spN (K:PySem.W.Frag) (n:Nat) (f:F3):Sp:=fun vs H Q E=>∃S ds,ds.length=n∧RepL K (hid S H) vs ds∧(∀a∈S,H a≠none)∧∃Q3 X,f ds Q3 X∧
 (∀D d H',D ∉ S→Same (hid S H) (hid (D::S) H')→(∀a∈S,H' a=H a)→OwnRep K (hid (D::S) H') H' D d→Q3 d→Q (.ref D) H')∧
 (∀cls dd x H',Same (hid S H) (hid S H')→(∀a∈S,H' a=H a)→XRep K (hid S H') cls dd x→X x→E cls dd H')
theorem spN_len {K:PySem.W.Frag} {n:Nat} {f:F3} {ps:List Str} (h:ps.length=n):∀vs H Q E,spN K n f vs H Q E→vs.length=ps.length:=by
 intro vs H Q E h'
 obtain ⟨S,ds,hl,r,_⟩:=h'
 rw [r.length,hl,h]
theorem xrep_fin {K:PySem.W.Frag} {c:Cf} {G:List Addr} {A:List (Option Addr)} {H':Hp} {cls:Value} {dd:Option Addr} {xn:Xn} (r:XRep K (hid (c.S G A) H') cls dd xn):XRep K (hid (c.S0++G) H') cls dd xn:=by
 obtain ⟨e,rx⟩:=r
 refine ⟨e, ?_⟩
 cases dd with
 | none=>exact rx
 | some d=>
   obtain ⟨fs,h1,h2,h3⟩:=rx
   exact ⟨fs,hid_fin _ _ h1,h2,h3.mono hid_fin⟩
theorem bodyN {K:PySem.W.Frag} {n:Nat} {f:F3} {N:List Str} {t:TS} {x:S3} {W:WX} {vs:List V} {H:Hp} {Q:VK} {E:XK} (h:spN K n f vs H Q E) (hW:∀cls dd σ H',E cls dd H'→W cls dd σ H')
 (lt:LiftS K cf1 W t x) (hb:∀ds Q3 X,ds.length=n→f ds Q3 X→x {nx:=fun _=>False,rt:=Q3,xn:=fun _=>X} (start3 N.length ds)):t {nx:=fun _ H'=>Q .non H',rt:=Q} (start N vs) H:=by
 obtain ⟨S,ds,hl,r,hS,Q3,X,hf,hq,hx⟩:=h
 refine lt _ _ (hb ds Q3 X hl hf) H S _ _ H _ (r3_start (c:=cf1) (N:=N) trivial (fun a h=>⟨hS a h,fun z=>by cases z⟩) (fun _=>trivial) r) ⟨fun _ _ _ _ _ z=>z.elim, ?_,fun _ _ _ _ _ z=>z.elim,fun _ _ _ _ _ z=>z.elim, ?_⟩
 · rintro v d H' ⟨D,rfl,nD,_,base,gk,rep⟩ q
   exact hq D d H' nD base gk rep q
 · intro A σ3 σ H' cls dd xn R rx q
   exact hW _ _ _ _ (hx cls dd xn H' R.fin.base (fun a h=>R.fin.gk a h) (xrep_fin rx) q)
section
variable {K:PySem.W.Frag} {c:Cf} {W:WX} {n:Nat} {f:F3} {Hb H1:Hp} {G:List Addr} {A:List (Option Addr)} {σ3:List Sl} {σ:St} {vs:List V} {ds:List T} {Q:VK} {E:XK} {Q3:T→Prop} {X:X3} {t:TA} {x:A3} {dvs:List V} {dts:List T}
theorem spN_call (R1:R3 K c Hb G A σ3 σ H1)
 (rx:RepL K (hid (c.S G A) H1) vs ds) (hl:ds.length=n) (hf:f ds Q3 X) (k:∀D d H',FrO K c G A H1 H' D d→Q3 d→Q (.ref D) H') (e:∀cls dd x H',Le c G A H1 H'→XRep K (hid (c.S G A) H') cls dd x→X x→E cls dd H'):spN K n f vs H1 Q E:=by
 have keep:∀ {H':Hp},(∀a∈c.S G A,H' a=H1 a)→(∀a∈G++addrs A,H' a=H1 a):=fun s2 a ha=>s2 a (mem_S.mpr (by rcases List.mem_append.mp ha with z | z;exact .inr (.inl z);exact .inr (.inr z)))
 refine ⟨c.S G A,ds,hl,rx,fun a h=>R1.there h,Q3,X,hf,fun D d H' nD s1 s2 rep q=> ?_,fun cls dd x H' s1 s2 r q=> ?_⟩
 · refine k D d H' ⟨nD,s1,keep s2,c.st H1 H' (fun a ha=>s2 a (mem_S.mpr (.inl ha))) (fun a φ z=> ?_) R1.inv,rep⟩ q
   by_cases h:a∈c.S G A
   · rw [s2 a h];exact z
   · exact (hid_some (s1 _ _ (hid_mk z h))).1
 · exact e cls dd x H' ⟨s1,keep s2,c.st H1 H' (fun a ha=>s2 a (mem_S.mpr (.inl ha))) (sameX_of s1 s2) R1.inv⟩ r q
theorem lift_methN {ta:TE} {a:E3} {C:Addr} {m:Str} (hE:∀cls dd σ H,W cls dd σ H→E cls dd H) (ha:Lift K c W ta a) (hx:LiftA K c W t x) (hd:∀H,RepL K H dvs dts):LiftFrO K c W (tMeth C m (spN K n f) dvs E ta t) (meth3 C m n f a x dts):=by
 intro σ3 Q3 X h Hb G A σ H Q R k e
 refine ha _ _ _ h Hb G A σ H _ R (fun v d H1 L1 r q=> ?_) e
 obtain ⟨⟨C',ts⟩,ed,e1,hl,q1⟩:=ob_iff.mp q
 cases asIns_is ed
 cases e1
 obtain ⟨p,dx,fs,rfl,hp,hk,hr⟩:=r.insI
 refine ⟨p,dx,fs,rfl,hid_same _ _ hp,lookup_none_keys hk hl, ?_⟩
 refine hx _ _ _ q1 Hb G A σ H1 _ (R.le L1) (fun vs ds H2 L2 rx hh=> ?_) (fun cls dd x H' L=>e cls dd x H' (L1.trans L))
 have L:=L1.trans L2
 exact spN_call ((R.le L1).le L2) (.cons (r.mono L2.vis) (rx.append (hd _))) hh.1 hh.2 (fun D d H' f q=>k D d H' ⟨f.nD,Same.trans L.vis f.vis,fun a ha=>(f.own a ha).trans (L.own a ha),f.inv,f.rep⟩ q) (fun cls dd x H' L' r q=>hE _ _ σ _ (e cls dd x H' (L.trans L') r q))
end
section
variable {K:PySem.W.Frag} {c:Cf} {W:WX} {i:Nat} {Hb H:Hp} {G:List Addr} {A:List (Option Addr)} {σ3:List Sl} {σ:St}
def isSelf:T→Bool
 | .tup _=>true
 | _=>false
theorem OwnRep.ty_ {Hv:Hp} {a:Addr} {d:T} {n:String} (r:OwnRep K Hv H a d) (h:tyn d=some n) (hn:isSelf d=false):TyX K H (.ref a) (.type n):=by
 cases d with
 | lst xs=>cases h;obtain ⟨vs,h1,_⟩:=r;exact .base (.lst h1)
 | dic ts=>cases h;obtain ⟨vs,h1,_⟩:=r;exact .base (.dK h1)
 | tup xs=>cases hn
 | kd w es=>cases h
 | _=>exact r.elim
theorem RepD.mem {Hv:Hp} {kvs:List (Key×V)} {ts:List (Key×T)} (r:RepD K Hv kvs ts) {p:Key×V} (h:p∈kvs):∃q∈ts,p.1=q.1∧Rep K Hv p.2 q.2:=by
 induction r with
 | nil=>cases h
 | cons e _ ih=>
   rcases List.mem_cons.mp h with h | h
   · subst h;exact ⟨_,List.mem_cons_self ..,e⟩
   · obtain ⟨q,hq,e⟩:=ih h
     exact ⟨q,List.mem_cons_of_mem _ hq,e⟩
end
end M3
set_option maxHeartbeats 1000000
namespace PySem
end PySem
namespace M3
open PySem PySem.Spec PyProof.Rows L2
def Kd.seq:Kd→Prop
 | .s _=>False
 | _=>True
section
variable {K:PySem.W.Frag} {c:Cf} {W:WX}
def newD3:E3:=fun _ Q _=>Q (.dic [])
theorem lift_frNewK:LiftFrK K c W tDNewK newD3:=by
 intro σ3 Q3 X h Hb G A σ H Q R k e p hp
 exact k p [] [] _ (R.frK (D:=p) hp rfl .nil) h
end
end M3
set_option maxHeartbeats 1000000
namespace M3
open PySem L2
end M3
set_option maxHeartbeats 1000000
namespace M3
open PySem L2
structure TabD (K:PySem.W.Frag) (mg:Str→Option Value) (base:Heap) (nm:Str) (st:Stmt) (ps:List Str) (Ts:List (Addr×Str)):Prop where
 ex:∃(f cL PL:Addr) (kV doc pm ct oc:Value) (an od:Option Addr) (osl:Array (Option Value)),K.lookup f=some ⟨oc,od,.func (PySem.W.fnOf nm nm (defArgs st) (defBody st) (defScope st) .none kV doc pm an (.ref cL) ct),osl⟩∧PySem.W.codeIn K (.ref cL) nm=true∧LamX.TabB base mg cL PL∧
  (PL,(nm++".<locals>.":Str)++"<lambda>")∈Ts∧(∀p∈Ts,p.1=PL→p.2=(nm++".<locals>.":Str)++"<lambda>")∧mg nm=some (.ref f)∧PySem.W.keepIn K (.ref f)=true∧L2.Binds K (PySem.W.fnOf nm nm (defArgs st) (defBody st) (defScope st) .none kV doc pm an (.ref cL) ct) ps []
structure TabM (K:PySem.W.Frag) (mg:Str→Option Value) (base:Heap) (C:Addr) (nm qual:Str) (st:Stmt) (ps:List Str) (Ts:List (Addr×Str)):Prop where
 ex:∃(f cL PL:Addr) (kV doc pm ct oc:Value) (an od:Option Addr) (osl:Array (Option Value)),K.lookup f=some ⟨oc,od,.func (PySem.W.fnOf nm qual (defArgs st) (defBody st) (defScope st) .none kV doc pm an (.ref cL) ct),osl⟩∧PySem.W.codeIn K (.ref cL) qual=true∧LamX.TabB base mg cL PL∧
  (PL,(qual++".<locals>.":Str)++"<lambda>")∈Ts∧(∀p∈Ts,p.1=PL→p.2=(qual++".<locals>.":Str)++"<lambda>")∧PySem.W.findIn K (.ref C) nm=some (some (.ref f))∧PySem.W.isFn K (.ref f)=true∧PySem.W.keepIn K (.ref f)=true∧L2.Binds K (PySem.W.fnOf nm qual (defArgs st) (defBody st) (defScope st) .none kV doc pm an (.ref cL) ct) ps []
end M3
set_option maxHeartbeats 1000000
namespace L2
open PySem PySem.Spec PyProof.Rows
end L2
namespace M3
open PySem L2
theorem RepD.has {K:PySem.W.Frag} {H:Hp} {kvs:List (Key×V)} {ts:List (Key×T)} (r:RepD K H kvs ts) (k:Key):(valV kvs k).isSome=(valT ts k).isSome:=by
 have h:=r.keys
 unfold valV valT
 rw [Option.isSome_map,Option.isSome_map]
 induction r with
 | nil=>rfl
 | cons e _ ih=>
   simp only [List.map_cons,List.cons.injEq] at h
   rw [List.find?_cons,List.find?_cons,h.1]
   generalize decide (_=k)=b
   cases b with
   | true=>rfl
   | false=>exact ih h.2
end M3
set_option maxHeartbeats 1000000
namespace M3
open PySem L2
end M3
set_option maxHeartbeats 1000000
namespace L2
open PySem PySem.Spec PyProof.Rows
def rInDF (neg:Bool):R2:=fun x y H Q=>∃a kvs k,y= .ref a∧Rd H a (.dK kvs)∧x=kV k∧Q (.bl (if neg then !(valV kvs k).isSome else (valV kvs k).isSome)) H
section
variable {X:Cx}
theorem op_inDF (hu:X.A.units+65<cLine):OpR X (compareOp .In) (rInDF false):=by
 intro pins s σ H x y v u Q I rx ry h
 obtain ⟨a,kvs,k,rfl,e,rfl,q⟩:=h
 cases (show u=Value.ref a from ry)
 exact d_in (o:=valV kvs k) (by omega) I (.inl ⟨kvs,k,e,rfl,rfl⟩) rx fun s' I'=>⟨.bl _,H,I',rfl,q⟩
theorem op_notInDF (hu:X.A.units+65<cLine):OpR X (compareOp .NotIn) (rInDF true):=by
 intro pins s σ H x y v u Q I rx ry h
 obtain ⟨a,kvs,k,rfl,e,rfl,q⟩:=h
 cases (show u=Value.ref a from ry)
 exact d_notIn (o:=valV kvs k) (by omega) I (.inl ⟨kvs,k,e,rfl,rfl⟩) rx fun s' I'=>⟨.bl _,H,I',rfl,q⟩
end
end L2
namespace M3
open PySem PyProof.Rows L2
def inDF3 (neg:Bool):T→T→(T→Prop)→Prop:=fun x y Q=>ob (asD y) fun ts=>ob (asK x) fun k=>Q (.bl (if neg then !(valT ts k).isSome else (valT ts k).isSome))
theorem rl_inDF {K:PySem.W.Frag} {neg:Bool}:RL2 K (rInDF neg) (inDF3 neg):=by
 intro c x y Q3 hh Hb G A σ3 σ H vx vy Q R rx ry k
 obtain ⟨ts,ed,h1⟩:=ob_iff.mp hh
 obtain ⟨k',ek,q⟩:=ob_iff.mp h1
 cases asD_is ed
 obtain ⟨p,o,kvs,rfl,hp,rd⟩:=ry.dicI
 refine ⟨p,kvs,k',rfl,.inr ⟨o,hid_same _ _ hp⟩,asK_rep rx ek, ?_⟩
 rw [rd.has k']
 exact k _ _ H (Le.refl R.inv) (.bl _) q
end M3
set_option maxHeartbeats 1000000
namespace M3
open PySem PySem.Spec PyProof.Rows L2
end M3
set_option maxHeartbeats 1000000
namespace M3
open PySem PySem.Spec PyProof.Rows L2
section
variable {P:Program} {w:World} {K:PySem.W.Frag} {mg:Str→Option Value} {base:Heap} {CX:CXT} {nm qual:Str} {st:Stmt} {ps:List Str} {Ts:List (Addr×Str)} {lv:Nat} {sp:Sp} {C:Addr}
theorem TabD.cl (D:TabD K mg base nm st ps Ts)
 (h:∀(f cL PL:Addr) (kV doc pm ct oc:Value) (an od:Option Addr) (osl:Array (Option Value)),K.lookup f=some ⟨oc,od,.func (PySem.W.fnOf nm nm (defArgs st) (defBody st) (defScope st) .none kV doc pm an (.ref cL) ct),osl⟩→PySem.W.codeIn K (.ref cL) nm=true→LamX.TabB base mg cL PL→
   (PL,(nm++".<locals>.":Str)++"<lambda>")∈Ts→(∀p∈Ts,p.1=PL→p.2=(nm++".<locals>.":Str)++"<lambda>")→FnOk P w K mg base CX lv f (PySem.W.fnOf nm nm (defArgs st) (defBody st) (defScope st) .none kV doc pm an (.ref cL) ct) ps sp):Cl P w K mg base CX nm lv [] sp:=by
 obtain ⟨f,cL,PL,kV,doc,pm,ct,oc,an,od,osl,lk,hcd,TB,hm,hu,hmg,kp,bd⟩:=D.ex
 exact ⟨f,_,ps,[],h f cL PL kV doc pm ct oc an od osl lk hcd TB hm hu,hmg,kp,bd,.nil⟩
theorem TabM.clM (D:TabM K mg base C nm qual st ps Ts)
 (h:∀(f cL PL:Addr) (kV doc pm ct oc:Value) (an od:Option Addr) (osl:Array (Option Value)),K.lookup f=some ⟨oc,od,.func (PySem.W.fnOf nm qual (defArgs st) (defBody st) (defScope st) .none kV doc pm an (.ref cL) ct),osl⟩→PySem.W.codeIn K (.ref cL) qual=true→LamX.TabB base mg cL PL→
   (PL,(qual++".<locals>.":Str)++"<lambda>")∈Ts→(∀p∈Ts,p.1=PL→p.2=(qual++".<locals>.":Str)++"<lambda>")→FnOk P w K mg base CX lv f (PySem.W.fnOf nm qual (defArgs st) (defBody st) (defScope st) .none kV doc pm an (.ref cL) ct) ps sp):ClM P w K mg base CX C nm lv [] sp:=by
 obtain ⟨f,cL,PL,kV,doc,pm,ct,oc,an,od,osl,lk,hcd,TB,hm,hu,hfi,hfn,kp,bd⟩:=D.ex
 exact ⟨f,_,ps,[],h f cL PL kV doc pm ct oc an od osl lk hcd TB hm hu,⟨hfi,hfn,kp⟩,bd,.nil⟩
theorem tab_one {Ts:List (Addr×Str)} {p:Addr×Str} (nd:(Ts.map (·.1)).Nodup) (h:p∈Ts):∀q∈Ts,q.1=p.1→q.2=p.2:=by
 induction Ts with
 | nil=>cases h
 | cons a r ih=>
   rw [List.map_cons,List.nodup_cons] at nd
   intro q hq e
   by_cases pa:p=a
   · by_cases qa:q=a
     · rw [pa,qa]
     · have hq2:q∈r:=(List.mem_cons.mp hq).resolve_left qa
       exact absurd (List.mem_map.mpr ⟨q,hq2,by rw [e,pa]⟩) nd.1
   · have hp2:p∈r:=(List.mem_cons.mp h).resolve_left pa
     by_cases qa:q=a
     · exact absurd (List.mem_map.mpr ⟨p,hp2,by rw [←e,qa]⟩) nd.1
     · exact ih nd.2 hp2 q ((List.mem_cons.mp hq).resolve_left qa) e
def spLawU (K:PySem.W.Frag) (Ts:List (Addr×Str)):Sp:=fun vs H Q _=>∃(a:Addr) (ns:List Int),vs=[.ref a]∧SqL K H a (ns.map V.int)∧(∀q∈Ts,H q.1=some (.tbl #[]))∧∀H',Q (.bl true) H'
end
end M3
namespace PySem.HandSPX
open PySem PySem.Spec PyProof.Rows
end PySem.HandSPX
namespace L2
open PySem PySem.Spec PyProof.Rows
end L2
namespace M3
open PySem PySem.Spec PyProof.Rows L2
end M3
set_option maxHeartbeats 1000000
namespace M3
open PySem PySem.Spec PyProof.Rows L2
structure ClMN (P:Program) (w:World) (K:PySem.W.Frag) (mg:Str→Option Value) (base:Heap) (CX:CXT) (C:Addr) (m:Str) (k n:Nat) (ks:List Str) (gV:List V→List V→List V) (sp:Sp):Prop where
 ex:∃(f:Addr) (fd:FuncData) (ps:List Str) (g:List Value→List Value→List Value),FnOk P w K mg base CX k f fd ps sp∧Meth K C m f∧KBn K fd ps n ks g gV
structure ClMNT (P:Program) (w:World) (K:PySem.W.Frag) (mg:Str→Option Value) (base:Heap) (CX:CXT) (C:Addr) (m:Str) (k n:Nat) (ks:List Str) (is:List Nat) (mts:List T) (sp:Sp):Prop where
 ex:∃mvs,(∀H,RepL K H mvs mts)∧ClMN P w K mg base CX C m k n ks (fun vs zs=>sel is (vs++(mvs++zs))) sp
section
variable {P:Program} {w:World} {K:PySem.W.Frag} {mg:Str→Option Value} {base:Heap} {CX:CXT} {C:Addr} {m x qual:Str} {st:Stmt} {dts kts:List T} {kns:List Str} {lv:Nat} {ps:List Str} {sp:Sp}
theorem OkM.clMN0 (O:OkM P w K mg base CX C m x qual st [] kns kts lv ps sp) (hf:∀f,PySem.W.findIn K (.ref C) m=some (some (.ref f))→PySem.W.isFn K (.ref f)=true) (n:Nat) (ks:List Str) (ms is:List Nat) (hk:kts≠[]) (hl:kns.length=kts.length) (hms:∀i∈ms,i<kns.length)
 (h:∀(D:Addr) (doc pm:Value) (an:Option Addr) (cdv ct:Value) (us mv ws:List Value),us.length=n→mv.length=ms.length→ws.length=ks.length→
   KwChain D ((sel ms kns).zip mv) (bindArgs (PySem.W.fnOf x qual (defArgs st) (defBody st) (defScope st) .none (.ref D) doc pm an cdv ct) ⟨us,ks.zip ws⟩) (ps.zip (sel is (us++(mv++ws))))):ClMNT P w K mg base CX C m lv n ks is (sel ms kts) sp:=by
 obtain ⟨f,fd,dvs,kvs,rd,rk,F,hm,O⟩:=O.ex
 have e:=(rd (fun _=>none)).len0
 subst e
 obtain ⟨mvs,g,h1,B⟩:=kbn0 rk F n ks ms is hk hl hms h
 exact ⟨mvs,h1,f,fd,ps,g,O,⟨hm,hf f hm,F.kp⟩,B⟩
end
def tMethK (C:Addr) (m:Str) (n j:Nat) (sp:Sp) (gV:List V→List V→List V) (E:XK) (ta:TE) (t tk:TA):TE:=fun σ H Q=>ta σ H fun x H1=>∃a dx fs,x= .ref a∧H1 a=some (.ins C dx fs)∧fs.lookup m=none∧
 t σ H1 fun vs H2=>tk σ H2 fun zs H3=>vs.length+1=n∧zs.length=j∧sp (gV (x::vs) zs) H3 Q E
theorem pe_clMK {X:Cx} {CX:CXT} {k n:Nat} {C:Addr} {m:Str} {ks:List Str} {sp:Sp} {gV:List V→List V→List V} {E:XK} {pos apos:Pos} {o e:Expr} {es:List Expr} {kws:List Keyword} {ta:TE} {t tk:TA} {pl:Sem Bool} (M:ClMN X.prog X.w X.K X.mg X.base CX C m k n ks gV sp) (c:Cls X.K C) (hr:Room k X.A) (hx:Passes CX X E) (ho:PE X o ta) (ha:PA X (e::es) t) (hkw:PK X kws tk)
 (hall:(backToKw pos (keywordEach kws X.env)).all (·.1.isSome)=true:=by rfl) (hks:(backToKw pos (keywordEach kws X.env)).filterMap (·.1)=ks:=by rfl)
 (hst:starEach (e::es) X.env=(false,eval e X.env)::starEach es X.env:=by rfl) (hpl:((backTo pos (starEach (e::es) X.env)).any (·.1)||(backToKw pos (keywordEach kws X.env)).any (·.1.isNone))=false:=by rfl)
 (ht:eval (.Call (.Attribute o m apos) (e::es) kws pos) X.env=(do
   let ov ←eval o X.env
   standAt apos.atName
   let (f,first) ←holding [ov] (getMethod ov m pl)
   callWith pos f first (backTo pos (starEach (e::es) X.env)) (backToKw pos (keywordEach kws X.env))):=by rfl):
 PE X (.Call (.Attribute o m apos) (e::es) kws pos) (tMethK C m n ks.length sp gV E ta t tk):=by
 obtain ⟨f,fd,ps,g,F,hm,hb⟩:=M.ex
 refine ⟨fun pins s σ H Q I h=> ?_⟩
 refine PySem.W.methodCall_KW (pl:=pl) (thn (ho.run pins s σ H _ I h) fun u s1 ⟨x,H1,I1,rx,a,dx,fs,ex,ea,l,q⟩=> ?_) ht
 subst ex
 obtain rfl:u=Value.ref a:=rx
 refine getmeth_ok I1 ea c hm l ?_
 refine PySem.W.callWith_KW (first:=[.ref a]) (h₀:=X.base) I.ok.mod.kin hm.kp hall (thn (ha.run pos pins s1 σ H1 _ I1 q) fun us s2 ⟨vs,H2,I2,r,q2⟩=> ?_) hpl hst
 refine thn (hkw.run pos pins s2 σ H2 _ I2 q2) fun ws s3 ⟨zs,H3,I3,rz,l1,l2,q3⟩=>⟨I3.kIn, ?_⟩
 rw [hks]
 exact run_fnN (us:=.ref a::us) (vs:=.ref a::vs) F hr hb hx I3 (.cons rfl r) rz l1 l2 q3
end M3
set_option maxHeartbeats 1000000
namespace M3
open PySem L2
def spU4 (K:PySem.W.Frag) (dr:Bool) (n:Nat) (f:F4) (Ts:List (Addr×Str)):Sp:=fun vs H Q E=>∃p cc G L M ds,(potR false p cc Ts).I H∧(∀a∈G,H a≠none∧a ∉ (potR false p cc Ts).S0)∧(∀a∈G,∀o,H a=some o→(potR false p cc Ts).gOk o)∧
 Cells K ((potR false p cc Ts).S0++G) L M H∧ds.length=n∧(dr=true→ds.head? =some (T.ref p))∧RepL K (vs4 (potR false p cc Ts) G L H) vs ds∧∃Q4 X4,f ds M Q4 X4∧
 (∀v d L' M' H',(potR false p cc Ts).I H'→Same (vs4 (potR false p cc Ts) G L H) (vs4 (potR false p cc Ts) G L' H')→(∀a∈G,H' a=H a)→Cells K ((potR false p cc Ts).S0++G) L' M' H'→Rep K (vs4 (potR false p cc Ts) G L' H') v d→Q4 d M'→Q v H')∧
 (∀cls dd x L' M' H',(potR false p cc Ts).I H'→Same (vs4 (potR false p cc Ts) G L H) (vs4 (potR false p cc Ts) G L' H')→(∀a∈G,H' a=H a)→Cells K ((potR false p cc Ts).S0++G) L' M' H'→XRep K (vs4 (potR false p cc Ts) G L' H') cls dd x→X4 x M'→E cls dd H')
theorem spU4_len {K:PySem.W.Frag} {dr:Bool} {n:Nat} {f:F4} {Ts:List (Addr×Str)} {ps:List Str} (h:ps.length=n):∀vs H Q E,spU4 K dr n f Ts vs H Q E→vs.length=ps.length:=by
 intro vs H Q E h'
 obtain ⟨p,cc,G,L,M,ds,_,_,_,_,hl,_,r,_⟩:=h'
 rw [r.length,hl,h]
theorem bodyU4 {K:PySem.W.Frag} {dr:Bool} {n:Nat} {f:F4} {Ts:List (Addr×Str)} {N:List Str} {t:TS} {x:Addr→S4} {W:WX} {vs:List V} {H:Hp} {Q:VK} {E:XK} (h:spU4 K dr n f Ts vs H Q E) (hW:∀cls dd σ H',E cls dd H'→W cls dd σ H')
 (lt:∀p cc,LiftS4 K (potR false p cc Ts) W t (x p)) (hb:∀p ds M Q4 X,ds.length=n→(dr=true→ds.head? =some (T.ref p))→f ds M Q4 X→x p {nx:=fun _ M=>Q4 .non M,rt:=Q4,xn:=fun _=>X} (start3 N.length ds) M):t {nx:=fun _ H'=>Q .non H',rt:=Q} (start N vs) H:=by
 obtain ⟨p,cc,G,L,M,ds,hI,hG,hV,cl,hl,hd,r,Q4,X,hf,hq,hx⟩:=h
 have r0:R3 K (potR false p cc Ts) H (G++L) (nons (start3 N.length ds).length) (start3 N.length ds) (start N vs) H:=r3_startG (c:=potR false p cc Ts) (N:=N) hI (fun a h=>by
  rcases List.mem_append.mp h with h | h
  · exact hG a h
  · obtain ⟨o,e,_⟩:=cl.obj h
    exact ⟨(by rw [e];intro z;cases z),fun z=>cl.off a h (List.mem_append.mpr (.inl z))⟩) (fun a h o eo=>by
  rcases List.mem_append.mp h with h | h
  · exact hV a h o eo
  · obtain ⟨o',e,v,_⟩:=cl.obj h
    rw [eo] at e
    cases e
    exact (potR false p cc Ts).gV _ v) (by rw [←List.append_assoc];exact r)
 have R0:R4 K (potR false p cc Ts) H G L L M (start3 N.length ds) (start N vs) H:=⟨r0,Same.refl _,fun _ _=>rfl,cl⟩
 refine lt p cc _ _ _ (hb p ds M Q4 X hl hd hf) H G L L _ H _ R0 ⟨?_, ?_,fun _ _ _ _ _ _ z=>z.elim,fun _ _ _ _ _ _ z=>z.elim, ?_⟩
 · intro L' M' σ3 σ H' R q
   exact hq _ _ L' M' H' R.r3.inv R.base R.gk R.cells .non q
 · intro v d L' M' H' F rv q
   exact hq _ _ L' M' H' F.inv F.base F.gk F.cells rv q
 · intro L' M' σ3 σ H' cls dd xn R rx q
   exact hW _ _ _ _ (hx cls dd xn L' M' H' R.r3.inv R.base R.gk R.cells rx q)
section
variable {K:PySem.W.Frag} {fr' dr:Bool} {p cc:Addr} {Ts:List (Addr×Str)} {W:WX} {t:TA} {x:A4} {n:Nat} {f:F4} {E:XK} {dvs:List V} {dts:List T}
theorem spU4_call {Hb H1:Hp} {G L0 L:List Addr} {M:Mem} {σ3:List Sl} {σ:St} {vs:List V} {ds:List T} {Q:VK} {Q4:T→Mem→Prop} {X:XM} (R:R4 K (potR fr' p cc Ts) Hb G L0 L M σ3 σ H1) (rx:RepL K (vs4 (potR fr' p cc Ts) G L H1) vs ds) (hl:ds.length=n) (hd:dr=true→ds.head? =some (T.ref p)) (hf:f ds M Q4 X)
 (k:∀v d L' M' H',R4 K (potR fr' p cc Ts) Hb G L0 L' M' σ3 σ H'→Same (vs4 (potR fr' p cc Ts) G L H1) (vs4 (potR fr' p cc Ts) G L' H')→Rep K (vs4 (potR fr' p cc Ts) G L' H') v d→Q4 d M'→Q v H')
 (e:∀cls dd x L' M' H',R4 K (potR fr' p cc Ts) Hb G L0 L' M' σ3 σ H'→Same (vs4 (potR fr' p cc Ts) G L H1) (vs4 (potR fr' p cc Ts) G L' H')→XRep K (vs4 (potR fr' p cc Ts) G L' H') cls dd x→X x M'→E cls dd H'):spU4 K dr n f Ts vs H1 Q E:=by
 refine ⟨p,cc,G,L,M,ds,R.r3.inv,fun a h=>(R.r3.gk a (by simp [h])).2,fun a h o eo=>R.r3.gv a (by simp [h]) o eo,R.cells,hl,hd,rx,Q4,X,hf,fun v d L' M' H' i s g c r q=>k v d L' M' H' (R.step i s g c) s r q,fun cls dd x L' M' H' i s g c r q=>e cls dd x L' M' H' (R.step i s g c) s r q⟩
theorem lift_fnU40 (hx:LiftA4 K (potR fr' p cc Ts) W t x) (hd:∀H,RepL K H dvs dts):Lift4 K (potR fr' p cc Ts) W (tCall (spU4 K false n f Ts) dvs E t) (fn40 n f x dts):=by
 intro σ3 M Q4 X h Hb G L0 L σ H Q R k e
 refine hx _ _ _ _ h Hb G L0 L σ H _ R (fun vs ds L1 M1 H1 R1 s1 rs q=> ?_) e
 exact spU4_call R1 (rs.append (hd _)) q.1 (fun z=>by cases z) q.2 (fun v d L' M' H' R' s' r q=>k v d L' M' H' R' (Same.trans s1 s') r q) (fun cls dd x L' M' H' R' s' r q=>q.elim)
end
end M3
namespace PySem
section
variable {M:Model} {A:Around} {E:Value→Shared→Prop} {env:Env} {s:Shared}
def okUse (M:Model) (A:Around) (E:Value→Shared→Prop) (use:Option (Value→Sem Unit)) (Q:Value→Shared→Prop) (acc:Value) (C:Addr) (s':Shared):Prop:=
 match use with
 | none=>∃m,s'.heap.Ns C m∧∀h',Heap.SameBut C s'.heap h'→Q acc {s' with heap:=h'}
 | some u=>wpAny M A (u acc) (fun _ s''=>∃m,s''.heap.Ns C m∧∀h',Heap.SameBut C s''.heap h'→Q .none {s'' with heap:=h'}) E s'
def compPostXU (M:Model) (A:Around) (E:Value→Shared→Prop) (use:Option (Value→Sem Unit)) (Q:Value→Shared→Prop) (acc:Value) (ce:Env) (r:Result) (s':Shared):Prop:=
 match r with
 | .ok _=>okUse M A E use Q acc ce.locals s'
 | .error x=>∃m,s'.heap.Ns ce.locals m∧∀h',Heap.SameBut ce.locals s'.heap h'→wpAny M A (passOn "comprehension.variables-let-go" x ce:Sem Value) (fun _ _=>False) E {s' with heap:=h'}
theorem wpAny_comprehension_XU {e:Expr} {scope:Scope} {pos:Pos} {newAcc first:Sem Value} {g:Comprehension} {gs:List Comprehension} {cl:List (Str×Addr)} {use:Option (Value→Sem Unit)} {Q:Value→Shared→Prop}
 (hcl:clausesOf e=g::gs) (hs:∀x,foldedSetIterable g.iter env x=pure x) (hclos:closureFor scope env=pure cl)
 (hkind:scope.kind= .function) (hnames:∀x∈scope.names,x.2= .local→scope.names.lookup x.1=some .local)
 (h:wpAny M A first (fun x s₁=>wpAny M A (pyIter x) (fun it s₂=>wpAny M A newAcc (fun acc s₃=>
   wpAny M A (newFunctionEnv scope env.globals cl [] env.qual none .none (some env)) (fun cenv s₄=>
    codeAny M A (.compStart e 0 it acc {cenv with scope:=relabel scope env}) (compPostXU M A E use Q acc {cenv with scope:=relabel scope env}) s₄) E s₃) E s₂) E s₁) E s):
 wpAny M A (comprehension e scope env pos newAcc false first use) Q E s:=by
 unfold comprehension
 rw [hclos,hcl]
 refine wpAny_bind (wpAny_mono h (fun x s₁ h₁=>wpAny_bind (wpAny_standAt (wpAny_bind (wpAny_of_eq (hs x) (wpAny_bind (wpAny_holding (wpAny_mono h₁ (fun it s₂ h₂=>
  wpAny_standIf (wpAny_bind (wpAny_mono h₂ (fun acc s₃ h₃=>wpAny_bind (wpAny_pure (wpAny_bind (wpAny_mono h₃ (fun cenv s₄ h₄=> ?_) fun _ _ h'=>h')))) fun _ _ h'=>h')))
   fun _ _ h'=>h'))))))) fun _ _ h'=>h')
 dsimp only
 have hv:∀x∈(scope.names.filter fun x=>(x.2== .local||x.2== .cell)&&x.1 != (".0":Str)).reverse,x.2= .local→
  Env.kindOf {cenv with scope:=relabel scope env} x.1=some .local:=fun x hx hl=>lookup_relabel_local (hnames x (List.mem_filter.mp (List.mem_reverse.mp hx)).1 hl)
 have hv':∀x∈(scope.names.filter fun x=>(x.2== .local||x.2== .cell)&&x.1 != (".0":Str)).reverse.drop 1++(scope.names.filter fun x=>(x.2== .local||x.2== .cell)&&x.1 != (".0":Str)).reverse.take 1,
  x.2= .local→Env.kindOf {cenv with scope:=relabel scope env} x.1=some .local:=fun x hx hl=>by
  rcases List.mem_append.mp hx with h1 | h1
  · exact hv x (List.mem_of_mem_drop h1) hl
  · exact hv x (List.mem_of_mem_take h1) hl
 refine wpAny_holding (wpAny_bind (wpAny_attempt (wpAny_holding (wpAny_run (codeAny_mono h₄ fun r s' hr=> ?_)))))
 cases r with
 | ok f=>
   cases use with
   | none=>
     obtain ⟨m,hn,hr⟩:=hr
     exact wpAny_bind (wpAny_holding (wpAny_comp_letGo (cenv:={cenv with scope:=relabel scope env}) hkind _ s' m hv hn fun h' m' _ hs'=>wpAny_pure (hr h' hs')))
   | some u=>
     have hr:wpAny M A (u acc) (fun _ s''=>∃m,s''.heap.Ns cenv.locals m∧∀h',Heap.SameBut cenv.locals s''.heap h'→Q .none {s'' with heap:=h'}) E s':=hr
     refine wpAny_bind (wpAny_rule (wpAny_bind (wpAny_holding (wpAny_mono hr (fun _ s'' hr'=> ?_) fun _ _ h'=>h'))))
     obtain ⟨m,hn,hr'⟩:=hr'
     exact wpAny_bind (wpAny_comp_letGo (cenv:={cenv with scope:=relabel scope env}) hkind _ s'' m hv' hn fun h' m' _ hs'=>wpAny_pure (hr' h' hs'))
 | error x=>
   have hr:∃m,s'.heap.Ns cenv.locals m∧∀h',Heap.SameBut cenv.locals s'.heap h'→wpAny M A (passOn "comprehension.variables-let-go" x {cenv with scope:=relabel scope env}:Sem Value) (fun _ _=>False) E {s' with heap:=h'}:=hr
   obtain ⟨m,hn,hr⟩:=hr
   exact wpAny_bind (wpAny_holding (wpAny_comp_letGo (cenv:={cenv with scope:=relabel scope env}) hkind _ s' m hv hn fun h' m' _ hs'=>wpAny_mono (hr h' hs') (fun _ _ f=>f.elim) fun _ _ y=>y))
end
end PySem
namespace L2
open PySem PySem.Spec PyProof.Rows
section
variable {X:Cx}
theorem dc_coreX {pins:List (Addr×Obj)} {s:Shared} {σ:St} {H:Hp} {Q:VK} {kx vx tg iter:Expr} {ifs:List Expr} {scope:Scope} {own:List (Str×Nat)} {pos pos':Pos} {wi:TI} {g:TG} {tt:TT} {ta tb:TE} {use:Option (Value→Sem Unit)} {Qf:Value→Shared→Prop} {E:XK} {W:WX}
 (hst:X.stack=X.env::X.outer) (hfm:X.env.frame=some X.env.locals) (tk:Takes X W) (hEW:∀cls d σ H,E cls d H→W cls d σ H)
 (hc:X.calm=true) (hN:X.N.Nodup) (I:Inv X pins σ H s) (hi:PI X tg iter wi) (ok:BlkOk X.N X.env.scope scope own)
 (hg:∀(s:Shared) (H:Hp) (C:Addr) (cl:List (Str×Addr)) (fp:List Addr),PG (X.blk s H scope (compEnvC scope cl C X.env) fp) tg g) (ht:∀(s:Shared) (H:Hp) (C:Addr) (cl:List (Str×Addr)) (fp:List Addr),PTs (X.blk s H scope (compEnvC scope cl C X.env) fp) ifs tt)
 (hk:∀(s:Shared) (H:Hp) (C:Addr) (cl:List (Str×Addr)) (fp:List Addr),PE (X.blk s H scope (compEnvC scope cl C X.env) fp) kx ta)
 (he:∀(s:Shared) (H:Hp) (C:Addr) (cl:List (Str×Addr)) (fp:List Addr) (xe:Value→Shared→Prop),Passes (CX X.prog X.w) ((X.blk s H scope (compEnvC scope cl C X.env) fp).wish xe) E→PE ((X.blk s H scope (compEnvC scope cl C X.env) fp).wish xe) vx tb) (hs:∀x,foldedSetIterable iter X.env x=pure x)
 (h:tDc wi g tt ta tb (own.map (·.2)) σ H Q)
 (hRR:∀D C s' m H',Inv X pins σ H' s'→Q (.ref D) H'→s'.heap.Ns C m→FpOk X pins H' C→okUse (model X.prog X.w) X.A X.xe use Qf (.ref D) C s'):
 wpAny (model X.prog X.w) X.A (comprehension (.DictComp kx vx [⟨tg,iter,ifs,0⟩] scope pos) scope X.env pos' newDict false (eval iter X.env) use) Qf X.xe s:=by
 have hfree:∀y∈scope.names,y.2= .free→∃c,X.env.cells.lookup y.1=some c:=fun y hy e=>by
  rcases ok.free y hy e with k | k
  · exact I.ok.has _ (.inl k)
  · exact I.ok.has _ (.inr k)
 refine wpAny_comprehension_XU rfl hs (closure_ok hfree) ok.kind (fun y hy e=>by rw [ok.uniq y hy,e])
  (thn (hi.run pins s σ H _ I h) fun xv s1 hx=>thn hx fun itv s2 h2=> ?_)
 obtain ⟨it,fp,tn,J,H2,e,I2,T,st2,f2,q⟩:=h2
 subst e
 refine wpAny_newObj_type (newEnv_comp ?_)
 generalize hD:s2.heap.objs.size=D
 have hDn:H2 D=none:=I2.hok.fresh (Nat.le_of_eq hD)
 obtain ⟨W0,⟨m0,w0⟩,turn⟩:=q D hDn
 generalize hs3:({s2 with heap:=s2.heap.push {cls:=.type "dict",data:=.dict #[]} }:Shared)=s3
 have I3:Inv X pins σ (upd H2 D (.dK [])) s3:=by
  rw [←hs3]
  refine I2.laid (t':=s2.toks) (fun b o e=>Heap.get?_push_of_some _ e) (Nat.le_of_eq hD) ?_
  rw [←hD]
  exact dk_empty s2.heap I2.big
 have h3:s3.heap=s2.heap.push {cls:=.type "dict",data:=.dict #[]}:=by rw [←hs3]
 have sz:∀b∈fp,b<s2.heap.objs.size:=fun b hb=>by
  obtain ⟨o,e,_⟩:=T.obj _ _ st2 b hb
  exact Heap.lt_size e
 have f3:∀b∈fp,FpOk X pins (upd H2 D (.dK [])) b∧b<s3.heap.objs.size:=fun b hb=>by
  have hlt:=sz b hb
  refine ⟨⟨?_,(f2 b hb).2⟩,by rw [h3,Heap.size_push];exact Nat.lt_succ_of_lt hlt⟩
  rw [upd_ne (by rw [←hD];exact Nat.ne_of_lt hlt)]
  exact (f2 b hb).1
 have st3:tn 0 s3.heap:=T.keep _ _ _ st2 fun b _ o e=>by rw [h3];exact Heap.get?_push_of_some _ e
 have I4:=block_start I3 ok hN f3
 have pg:=hg s3 (upd H2 D (.dK [])) s3.heap.objs.size (cellsFrom (s3.heap.objs.size+1) scope.names (cloFrom X.env.cells scope.names [])) fp
 have pt:=ht s3 (upd H2 D (.dK [])) s3.heap.objs.size (cellsFrom (s3.heap.objs.size+1) scope.names (cloFrom X.env.cells scope.names [])) fp
 have pk:=hk s3 (upd H2 D (.dK [])) s3.heap.objs.size (cellsFrom (s3.heap.objs.size+1) scope.names (cloFrom X.env.cells scope.names [])) fp
 have pe:=he s3 (upd H2 D (.dK [])) s3.heap.objs.size (cellsFrom (s3.heap.objs.size+1) scope.names (cloFrom X.env.cells scope.names [])) fp
 show codeAny _ _ (.compStart (.DictComp kx vx [⟨tg,iter,ifs,0⟩] scope pos) 0 (.ref it) (.ref D) (compEnvC scope (cellsFrom (s3.heap.objs.size+1) scope.names (cloFrom X.env.cells scope.names [])) s3.heap.objs.size X.env)) (compPostXU (model X.prog X.w) X.A X.xe use Qf (.ref D) (compEnvC scope (cellsFrom (s3.heap.objs.size+1) scope.names (cloFrom X.env.cells scope.names [])) s3.heap.objs.size X.env)) {s3 with heap:=pushCells (s3.heap.push {cls:=.type "dict",data:=.dict #[]}) scope.names}
 have nfp:∀b∈fp,(upd H2 D (.dK [])) b=none:=fun b hb=>(f3 b hb).1.1
 generalize hce:compEnvC scope (cellsFrom (s3.heap.objs.size+1) scope.names (cloFrom X.env.cells scope.names [])) s3.heap.objs.size X.env=ce at I4 pg pt pk pe ⊢
 have cL:ce.locals=s3.heap.objs.size:=by subst hce;rfl
 have cF:ce.frame=X.env.frame:=by subst hce;rfl
 generalize hH3:upd H2 D (.dK [])=H3 at I3 I4 pg pt pk pe w0 nfp f3
 generalize hs4:({s3 with heap:=pushCells (s3.heap.push {cls:=.type "dict",data:=.dict #[]}) scope.names}:Shared)=s4 at I4 ⊢
 have st4:tn 0 s4.heap:=T.keep _ _ _ st3 fun b _ o e=>by rw [←hs4];exact pushCells_keeps _ _ _ _ (Heap.get?_push_of_some _ e)
 have stat:∀ {σ':St} {H':Hp} {s':Shared},Inv (X.blk s3 H3 scope ce fp) [] σ' H' s'→(∀b∈fp,H' b=none)→∀b∈fp,FpOk (X.blk s3 H3 scope ce fp) [] H' b:=fun {σ' H' s'} I' hn b hb=>
  ⟨hn b hb,(I'.ok.exf b hb).1,I'.ok.exfs b hb,.inl hb,fun x c e=>(I'.ok.exf b hb).2 x c e,fun p hp=>absurd (show p∈([]:List (Addr×Obj))++[] from hp) (by simp)⟩
 have home:∀ {pins':List (Addr×Obj)} {σ':St} {H5:Hp} {s6:Shared},Inv (X.blk s3 H3 scope ce fp) pins' σ' H5 s6→Inv X pins σ H5 s6∧FpOk X pins H5 s3.heap.objs.size∧∃m,s6.heap.Ns s3.heap.objs.size m:=fun {pins' σ' H5 s6} I6=>by
  have I7:Inv X pins σ H5 s6:=I3.call' (ch:=fp) I6.os I6.base I6.hok I6.bare fun b hb=>⟨(f3 b hb).1.2.2.2.1,(f3 b hb).1.2.1,(f3 b hb).1.2.2.2.2.1,(f3 b hb).1.2.2.2.2.2⟩
  have nC:H5 s3.heap.objs.size=none:=by
   have z:H5 ce.locals=none:=I6.free
   rw [cL] at z
   exact z
  obtain ⟨m,hn,_⟩:=I6.loc
  have hn:s6.heap.Ns ce.locals m:=hn
  rw [cL] at hn
  exact ⟨I7,I3.fpOk (Nat.le_refl _) nC,m,hn⟩
 have nCf:∀b∈frs X.stack,b≠s3.heap.objs.size:=fun b hb z=>by
  obtain ⟨_,o,e,_⟩:=I3.stack.mem hb
  have:=Heap.lt_size e
  rw [z] at this
  exact Nat.lt_irrefl _ this
 have thru:Passes (CX X.prog X.w) ((X.blk s3 H3 scope ce fp).wish (notedBy (model X.prog X.w) X.A ce fun e s'=>compPostXU (model X.prog X.w) X.A X.xe use Qf (.ref D) ce (.error e) s')) E:=by
  intro pins' σ' H' s5 u s6 I5 cx
  obtain ⟨a,B,sI,H6,cls,d,rfl,Ib,nb,up,fl,na,os,ag,hE⟩:=fly_of_call I5 cx
  have Ib':Inv (X.blk s3 H3 scope ce fp) pins' σ' H6 sI:=Ib.unwish
  show wpAny (model X.prog X.w) X.A (noteFrame (.ref a) ce) _ _ s6
  rw [noteFrame_congr cF]
  have hfr:X.A.frames=some (X.env::X.outer):=by rw [I3.ok.frames,hst]
  have fl:HandSPX.FlyingZ B X.stack a (Zc cls d) s6.heap:=fl
  rw [hst] at fl
  refine HandSPX.looks_onZ Zc.steady hfr hfm fl fun h' hh up'=> ?_
  have Il:Inv (X.blk s3 H3 scope ce fp) pins' σ' H6 {s6 with heap:=h'}:=Inv.landed (s':={s6 with heap:=h'}) Ib' nb hh.1 (up.trans up') os ag
  obtain ⟨_,fpC,m,hn⟩:=home Il
  have hn':h'.Ns s3.heap.objs.size m:=hn
  show ∃m,h'.Ns ce.locals m∧_
  rw [cL]
  refine ⟨m,hn',fun h3' sb=> ?_⟩
  obtain ⟨oC,es,ep,eC,dC,_⟩:=hn'
  have dC':∀vs,oC.data≠ .fields vs:=fun vs z=>by rw [dC] at z;cases z
  obtain ⟨B3,b1,b2⟩:=sans B s3.heap.objs.size
  obtain ⟨G3,g1,g2⟩:=sans sI.heap s3.heap.objs.size
  have hn2:∀b∈frs (X.env::X.outer),b≠s3.heap.objs.size:=by rw [←hst];exact nCf
  have hh3:=held_sans (h3:=h3') hh b1 b2 sb.2 hn2 eC dC'
  have tr:=hh3.2.2.2
  obtain ⟨oe,vs,T0,oT,ts,he0,hz,hdv,h1,_⟩:=tr
  unfold PySem.passOn
  refine wpAny_bind (wpAny_field he0 hdv h1 ?_)
  rw [if_neg (show ¬((Value.ref T0==Value.none)=true) from by simp)]
  refine wpAny_bind ?_
  rw [cF,hfm]
  refine HandSPX.setFlight_onZ hh3 fun h4 hh4 up4=> ?_
  refine wpAny_throw (tk _ _ ?_)
  obtain ⟨Io,fpo,_⟩:=home Ib'
  obtain ⟨f0,f1,f2',f3',f4',f5'⟩:=fpo
  refine ⟨a,B3,{sI with heap:=G3,toks:=sI.toks},pins,σ,H6,cls,d,rfl,Io.turned (fun b o hb e=>by rw [g1 b hb];exact e) f0 f1 f3' f4' f5',fun b o e hb=> ?_,fun b o e hd=> ?_,.inr (.inr (by rw [hst];exact hh4)),na,os,ag,hEW _ _ _ _ hE⟩
  · have e:G3.get? b=some o:=e
    have bC:b≠s3.heap.objs.size:=fun z=>by rw [z,g2] at e;cases e
    rw [g1 b bC] at e
    rw [b1 b bC]
    exact nb b o e hb
  · have e:G3.get? b=some o:=e
    have bC:b≠s3.heap.objs.size:=fun z=>by rw [z,g2] at e;cases e
    rw [g1 b bC] at e
    obtain ⟨sl,e1⟩:=(up.trans up') b o e hd
    have e2:h3'.get? b=some {o with slots:=sl}:=by rw [sb.2 b bC];exact e1
    obtain ⟨sl2,e3⟩:=up4 b _ e2 hd
    exact ⟨sl2,e3⟩
 have pe:=pe _ thru
 have loop:codeAny (model X.prog X.w) X.A (.compLoop (.DictComp kx vx [⟨tg,iter,ifs,0⟩] scope pos) 0 (.ref it) (.ref D) ce) (compPostXU (model X.prog X.w) X.A X.xe use Qf (.ref D) ce) s4:=by
  refine compLoop_anyD (fun n s'=>∃i H',Inv (X.blk s3 H3 scope ce fp) [] (wipe σ (own.map (·.2))) H' s'∧tn i s'.heap∧(∀b∈fp,H' b=none)∧W0 i n H') ?_ m0 ⟨0,H3,I4,st4,nfp,w0⟩
  rintro n s5 ⟨i,H5,I5,st5,n5,w5⟩
  rcases turn i n H5 w5 with ⟨stop,qq⟩ | ⟨go,Nx,hNx,step⟩
  · have td:=T.done (X.blk s3 H3 scope ce fp) rfl rfl rfl hc i [] s5 _ H5 (fun _ _=>False) I5 (stat I5 n5) st5 stop
    refine thnF td fun r s6 ⟨hr,I6⟩=> ?_
    subst hr
    obtain ⟨I7,f7,m,hn⟩:=home I6
    show okUse (model X.prog X.w) X.A X.xe use Qf (.ref D) ce.locals s6
    rw [cL]
    exact hRR D s3.heap.objs.size s6 m H5 I7 qq hn f7
  · have ti:=T.item (X.blk s3 H3 scope ce fp) rfl rfl rfl hc i [] s5 _ H5 (fun _ _=>False) I5 (stat I5 n5) st5 go
    refine thnF ti fun r s6 ⟨u,hr,h6⟩=> ?_
    subst hr
    refine thnF h6 fun _ s7 ⟨x,H7,I7,r7,y7,st7,n7⟩=> ?_
    have I7':=I7.pinned (stat I7 n7) (T.obj _ _ st7)
    refine thnF (pg.run _ s7 _ H7 x u _ I7' r7 (step x H7 y7)) fun _ s8 ⟨σ8,H8,I8,hw8,q8⟩=> ?_
    refine thnF (pt.run _ s8 σ8 H8 _ I8 q8) fun b s9 ⟨H9,I9,q9⟩=> ?_
    have fin:∀ {s':Shared} {H':Hp},Inv (X.blk s3 H3 scope ce fp) ([]++pinsAt fp s7.heap) σ8 H' s'→Nx H'→∃m,m<n∧∃i H',Inv (X.blk s3 H3 scope ce fp) [] (wipe σ (own.map (·.2))) H' s'∧tn i s'.heap∧(∀b∈fp,H' b=none)∧W0 i m H':=fun {s' H'} I' nx=>by
     obtain ⟨m',hm,w'⟩:=hNx H' nx
     have pin':∀b∈fp,∀o,s7.heap.get? b=some o→s'.heap.get? b=some o∧H' b=none:=fun b hb o e=>
      let z:=I'.pin (b,o) (List.mem_append_right _ (List.mem_append_right _ (mem_pinsAt hb e)))
      ⟨z.1,z.2.1⟩
     have hl:(wipe σ (own.map (·.2))).length=σ8.length:=by rw [←hw8,wipe_length]
     refine ⟨m',hm,i+1,H',(I'.unpinned (pins:=[])).weak hl (fun j v e=> ?_),T.keep _ _ _ st7 fun b hb o e=>(pin' b hb o e).1,fun b hb=> ?_,w'⟩
     · rw [←hw8] at e
       exact (wipe_some e).1
     · obtain ⟨o,e,_⟩:=T.obj _ _ st7 b hb
       exact (pin' b hb o e).2
    cases b with
    | false=>
      simp only [Bool.false_eq_true,if_false] at q9 ⊢
      exact fin I9 q9
    | true=>
      simp only [if_true] at q9 ⊢
      refine thnF (pk.run _ s9 σ8 H9 _ I9 q9) fun z s10 ⟨yk,H10,I10,r10,q10⟩=> ?_
      refine thn (pe.run _ s10 σ8 H10 _ (I10.wish _) q10) fun z2 s11 ⟨yv,H11,I11,r11,kvs,k,ek,hD11,hz11,nx⟩=> ?_
      subst ek
      exact d_dictSet (X:=X.blk s3 H3 scope ce fp) I11.unwish hD11 hz11 r10 r11 fun s12 I12=>fin I12 nx
 exact codeAny_compStart_dict loop (T.self X.A 0 _ _ _ st4 loop)
theorem pe_dcX {kx vx tg iter:Expr} {ifs:List Expr} {scope:Scope} {own:List (Str×Nat)} {pos:Pos} {wi:TI} {g:TG} {tt:TT} {ta tb:TE} {E:XK} {W:WX} (hst:X.stack=X.env::X.outer) (hfm:X.env.frame=some X.env.locals) (tk:Takes X W) (hEW:∀cls d σ H,E cls d H→W cls d σ H)
 (hc:X.calm=true) (hN:X.N.Nodup) (hi:PI X tg iter wi) (ok:BlkOk X.N X.env.scope scope own)
 (hg:∀(s:Shared) (H:Hp) (C:Addr) (cl:List (Str×Addr)) (fp:List Addr),PG (X.blk s H scope (compEnvC scope cl C X.env) fp) tg g) (ht:∀(s:Shared) (H:Hp) (C:Addr) (cl:List (Str×Addr)) (fp:List Addr),PTs (X.blk s H scope (compEnvC scope cl C X.env) fp) ifs tt)
 (hk:∀(s:Shared) (H:Hp) (C:Addr) (cl:List (Str×Addr)) (fp:List Addr),PE (X.blk s H scope (compEnvC scope cl C X.env) fp) kx ta)
 (he:∀(s:Shared) (H:Hp) (C:Addr) (cl:List (Str×Addr)) (fp:List Addr) (xe:Value→Shared→Prop),Passes (CX X.prog X.w) ((X.blk s H scope (compEnvC scope cl C X.env) fp).wish xe) E→PE ((X.blk s H scope (compEnvC scope cl C X.env) fp).wish xe) vx tb) (hs:∀x,foldedSetIterable iter X.env x=pure x:=by intro _;rfl):
 PE X (.DictComp kx vx [⟨tg,iter,ifs,0⟩] scope pos) (tDc wi g tt ta tb (own.map (·.2))):=by
 refine ⟨fun pins s σ H Q I h=> ?_⟩
 rw [arm_eval_DictComp]
 refine dc_coreX (use:=none) hst hfm tk hEW hc hN I hi ok hg ht hk he hs h fun D C s' m H' I' q hn f=>⟨m,hn,fun h'' sb=> ?_⟩
 obtain ⟨f0,f1,f2,f3,f4,f5⟩:=f
 exact ⟨.ref D,H',I'.turned (t':=s'.toks) (fun b o hb e=>(sb.2 b hb).trans e) f0 f1 f3 f4 f5,rfl,q⟩
end
end L2
namespace M3
open PySem L2
def dcomp3 (g:TG3) (tt:B3) (tk te:E3) (σ:List Sl) (X:X3) (Q:List (Key×T)→Prop):List T→List (Key×T)→Prop
 | [],acc=>Q acc
 | x::r,acc=>g x σ fun σ'=>tt σ' (fun b=>if b=true then tk σ' (fun y=>te σ' (fun z=>ob (asK y) fun k=>acc.length<sizeLine∧dcomp3 g tt tk te σ X Q r (putT acc k z)) X) (fun _=>False) else dcomp3 g tt tk te σ X Q r acc) X
def dc3 (s:A3) (g:TG3) (tt:B3) (tk te:E3) (vs:List Nat):E3:=fun σ Q X=>noOwn σ vs∧s σ (fun ds=>dcomp3 g tt tk te (wipe3 σ vs) X (fun ys=>Q (.dic ys)) ds []) X
end M3
set_option maxHeartbeats 1000000
namespace M3
open PySem L2
section
variable {K:PySem.W.Frag} {c:Cf} {W:WX}
theorem LiftFrO.l {te:TE} {t:E3} (h:LiftFrO K c W te t):LiftFr K c W te (ofL3 t):=by
 intro σ3 Q3 X ht Hb G A σ H Q R k e
 refine h _ _ _ ht Hb G A σ H _ R (fun D d H' f q=> ?_) e
 obtain ⟨xs,ex,q⟩:=ob_iff.mp q
 cases asL_is ex
 obtain ⟨vs,h1,h2⟩:=f.rep
 exact k D vs xs H' ⟨f.nD,f.vis,f.own,f.inv,h1,h2⟩ q
def cellD (M:Mem) (a:Addr):Option (List (Key×T)):=(M a).bind asD
theorem cellD_is {M:Mem} {a:Addr} {ts:List (Key×T)} (h:cellD M a=some ts):M a=some (.dic ts):=by
 unfold cellD at h
 cases e:M a with
 | none=>rw [e] at h;cases h
 | some t=>rw [e] at h;rw [asD_is (show asD t=some ts from h)]
theorem R4.atD {Hb H:Hp} {G L0 L:List Addr} {M:Mem} {σ3:List Sl} {σ:St} (r:R4 K c Hb G L0 L M σ3 σ H) {a:Addr} {ts:List (Key×T)} (h:M a=some (.dic ts)):a∈L∧∃ks,H a=some (.dK ks)∧ks.map (·.1)=ts.map (·.1)∧RepL K (vs4 c G L H) (ks.map (·.2)) (ts.map (·.2)):=
 ⟨(r.cells.on a).mpr (by rw [h];intro z;cases z),r.cells.at_ a _ h⟩
def put4 (o e1 e2:E4):S4:=fun N σ M=>e2 σ M (fun d2 M1=>o σ M1 (fun d M2=>ob (asR d) fun a=>e1 σ M2 (fun d1 M3=>ob (asK d1) fun k=>ob (cellD M3 a) fun ts=>ts.length<sizeLine∧N.nx σ (mset M3 a (some (.dic (putT ts k d2))))) (N.xn σ)) (N.xn σ)) (N.xn σ)
theorem lift_put4 {to te1 te2:TE} {o e1 e2:E4} (ho:Lift4 K c W to o) (h1:Lift4 K c W te1 e1) (h2:Lift4 K c W te2 e2):LiftS4 K c W (tAsg te2 (gSub to te1 rSetD)) (put4 o e1 e2):=by
 intro N σ3 M h Hb G L0 L σ H D R Z
 refine h2 _ _ _ _ h Hb G L0 L σ H _ R (fun v2 d2 L1 M1 H1 R1 s1 r2 q=> ?_) (fun cls dd x L' M' H' R' s' r q=>Z.xn _ _ _ _ _ _ _ _ R' r q)
 refine ho _ _ _ _ q Hb G L0 L1 σ H1 _ R1 (fun v d L2 M2 H2 R2 s2 r q=> ?_) (fun cls dd x L' M' H' R' s' r q=>Z.xn _ _ _ _ _ _ _ _ R' r q)
 obtain ⟨a,ea,q⟩:=ob_iff.mp q
 cases asR_is ea
 cases r.refI
 refine h1 _ _ _ _ q Hb G L0 L2 σ H2 _ R2 (fun v1 d1 L3 M3 H3 R3 s3 r1 q=> ?_) (fun cls dd x L' M' H' R' s' r q=>Z.xn _ _ _ _ _ _ _ _ R' r q)
 obtain ⟨k,ek,q⟩:=ob_iff.mp q
 obtain ⟨ts,et,hl,q⟩:=ob_iff.mp q
 obtain ⟨m3,ks,o1,o2,o3⟩:=R3.atD (cellD_is et)
 have rd:RepD K (vs4 c G L3 H3) ks ts:=repD_mk o2 fun i v t e1 e2=>o3.at e1 e2
 have rp:=rd.put k (r2.mono (Same.trans s2 s3))
 refine ⟨a,_,rfl,.inl ⟨ks,k,o1,asK_rep r1 ek,by rw [rd.length];exact hl,rfl⟩,Z.nx _ _ _ _ _ (R3.put (t:=.dic (putT ts k d2)) m3 (fun φ z=>by cases z) ⟨_,upd_same,rp.keys,repL_mk (by simpa using congrArg List.length rp.keys) rp.at⟩) q⟩
def dg4 (o e:E4):E4:=fun σ M Q X=>o σ M (fun d M1=>ob (asR d) fun a=>e σ M1 (fun d1 M2=>ob (asK d1) fun k=>ob (cellD M2 a) fun ts=>ob (valT ts k) fun t=>Q t M2) X) X
theorem lift_dg4 {to te:TE} {o e:E4} (ho:Lift4 K c W to o) (he:Lift4 K c W te e):Lift4 K c W (tDGet to te) (dg4 o e):=by
 intro σ3 M Q4 X h Hb G L0 L σ H Q R k ex
 refine ho _ _ _ _ h Hb G L0 L σ H _ R (fun v d L1 M1 H1 R1 s1 r q=> ?_) ex
 obtain ⟨a,ea,q⟩:=ob_iff.mp q
 cases asR_is ea
 cases r.refI
 refine he _ _ _ _ q Hb G L0 L1 σ H1 _ R1 (fun v1 d1 L2 M2 H2 R2 s2 r1 q=> ?_) (fun cls dd x L' M' H' R' s'=>ex cls dd x L' M' H' R' (Same.trans s1 s'))
 obtain ⟨ky,ek,q⟩:=ob_iff.mp q
 obtain ⟨ts,et,q⟩:=ob_iff.mp q
 obtain ⟨t,ev,q⟩:=ob_iff.mp q
 obtain ⟨m2,ks,o1,o2,o3⟩:=R2.atD (cellD_is et)
 have rd:RepD K (vs4 c G L2 H2) ks ts:=repD_mk o2 fun i v t e1 e2=>o3.at e1 e2
 obtain ⟨u,hu,ru⟩:=rd.val ev
 exact ⟨a,u,rfl,.inl ⟨ks,ky,.inl o1,asK_rep r1 ek,hu.symm⟩,k _ _ L2 M2 H2 R2 (Same.trans s1 s2) ru q⟩
end
end M3
namespace PySem
open Sem (wp)
open AutoSeq1 (wpAny_loadPart')
end PySem
namespace M3
open PySem PySem.Spec PyProof.Rows L2
end M3
set_option maxHeartbeats 1000000
namespace M3
open PySem L2
def KeyAt (K:PySem.W.Frag) (H:Hp) (v:V) (κ:NestedKey):Prop:=κ.depth≤8∧∃t,nkT t=some κ∧Rep K H v t
theorem KeyAt.mono {K:PySem.W.Frag} {H H':Hp} {v:V} {κ:NestedKey} (h:KeyAt K H v κ) (e:Same H H'):KeyAt K H' v κ:=⟨h.1,h.2.choose,h.2.choose_spec.1,h.2.choose_spec.2.mono e⟩
theorem nested_all {h:Heap}:∀ {vs:List V} {ts:List T} {its:List Value} {ks:List NestedKey},(∀(i:Nat) v t,vs[i]? =some v→ts[i]? =some t→∀κ u,nkT t=some κ→RelV v u→NestedIs h κ u)→vs.length=ts.length→Vals vs its→nkTs ts=some ks→NestedAll h ks its
 | [],[],_,_,_,_,r,e=>by cases r;cases e;exact .nil
 | v::vs,t::ts,_,_,f,hl,r,e=>by
   cases r with
   | cons r0 r=>
     simp only [nkTs] at e
     obtain ⟨k,ek,e⟩:=Option.bind_eq_some_iff.mp e
     obtain ⟨ks,eks,rfl⟩:=Option.map_eq_some_iff.mp e
     exact .cons (f 0 v t rfl rfl k _ ek r0) (nested_all (fun i v t h1 h2=>f (i+1) v t (by simpa using h1) (by simpa using h2)) (by simpa using hl) r eks)
 | [],_::_,_,_,_,hl,_,_=>by simp at hl
 | _::_,[],_,_,_,hl,_,_=>by simp at hl
section
variable {X:Cx} {pins:List (Addr×Obj)} {σ:St} {H:Hp} {s:Shared}
theorem nested_of (I:Inv X pins σ H s) {v:V} {t:T} (r:Rep X.K H v t):∀κ u,nkT t=some κ→RelV v u→NestedIs s.heap κ u:=by
 induction r with
 | non=>intro κ u e rv;simp only [nkT] at e;cases e;cases (show u=Value.none from rv);exact .none
 | int i=>intro κ u e rv;simp only [nkT] at e;cases e;obtain ⟨t,rfl⟩:=(show ∃t,u=Value.int i t from rv);exact .int _ _
 | str x=>intro κ u e rv;simp only [nkT] at e;cases e;obtain ⟨t,rfl⟩:=(show ∃t,u=Value.str x t from rv);exact .text _ _
 | tup h hl hr ih=>
   intro κ u e rv
   simp only [nkT] at e
   obtain ⟨ks,eks,rfl⟩:=Option.map_eq_some_iff.mp e
   obtain ⟨its,r,⟨o,g,c,n,d⟩,_⟩:=I.tuple h.sq
   rw [show u=Value.ref _ from rv]
   exact .tup g c d (nested_all ih hl r eks)
 | bl b=>intro κ u e _;simp only [nkT] at e;cases e
 | ty n=>intro κ u e _;simp only [nkT] at e;cases e
 | ref a=>intro κ u e _;simp only [nkT] at e;cases e
 | lst h hl hr ih=>intro κ u e _;simp only [nkT] at e;cases e
 | dic h hk hr ih=>intro κ u e _;simp only [nkT] at e;cases e
 | ins h hk hr ih=>intro κ u e _;simp only [nkT] at e;cases e
theorem KeyAt.is (I:Inv X pins σ H s) {b:Addr} {κ:NestedKey} (h:KeyAt X.K H (.ref b) κ):(nestedKind X.prog X.w).is s.heap κ b:=by
 obtain ⟨d,t,e,r⟩:=h
 exact ⟨nested_of I r κ _ e rfl,d⟩
end
def hasKd (xs:List (NestedKey×Addr×V)) (κ:NestedKey):Bool:=xs.any fun q=>decide (q.1=κ)
def stKd (xs:List (NestedKey×Addr×V)) (κ:NestedKey) (b:Addr) (v:V):List (NestedKey×Addr×V):=if hasKd xs κ=true then xs.map (fun q=>if q.1=κ then (q.1,q.2.1,v) else q) else xs++[(κ,b,v)]
abbrev KPair (xs:List (NestedKey×Addr×V)) (ys:List (NestedKey×Addr×Value)):Prop:=Paired (fun (p:NestedKey×Addr×V) (q:NestedKey×Addr×Value)=>p.1=q.1∧p.2.1=q.2.1∧RelV p.2.2 q.2.2) xs ys
theorem KPair.has {xs:List (NestedKey×Addr×V)} {ys:List (NestedKey×Addr×Value)} (r:KPair xs ys) (κ:NestedKey):(atKey ys κ).isSome=hasKd xs κ:=by
 unfold atKey hasKd
 rw [Option.isSome_map]
 induction r with
 | nil=>rfl
 | cons e _ ih=>
   rw [List.find?_cons,List.any_cons,e.1]
   generalize decide (_=κ)=b
   cases b with
   | true=>rfl
   | false=>simpa using ih
theorem KPair.app {xs:List (NestedKey×Addr×V)} {ys:List (NestedKey×Addr×Value)} {x:NestedKey×Addr×V} {y:NestedKey×Addr×Value} (r:KPair xs ys) (h:x.1=y.1∧x.2.1=y.2.1∧RelV x.2.2 y.2.2):KPair (xs++[x]) (ys++[y]):=by
 induction r with
 | nil=>exact .cons h .nil
 | cons e _ ih=>exact .cons e ih
theorem KPair.put {xs:List (NestedKey×Addr×V)} {ys:List (NestedKey×Addr×Value)} (r:KPair xs ys) {κ:NestedKey} {b:Addr} {v:V} {u:Value} (rv:RelV v u):KPair (stKd xs κ b v) (storedH ys κ b u):=by
 unfold stKd storedH
 rw [KPair.has r κ]
 by_cases z:hasKd xs κ=true
 · rw [if_pos z,if_pos z]
   clear z
   induction r with
   | nil=>exact .nil
   | @cons p y _ _ e _ ih=>
     refine .cons ?_ ih
     show (if p.1=κ then (p.1,p.2.1,v) else p).1=(if y.1=κ then (y.1,y.2.1,u) else y).1∧(if p.1=κ then (p.1,p.2.1,v) else p).2.1=(if y.1=κ then (y.1,y.2.1,u) else y).2.1∧RelV (if p.1=κ then (p.1,p.2.1,v) else p).2.2 (if y.1=κ then (y.1,y.2.1,u) else y).2.2
     by_cases q:y.1=κ
     · rw [if_pos q,if_pos (e.1.trans q)];exact ⟨e.1,e.2.1,rv⟩
     · rw [if_neg q,if_neg (fun z=>q (e.1.symm.trans z))];exact e
 · rw [if_neg z,if_neg z]
   exact KPair.app r ⟨rfl,rfl,rv⟩
end M3
set_option maxHeartbeats 1000000
namespace M3
open PySem L2
end M3
namespace L2
open PySem PySem.Spec PyProof.Rows M3
end L2
namespace M3
open PySem L2
section
variable {X:Cx} {td ty tx:TE} {o e f:Expr} {apos cpos:Pos}
def getKd (xs:List (NestedKey×Addr×V)) (κ:NestedKey):Option V:=(xs.find? fun q=>decide (q.1=κ)).map (·.2.2)
theorem KPair.get {xs:List (NestedKey×Addr×V)} {ys:List (NestedKey×Addr×Value)} (r:KPair xs ys) (κ:NestedKey) {v:V} {u:Value} (rv:RelV v u):RelV ((getKd xs κ).getD v) (((atKey ys κ).map (·.2)).getD u):=by
 unfold atKey getKd
 induction r with
 | nil=>exact rv
 | cons e _ ih=>
   rw [List.find?_cons,List.find?_cons,e.1]
   generalize decide (_=κ)=b
   cases b with
   | true=>exact e.2.2
   | false=>exact ih
end
end M3
set_option maxHeartbeats 1000000
namespace M3
open PySem L2
section
variable {K:PySem.W.Frag} {c:Cf} {Hb H H':Hp} {G L0 L L':List Addr} {M M':Mem} {σ3:List Sl} {σ:St} {W:WX} {Hv:Hp} {v:V} {d:T}
def allNo:List Sl→Bool
 | []=>true
 | .own _::_=>false
 | _::r=>allNo r
theorem allNo_get:∀ {σ:List Sl} {i:Nat} {s:Sl},allNo σ=true→σ[i]? =some s→∀t,s≠ .own t
 | [],i,s,_,h=>by simp at h
 | x::r,0,s,h,e=>by
   simp at e
   subst e
   intro t z
   subst z
   cases h
 | x::r,i+1,s,h,e=>by
   refine allNo_get (σ:=r) ?_ (by simpa using e)
   cases x with
   | own t=>cases h
   | no=>exact h
   | val t=>exact h
def puS (t:S3):S4:=fun N σ M=>t {nx:=fun σ'=>allNo σ'=true∧N.nx σ' M,ct:=fun σ'=>allNo σ'=true∧N.ct σ' M,bk:=fun σ'=>allNo σ'=true∧N.bk σ' M,rt:=fun _=>False,xn:=fun σ' x=>allNo σ'=true∧N.xn σ' x M} σ
theorem R4.back (r:R4 K c Hb G L0 L M σ3 σ H) {A':List (Option Addr)} {σ3':List Sl} {σ':St} (q:R3 K c H (G++L) A' σ3' σ' H') (hn:allNo σ3'=true):R4 K c Hb G L0 L M σ3' σ' H'∧∀a,a ∉ addrs A':=by
 have hA:∀a,a ∉ addrs A':=fun a z=>by
  obtain ⟨i,hi⟩:=List.getElem?_of_mem (mem_addrs.mp z)
  have hl:=(List.getElem?_eq_some_iff.mp hi).1
  have h1:i<σ3'.length:=by rw [←q.l1];exact hl
  have h2:i<σ'.length:=by rw [q.l2];exact h1
  have z:=q.at_ i _ _ _ (List.getElem?_eq_getElem h1) hi (List.getElem?_eq_getElem h2)
  have hs:=allNo_get hn (List.getElem?_eq_getElem h1)
  cases e:σ3'[i] with
  | no=>rw [e] at z;cases z
  | val t=>rw [e] at z;obtain ⟨z,_⟩:=z;cases z
  | own t=>exact hs t e
 have q0:=q
 have e:=nons_of hA
 rw [q.l1] at e
 rw [e] at q
 have b:=q.base
 have l:Le c (G++L) (nons σ3.length) H H':=⟨by rw [S_nons] at b ⊢;rw [←List.append_assoc] at b;exact b,fun a h=>by rw [addrs_nons,List.append_nil] at h;exact (q.gk a h).1,q.inv⟩
 exact ⟨(r.le l).slots q.re (by rw [addrs_nons];intro a z;cases z),hA⟩
theorem lift_puS {ts:TS} {t:S3} (h:LiftS K c W ts t):LiftS4 K c W ts (puS t):=by
 intro N σ3 M ht Hb G L0 L σ H D R Z
 refine h _ _ ht H (G++L) (nons σ3.length) σ H D R.r3 ⟨?_,fun _ _ _ _ z=>z.elim, ?_, ?_, ?_⟩
 · intro A σ3' σ' H' q z
   exact Z.nx _ _ _ _ _ (R.back q z.1).1 z.2
 · intro A σ3' σ' H' q z
   exact Z.bk _ _ _ _ _ (R.back q z.1).1 z.2
 · intro A σ3' σ' H' q z
   exact Z.ct _ _ _ _ _ (R.back q z.1).1 z.2
 · intro A σ3' σ' H' cls dd x q r z
   obtain ⟨R',hA⟩:=R.back q z.1
   have e:=nons_of hA
   rw [e,S_nons] at r
   exact Z.xn _ _ _ _ _ _ _ _ R' r z.2
end
structure TabF (K:PySem.W.Frag) (mg:Str→Option Value) (base:Heap) (nm:Str) (st:Stmt) (dts:List T) (kns:List Str) (kts:List T) (Ts:List (Addr×Str)):Prop where
 d:DefAt K mg nm nm st dts kns kts
 ex:∃(f cL PL:Addr) (dV kV doc pm ct oc:Value) (an od:Option Addr) (osl:Array (Option Value)),K.lookup f=some ⟨oc,od,.func (PySem.W.fnOf nm nm (defArgs st) (defBody st) (defScope st) dV kV doc pm an (.ref cL) ct),osl⟩∧PySem.W.codeIn K (.ref cL) nm=true∧LamX.TabB base mg cL PL∧
  (PL,(nm++".<locals>.":Str)++"<lambda>")∈Ts∧(∀p∈Ts,p.1=PL→p.2=(nm++".<locals>.":Str)++"<lambda>")∧mg nm=some (.ref f)
theorem TabF.ok {P:Program} {w:World} {K:PySem.W.Frag} {mg:Str→Option Value} {base:Heap} {CX:CXT} {nm:Str} {st:Stmt} {dts kts:List T} {kns:List Str} {Ts:List (Addr×Str)} {k:Nat} {ps:List Str} {sp:Sp} (t:TabF K mg base nm st dts kns kts Ts)
 (h:∀(f cL PL:Addr) (dV kV doc pm ct oc:Value) (an od:Option Addr) (osl:Array (Option Value)),K.lookup f=some ⟨oc,od,.func (PySem.W.fnOf nm nm (defArgs st) (defBody st) (defScope st) dV kV doc pm an (.ref cL) ct),osl⟩→PySem.W.codeIn K (.ref cL) nm=true→LamX.TabB base mg cL PL→
   (PL,(nm++".<locals>.":Str)++"<lambda>")∈Ts→(∀p∈Ts,p.1=PL→p.2=(nm++".<locals>.":Str)++"<lambda>")→FnOk P w K mg base CX k f (PySem.W.fnOf nm nm (defArgs st) (defBody st) (defScope st) dV kV doc pm an (.ref cL) ct) ps sp):OkF P w K mg base CX nm nm st dts kns kts k ps sp:=by
 obtain ⟨f',fd,dvs,kvs,rd,rk,F,hm⟩:=t.d.ex
 obtain ⟨f,cL,PL,dV,kV,doc,pm,ct,oc,an,od,osl,lk,hc,tb,h1,h2,m⟩:=t.ex
 rw [hm] at m
 cases m
 obtain ⟨oc',od',dV',kV',doc',pm',an',cdv',ct',osl',e,lk',_⟩:=F.ex
 rw [lk] at lk'
 have e2:PySem.W.fnOf nm nm (defArgs st) (defBody st) (defScope st) dV kV doc pm an (.ref cL) ct=fd:=by
  injection lk' with z
  injection z with _ _ z _
  injection z
 refine ⟨_,fd,dvs,kvs,rd,rk,F,hm, ?_⟩
 rw [←e2]
 exact h _ cL PL dV kV doc pm ct oc an od osl lk hc tb h1 h2
end M3
set_option maxHeartbeats 1000000
namespace M3
open PySem PySem.Spec PyProof.Rows L2
theorem KPair.at_ {xs:List (NestedKey×Addr×V)} {ys:List (NestedKey×Addr×Value)} (r:KPair xs ys) (κ:NestedKey) {v:V} (h:getKd xs κ=some v):∃p,atKey ys κ=some p∧RelV v p.2:=by
 unfold atKey
 unfold getKd at h
 induction r with
 | nil=>cases h
 | @cons p q _ _ e _ ih=>
   rw [List.find?_cons,e.1] at h
   rw [List.find?_cons]
   by_cases z:q.1=κ
   · rw [decide_eq_true z] at h ⊢
     cases h
     exact ⟨_,rfl,e.2.2⟩
   · rw [decide_eq_false z] at h ⊢
     exact ih h
end M3
set_option maxHeartbeats 1000000
namespace M3
open PySem L2
end M3
set_option maxHeartbeats 1000000
namespace M3
open PySem L2
end M3
namespace M3
open PySem L2
def cellI (M:Mem) (a:Addr):Option (Addr×List (Str×T)):=(M a).bind asIns
theorem cellI_is {M:Mem} {a C:Addr} {fs:List (Str×T)} (h:cellI M a=some (C,fs)):M a=some (.ins C fs):=by
 unfold cellI at h
 cases e:M a with
 | none=>rw [e] at h;cases h
 | some t=>rw [e] at h;rw [asIns_is (show asIns t=some (C,fs) from h)]
section
variable {K:PySem.W.Frag} {c:Cf} {Hb H H':Hp} {G L0 L L':List Addr} {M M':Mem} {σ3:List Sl} {σ:St} {W:WX}
theorem R4.atI (r:R4 K c Hb G L0 L M σ3 σ H) {a C:Addr} {fs:List (Str×T)} (h:M a=some (.ins C fs)):a∈L∧∃dx ks,H a=some (.ins C dx ks)∧ks.map (·.1)=fs.map (·.1)∧RepL K (vs4 c G L H) (ks.map (·.2)) (fs.map (·.2)):=
 ⟨(r.cells.on a).mpr (by rw [h];intro z;cases z),r.cells.at_ a _ h⟩
theorem R4.fresh (R:R4 K c Hb G L0 L M σ3 σ H) {a:Addr} {o:HO} {t:T} (na:H a=none) (hr:∀Hv,Same (vs4 c G L H) Hv→CellRep K Hv (upd H a o) a t):M a=none∧R4 K c Hb G L0 (a::L) (mset M a (some t)) σ3 σ (upd H a o)∧Same (vs4 c G L H) (vs4 c G (a::L) (upd H a o)):=by
 have l:=R.r3.new (o:=o) na
 have nS:a ∉ c.S0++G++L:=by have:=R.r3.free na;rwa [S_nons] at this
 have mD:M a=none:=by
  cases e:M a with
  | none=>rfl
  | some t=>exact absurd (by simp [(R.cells.on a).mpr (by rw [e];intro z;cases z)]) nS
 have vis:Same (vs4 c G L H) (vs4 c G (a::L) (upd H a o)):=fun b u z=>by
  obtain ⟨z1,z2,z3⟩:=hid_all z
  refine hid_mk (by rw [upd_ne (ne_of_none z1 na)];exact z1) (fun y=>z2 ?_) z3
  rcases List.mem_append.mp y with y | y
  · exact List.mem_append.mpr (.inl y)
  · rcases List.mem_cons.mp y with y | y
    · rw [y,na] at z1;cases z1
    · exact List.mem_append.mpr (.inr y)
 refine ⟨mD,R.step l.inv vis (fun b h=>l.own b (by simp [h])) ⟨fun b=> ?_,fun b h=> ?_,fun b t' e=> ?_⟩,vis⟩
 · by_cases z:b=a
   · subst z;simp
   · rw [mset_ne z,List.mem_cons]
     exact ⟨fun h=>(R.cells.on b).mp (h.resolve_left z),fun h=>.inr ((R.cells.on b).mpr h)⟩
 · rcases List.mem_cons.mp h with rfl | h
   · exact fun z=>nS (by simp at z ⊢;rcases z with z | z<;>simp [z])
   · exact R.cells.off b h
 · by_cases z:b=a
   · subst z
     rw [mset_same] at e
     cases e
     exact hr _ vis
   · rw [mset_ne z] at e
     exact (R.cells.at_ b t' e).mono vis (l.own b (by simp [(R.cells.on b).mpr (by rw [e];intro z;cases z)]))
def fldC4 (cl:List Addr) (f:Str) (o:E4):E4:=fun σ M Q X=>o σ M (fun d M1=>ob (asR d) fun a=>ob (cellI M1 a) fun p=>p.1∈cl∧ob (p.2.lookup f) fun t=>Q t M1) X
theorem lift_fldC {cl:List Addr} {f:Str} {to:TE} {o:E4} (hC:∀C∈cl,Cls K C∧NoAttr K C f) (ho:Lift4 K c W to o):Lift4 K c W (tFld K to f) (fldC4 cl f o):=by
 intro σ3 M Q4 X h Hb G L0 L σ H Q R k ex
 refine ho _ _ _ _ h Hb G L0 L σ H _ R (fun v d L1 M1 H1 R1 s1 r q=> ?_) ex
 obtain ⟨a,ea,qa⟩:=ob_iff.mp q
 cases asR_is ea
 cases r.refI
 obtain ⟨⟨C,fs⟩,ei,hc,qb⟩:=ob_iff.mp qa
 obtain ⟨t,et,qc⟩:=ob_iff.mp qb
 obtain ⟨m1,dx,ks,o1,o2,o3⟩:=R1.atI (cellI_is ei)
 obtain ⟨u,eu,ru⟩:=lookup_rep o2 o3 et
 exact ⟨a,C,dx,ks,u,rfl,o1,(hC C hc).1,(hC C hc).2,eu,k _ _ L1 M1 H1 R1 s1 ru qc⟩
def setC4 (cl:List Addr) (f:Str) (o e:E4):S4:=fun N σ M=>e σ M (fun d M1=>o σ M1 (fun y M2=>ob (asR y) fun a=>ob (cellI M2 a) fun p=>p.1∈cl∧p.2.length<1000∧N.nx σ (mset M2 a (some (.ins p.1 (putF3 f d p.2))))) (N.xn σ)) (N.xn σ)
theorem lift_setC {cl:List Addr} {f:Str} {to te:TE} {o e:E4} (hC:∀C∈cl,Cls K C∧NoAttr K C f) (ho:Lift4 K c W to o) (he:Lift4 K c W te e):LiftS4 K c W (sFld K to te f) (setC4 cl f o e):=by
 intro N σ3 M h Hb G L0 L σ H D R Z
 refine he _ _ _ _ h Hb G L0 L σ H _ R (fun v d L1 M1 H1 R1 s1 r1 q=> ?_) (fun cls dd x L' M' H' R' s' r q=>Z.xn _ _ _ _ _ _ _ _ R' r q)
 refine ho _ _ _ _ q Hb G L0 L1 σ H1 _ R1 (fun w y L2 M2 H2 R2 s2 r2 q=> ?_) (fun cls dd x L' M' H' R' s' r q=>Z.xn _ _ _ _ _ _ _ _ R' r q)
 obtain ⟨a,ea,qa⟩:=ob_iff.mp q
 cases asR_is ea
 cases r2.refI
 obtain ⟨⟨C,fs⟩,ei,hc,hl,qb⟩:=ob_iff.mp qa
 obtain ⟨m2,dx,ks,o1,o2,o3⟩:=R2.atI (cellI_is ei)
 obtain ⟨e1,e2⟩:=putF_rep (f:=f) (r1.mono s2) o2 o3
 have ll:ks.length=fs.length:=by simpa using congrArg List.length o2
 exact ⟨a,C,dx,ks,rfl,o1,(hC C hc).1,(hC C hc).2,by rw [ll];exact hl,Z.nx _ _ _ _ _ (R2.put (t:=.ins C (putF3 f d fs)) m2 (fun φ z=>by cases z) ⟨dx,_,upd_same,e1,e2⟩) qb⟩
end
section
variable {K:PySem.W.Frag} {fr' dr:Bool} {p cc:Addr} {Ts:List (Addr×Str)} {W:WX} {t tk:TA} {x y:A4} {n m j:Nat} {f:F4} {E:XK} {dvs:List V} {dts:List T} {C:Addr}
theorem mkC_step {Hb H1:Hp} {G L0 L:List Addr} {M:Mem} {σ3:List Sl} {σ:St} (R1:R4 K (potR fr' p cc Ts) Hb G L0 L M σ3 σ H1) {a dx:Addr} (na:H1 a=none) (ndx:H1 dx=none) (ne:dx≠a):
 M a=none∧R4 K (potR fr' p cc Ts) Hb G L0 (a::L) (mset M a (some (.ins C []))) σ3 σ (upd (upd H1 dx (.own a)) a (.ins C dx []))∧Same (vs4 (potR fr' p cc Ts) G L H1) (vs4 (potR fr' p cc Ts) G (a::L) (upd (upd H1 dx (.own a)) a (.ins C dx []))):=by
 have l:=R1.r3.new (o:=.own a) ndx
 have R2:=R1.le l
 have na2:(upd H1 dx (.own a)) a=none:=by rw [upd_ne ne.symm];exact na
 obtain ⟨ma,R3,s2⟩:=R2.fresh (o:=.ins C dx []) (t:=.ins C []) na2 (fun Hv _=>⟨dx,[],upd_same,rfl,.nil⟩)
 exact ⟨ma,R3,Same.trans l.vis4 s2⟩
def methC4 (C:Addr) (mn:Str) (n:Nat) (f:F4) (o:E4) (x:A4) (dts:List T):E4:=fun σ M Q X=>o σ M (fun d M1=>ob (asR d) fun a=>ob (cellI M1 a) fun q=>q.1=C∧q.2.lookup mn=none∧x σ M1 (fun ds M2=>(d::(ds++dts)).length=n∧f (d::(ds++dts)) M2 Q X) X) X
def methC40 (C:Addr) (mn:Str) (n:Nat) (f:F4) (o:E4) (x:A4) (dts:List T):E4:=fun σ M Q X=>o σ M (fun d M1=>ob (asR d) fun a=>ob (cellI M1 a) fun q=>q.1=C∧q.2.lookup mn=none∧x σ M1 (fun ds M2=>(d::(ds++dts)).length=n∧f (d::(ds++dts)) M2 Q (fun _ _=>False)) X) X
theorem lift_methC {to:TE} {o:E4} {mn:Str} (hE:∀cls dd σ H,W cls dd σ H→E cls dd H) (ho:Lift4 K (potR fr' p cc Ts) W to o) (hx:LiftA4 K (potR fr' p cc Ts) W t x) (hd:∀H,RepL K H dvs dts):Lift4 K (potR fr' p cc Ts) W (tMeth C mn (spU4 K false n f Ts) dvs E to t) (methC4 C mn n f o x dts):=by
 intro σ3 M Q4 X h Hb G L0 L σ H Q R k e
 refine ho _ _ _ _ h Hb G L0 L σ H _ R (fun v d L1 M1 H1 R1 s1 r q=> ?_) e
 obtain ⟨a,ea,qa⟩:=ob_iff.mp q
 cases asR_is ea
 cases r.refI
 obtain ⟨⟨C',fs⟩,ei,e1,hl,qb⟩:=ob_iff.mp qa
 cases e1
 obtain ⟨m1,dx,ks,o1,o2,o3⟩:=R1.atI (cellI_is ei)
 refine ⟨a,dx,ks,rfl,o1,lookup_none_keys o2 hl, ?_⟩
 refine hx _ _ _ _ qb Hb G L0 L1 σ H1 _ R1 (fun vs ds L2 M2 H2 R2 s2 rs q=> ?_) (fun cls dd x L' M' H' R' s'=>e cls dd x L' M' H' R' (Same.trans s1 s'))
 exact spU4_call R2 (.cons (.ref a) (rs.append (hd _))) q.1 (fun z=>by cases z) q.2 (fun v d L' M' H' R' s' r q=>k v d L' M' H' R' (Same.trans (Same.trans s1 s2) s') r q) (fun cls dd x L' M' H' R' s' r q=>hE _ _ σ _ (e cls dd x L' M' H' R' (Same.trans (Same.trans s1 s2) s') r q))
theorem lift_methC0 {to:TE} {o:E4} {mn:Str} (ho:Lift4 K (potR fr' p cc Ts) W to o) (hx:LiftA4 K (potR fr' p cc Ts) W t x) (hd:∀H,RepL K H dvs dts):Lift4 K (potR fr' p cc Ts) W (tMeth C mn (spU4 K false n f Ts) dvs E to t) (methC40 C mn n f o x dts):=by
 intro σ3 M Q4 X h Hb G L0 L σ H Q R k e
 refine ho _ _ _ _ h Hb G L0 L σ H _ R (fun v d L1 M1 H1 R1 s1 r q=> ?_) e
 obtain ⟨a,ea,qa⟩:=ob_iff.mp q
 cases asR_is ea
 cases r.refI
 obtain ⟨⟨C',fs⟩,ei,e1,hl,qb⟩:=ob_iff.mp qa
 cases e1
 obtain ⟨m1,dx,ks,o1,o2,o3⟩:=R1.atI (cellI_is ei)
 refine ⟨a,dx,ks,rfl,o1,lookup_none_keys o2 hl, ?_⟩
 refine hx _ _ _ _ qb Hb G L0 L1 σ H1 _ R1 (fun vs ds L2 M2 H2 R2 s2 rs q=> ?_) (fun cls dd x L' M' H' R' s'=>e cls dd x L' M' H' R' (Same.trans s1 s'))
 exact spU4_call R2 (.cons (.ref a) (rs.append (hd _))) q.1 (fun z=>by cases z) q.2 (fun v d L' M' H' R' s' r q=>k v d L' M' H' R' (Same.trans (Same.trans s1 s2) s') r q) (fun cls dd x L' M' H' R' s' r q=>q.elim)
end
end M3
set_option maxHeartbeats 1000000
namespace M3
open PySem PySem.Spec PyProof.Rows L2 LamX PySem.W PySem.Calls
end M3
namespace PySem
structure ZOn (h:Heap) (zz TI TO j1 j2:Addr) (L:List (Addr×Value×Value)):Prop where
 ti:IsTupOf2 h TI (.ref j1) (.ref j2)
 st:(L=[]∧IsZip h zz TI TO .none∧∃a1 a2,IsTupOf2 h TO a1 a2)∨∃q fl,q∈L∧IsZipHeld h zz TI TO q.1 fl
 tup:∀q∈L,IsTupOf2 h q.1 q.2.1 q.2.2
theorem ZOn.keep {h h':Heap} {zz TI TO j1 j2:Addr} {L:List (Addr×Value×Value)} (z:ZOn h zz TI TO j1 j2 L) (k:∀b o,b=zz∨b=TI∨b=TO∨b∈L.map (·.1)→h.get? b=some o→h'.get? b=some o):ZOn h' zz TI TO j1 j2 L where
 ti:=k _ _ (.inr (.inl rfl)) z.ti
 st:=by
  rcases z.st with ⟨e,h1,a1,a2,h2⟩ | ⟨q,fl,hq,h1⟩
  · exact .inl ⟨e,k _ _ (.inl rfl) h1,a1,a2,k _ _ (.inr (.inr (.inl rfl))) h2⟩
  · exact .inr ⟨q,fl,hq,k _ _ (.inl rfl) h1⟩
 tup:=fun q hq=>k _ _ (.inr (.inr (.inr (List.mem_map.mpr ⟨q,hq,rfl⟩)))) (z.tup q hq)
section
variable {prog:Program} {w:World} {A:Around} {E:Value→Shared→Prop} {s:Shared} {zz TI TO j1 j2 dst:Addr} {f1 f2:List Addr} {n1 n2:Nat} {P1 P2:Nat→Value→Prop} {St1 St2:Nat→Heap→Prop}
structure ZGot (P1 P2:Nat→Value→Prop) (n lo:Nat) (h:Heap) (acc:Array Value) (L:List (Addr×Value×Value)):Prop where
 len:L.length=n
 acc:acc.toList=L.map fun q=>Value.ref q.1
 its:∀(j:Nat) q,L[j]? =some q→P1 j q.2.1∧P2 j q.2.2
 rise:(L.map (·.1)).Pairwise (· < ·)
 low:∀q∈L,lo≤q.1
theorem ZGot.more {k lo:Nat} {h h':Heap} {ac:Array Value} {L:List (Addr×Value×Value)} (g:ZGot P1 P2 k lo h ac L) (hlo:lo≤h.objs.size) {x1 x2:Value} (p1:P1 k x1) (p2:P2 k x2) (ht:∀q∈L,IsTupOf2 h q.1 q.2.1 q.2.2):
 ZGot P1 P2 (k+1) lo h' (ac.push (.ref h.objs.size)) (L++[(h.objs.size,x1,x2)]) where
 len:=by rw [List.length_append,g.len];rfl
 acc:=by rw [Array.toList_push,g.acc,List.map_append];rfl
 its:=fun j q hj=>by
  rcases Nat.lt_trichotomy j L.length with c | c | c
  · rw [List.getElem?_append_left c] at hj;exact g.its j q hj
  · subst c
    rw [List.getElem?_append_right (Nat.le_refl _),Nat.sub_self] at hj
    cases hj
    rw [g.len]
    exact ⟨p1,p2⟩
  · rw [List.getElem?_eq_none (by rw [List.length_append];simp;omega)] at hj;cases hj
 rise:=by
  rw [List.map_append]
  refine List.pairwise_append.mpr ⟨g.rise,List.pairwise_singleton _ _,fun a ha b hb=> ?_⟩
  obtain ⟨q,hq,rfl⟩:=List.mem_map.mp ha
  rw [List.mem_singleton.mp hb]
  exact Heap.lt_size (ht q hq)
 low:=fun q hq=>by
  rcases List.mem_append.mp hq with c | c
  · exact g.low q c
  · rw [List.mem_singleton.mp c];exact hlo
end
end PySem
namespace PySem
end PySem
namespace M3
open PySem PySem.Spec PyProof.Rows L2
end M3
set_option maxHeartbeats 1000000
namespace M3
open PySem PySem.Spec PyProof.Rows L2
def frzL (F:Addr→Obj) (Z:List Addr) (H:Hp):Hp:=fun a=>if a∈Z then (match H a with | some (.dK kvs)=>some (.frz (F a) (.dK kvs)) | o=>o) else H a
def isDK:Option HO→Bool
 | some (.dK _)=>true
 | _=>false
def thw:Option HO→Option HO
 | some (.frz _ (.dK kvs))=>some (.dK kvs)
 | o=>o
def unfL (H:Hp) (Z:List Addr) (H1:Hp):Hp:=fun a=>if a∈Z∧isDK (H a)=true then thw (H1 a) else H1 a
theorem isDK_is {o:Option HO} (h:isDK o=true):∃kvs,o=some (.dK kvs):=by
 unfold isDK at h
 split at h
 · exact ⟨_,rfl⟩
 · cases h
section
variable {F:Addr→Obj} {Z:List Addr} {H H1:Hp} {a:Addr}
theorem frzL_dK {kvs:List (Key×V)} (hz:a∈Z) (h:H a=some (.dK kvs)):frzL F Z H a=some (.frz (F a) (.dK kvs)):=by
 unfold frzL
 rw [if_pos hz,h]
theorem frzL_ne (h:∀kvs,H a≠some (.dK kvs)):frzL F Z H a=H a:=by
 unfold frzL
 split
 · split
   · rename_i kvs e
     exact absurd e (h kvs)
   · rfl
 · rfl
theorem frzL_off (h:a ∉ Z):frzL F Z H a=H a:=by
 unfold frzL
 rw [if_neg h]
theorem unfL_off (h:¬(a∈Z∧isDK (H a)=true)):unfL H Z H1 a=H1 a:=by
 unfold unfL
 rw [if_neg h]
theorem unfL_on (h:a∈Z∧isDK (H a)=true):unfL H Z H1 a=thw (H1 a):=by
 unfold unfL
 rw [if_pos h]
end
section
variable {X:Cx} {pins:List (Addr×Obj)} {σ:L2.St} {H H' H1:Hp} {s s1:Shared}
theorem inv_ghost (I:Inv X pins σ H s) (fr:∀a,H a=none→H' a=none) (tu:∀a xs,H a=some (.tup xs)→H' a=some (.tup xs)) (fz:∀a o u,X.H_0 a=some (.frz o u)→H' a=some (.frz o u))
 (tb:∀a ps,H a=some (.tbl ps)→H' a=some (.tbl ps)) (ow:∀a b,H a=some (.own b)→H' a=some (.own b)) (ok:∀a o,H' a=some o→H a=some o∨ObjOk X.prog X.w H s.heap a o):Inv X pins σ H' s where
 ok:=I.ok
 os:=I.os
 bare:=I.bare
 base:=⟨I.base.keep,I.base.slot,fun b o h1 h2 h3=>fr b (I.base.free b o h1 h2 h3),I.base.there,fun b xs h=>tu b xs (I.base.tups b xs h),fz,fun b ps h=>by
  obtain ⟨more,q⟩:=I.base.tbls b ps h
  exact ⟨more,tb b _ q⟩⟩
 loc:=I.loc
 cell:=I.cell
 free:=fr _ I.free
 freeC:=fun x c h=>fr _ (I.freeC x c h)
 pin:=fun p hp=>by
  obtain ⟨h1,h2,h3⟩:=I.pin p hp
  exact ⟨h1,fr _ h2,h3⟩
 hok:=fun a o e=>by
  rcases ok a o e with h | h
  · exact (I.hok a o h).stay (fun _ _ _ q=>q) (fun b q=>ow b a q) (fun b xs q=>tu b xs q)
  · exact h.stay (fun _ _ _ q=>q) (fun b q=>ow b a q) (fun b xs q=>tu b xs q)
 len:=I.len
def objF (h:Heap) (a:Addr):Obj:=(h.get? a).getD {cls:=.none,data:=.fields #[]}
theorem inv_frzL (I:Inv X pins σ H s) (Z:List Addr):Inv X pins σ (frzL (objF s.heap) Z H) s:=by
 have ne:∀ {a:Addr} {o:Option HO},H a=o→(∀kvs,o≠some (.dK kvs))→frzL (objF s.heap) Z H a=o:=fun {a o} e h=>by
  rw [frzL_ne (fun kvs q=>h kvs (by rw [←e];exact q)),e]
 refine inv_ghost I (fun a h=>ne h (fun _ z=>by cases z)) (fun a xs h=>ne h (fun _ z=>by cases z)) (fun a o u h=>ne (I.base.frzs a o u h) (fun _ z=>by cases z)) (fun a ps h=>ne h (fun _ z=>by cases z)) (fun a b h=>ne h (fun _ z=>by cases z)) (fun a o h=> ?_)
 by_cases c:a∈Z∧isDK (H a)=true
 · obtain ⟨c1,c2⟩:=c
   obtain ⟨kvs,e⟩:=isDK_is c2
   rw [frzL_dK c1 e] at h
   cases h
   have ok:=I.hok a _ e
   obtain ⟨z,y,vs,rel,ob,es,ep,eo,ro⟩:=id ok
   refine .inr ⟨?_,ok⟩
   show s.heap.get? a=some (objF s.heap a)
   unfold objF
   rw [eo]
   rfl
 · left
   rw [←h]
   by_cases c1:a∈Z
   · refine (frzL_ne fun kvs e=>c ⟨c1,by rw [e];rfl⟩).symm
   · exact (frzL_off c1).symm
theorem inv_unfL (I:Inv X pins σ H s) {Z:List Addr} (I1:Inv X pins σ H1 s1):Inv X pins σ (unfL H Z H1) s1:=by
 have st:∀ {a:Addr} {o:Option HO},H1 a=o→thw o=o→unfL H Z H1 a=o:=fun {a o} e h=>by
  by_cases c:a∈Z∧isDK (H a)=true
  · rw [unfL_on c,e,h]
  · rw [unfL_off c,e]
 refine inv_ghost I1 (fun a h=>st h rfl) (fun a xs h=>st h rfl) (fun a o u h=> ?_) (fun a ps h=>st h rfl) (fun a b h=>st h rfl) (fun a o h=> ?_)
 · have e:=I.base.frzs a o u h
   rw [unfL_off (fun c=>by rw [e] at c;cases c.2)]
   exact I1.base.frzs a o u h
 · by_cases c:a∈Z∧isDK (H a)=true
   · rw [unfL_on c] at h
     cases e:H1 a with
     | none=>rw [e] at h;cases h
     | some u=>
       rw [e] at h
       have ok:=I1.hok a u e
       unfold thw at h
       split at h
       · rename_i ob kvs eq
         cases h
         have eq:u= .frz ob (.dK kvs):=Option.some.inj eq
         subst eq
         exact .inr ok.2
       · exact .inl h
   · rw [unfL_off c] at h
     exact .inl h
def tAround (te:TE):TE:=fun σ H Q=>∃Z,∀F,te σ (frzL F Z H) (fun v H1=>Q v (unfL H Z H1))
theorem pe_around {e:Expr} {te:TE} (h:PE X e te):PE X e (tAround te):=by
 refine ⟨fun pins s σ H Q I q=> ?_⟩
 obtain ⟨Z,q⟩:=q
 exact thn (h.run pins s σ _ _ (inv_frzL I Z) (q _)) fun u s1 ⟨v,H1,I1,r,q1⟩=>⟨v,_,inv_unfL I I1,r,q1⟩
def tAroundT (te:TT):TT:=fun σ H Q=>∃Z,∀F,te σ (frzL F Z H) (fun v H1=>Q v (unfL H Z H1))
theorem pt_around {e:Expr} {te:TT} (h:PT X e te):PT X e (tAroundT te):=by
 refine ⟨fun pins s σ H Q I q=> ?_⟩
 obtain ⟨Z,q⟩:=q
 exact thn (h.run pins s σ _ _ (inv_frzL I Z) (q _)) fun u s1 ⟨H1,I1,q1⟩=>⟨_,inv_unfL I I1,q1⟩
end
end M3
set_option maxHeartbeats 1000000
namespace M3
open PySem L2
structure See where
 l:Bool
 d:Bool
 cl:List Addr
def hidC (e:See) (M:Mem) (a:Addr):Bool:=match M a with
 | some (.lst _)=> !e.l
 | some (.dic _)=> !e.d
 | some (.ins C _)=> !decide (C∈e.cl)
 | _=>true
def noC (e:See) (M:Mem) (L:List Addr):List Addr:=L.filter fun a=>hidC e M a
def isDic:Option T→Bool
 | some (.dic _)=>true
 | _=>false
def zs (e:See) (M:Mem) (L:List Addr):List Addr:=L.filter fun a=>e.d&&isDic (M a)
def seeO (e:See) (a:Addr) (f:T→T):Option T→T
 | some (.lst xs)=>if e.l=true then .lst (xs.map f) else .ref a
 | some (.dic ts)=>if e.d=true then .dic (ts.map fun p=>(p.1,f p.2)) else .ref a
 | some (.ins C fs)=>if C∈e.cl then .ins C (fs.map fun p=>(p.1,f p.2)) else .ref a
 | _=>.ref a
def seen (e:See) (M:Mem):Nat→T→T
 | n+1,.ref a=>seeO e a (seen e M n) (M a)
 | n+1,.tup xs=>.tup (xs.map (seen e M n))
 | n+1,.lst xs=>.lst (xs.map (seen e M n))
 | n+1,.ins C fs=>.ins C (fs.map fun p=>(p.1,seen e M n p.2))
 | _,d=>d
mutual
def okS (e:See):T→Bool
 | .tup xs=>okSL e xs
 | .lst xs=> !e.l&&okSL e xs
 | .ins C fs=> !decide (C∈e.cl)&&okSF e fs
 | .dic ts=> !e.d&&okSD e ts
 | .kd _ _=>false
 | _=>true
def okSL (e:See):List T→Bool
 | []=>true
 | x::xs=>okS e x&&okSL e xs
def okSF (e:See):List (Str×T)→Bool
 | []=>true
 | x::xs=>okS e x.2&&okSF e xs
def okSD (e:See):List (Key×T)→Bool
 | []=>true
 | x::xs=>okS e x.2&&okSD e xs
end
theorem okSL_get {e:See}:∀ {xs:List T} {i:Nat} {x:T},okSL e xs=true→xs[i]? =some x→okS e x=true
 | [],_,_,_,h=>by simp at h
 | x::xs,0,y,h,q=>by
   simp only [okSL,Bool.and_eq_true] at h
   simp at q
   rw [←q];exact h.1
 | x::xs,i+1,y,h,q=>by
   simp only [okSL,Bool.and_eq_true] at h
   exact okSL_get (i:=i) h.2 (by simpa using q)
theorem okSF_get {e:See}:∀ {xs:List (Str×T)} {i:Nat} {x:T},okSF e xs=true→(xs.map (·.2))[i]? =some x→okS e x=true
 | [],_,_,_,h=>by simp at h
 | x::xs,0,y,h,q=>by
   simp only [okSF,Bool.and_eq_true] at h
   simp at q
   rw [←q];exact h.1
 | x::xs,i+1,y,h,q=>by
   simp only [okSF,Bool.and_eq_true] at h
   exact okSF_get (i:=i) h.2 (by simpa using q)
theorem okSD_get {e:See}:∀ {xs:List (Key×T)} {i:Nat} {x:T},okSD e xs=true→(xs.map (·.2))[i]? =some x→okS e x=true
 | [],_,_,_,h=>by simp at h
 | x::xs,0,y,h,q=>by
   simp only [okSD,Bool.and_eq_true] at h
   simp at q
   rw [←q];exact h.1
 | x::xs,i+1,y,h,q=>by
   simp only [okSD,Bool.and_eq_true] at h
   exact okSD_get (i:=i) h.2 (by simpa using q)
section
variable {K:PySem.W.Frag} {c:Cf} {Hb H H' H2:Hp} {G L0 L L':List Addr} {M M':Mem} {σ3:List Sl} {σ:St} {W:WX} {e:See} {F:Addr→Obj} {v:V} {d:T}
theorem noC_sub {a:Addr} (h:a∈noC e M L):a∈L:=(List.mem_filter.mp h).1
theorem zs_sub {a:Addr} (h:a∈zs e M L):a∈L∧e.d=true∧isDic (M a)=true:=by
 obtain ⟨h1,h2⟩:=List.mem_filter.mp h
 simp only [Bool.and_eq_true] at h2
 exact ⟨h1,h2⟩
abbrev HL (F:Addr→Obj) (e:See) (M:Mem) (L:List Addr) (H:Hp):Hp:=frzL F (zs e M L) H
theorem HL_off {a:Addr} (h:a ∉ zs e M L):HL F e M L H a=H a:=frzL_off h
theorem HL_ne {a:Addr} (h:∀kvs,H a≠some (.dK kvs)):HL F e M L H a=H a:=frzL_ne h
theorem HL_dK {a:Addr} {kvs:List (Key×V)} (hz:a∈zs e M L) (h:H a=some (.dK kvs)):HL F e M L H a=some (.frz (F a) (.dK kvs)):=frzL_dK hz h
theorem zs_dK (cl:Cells K (c.S0++G) L M H) {a:Addr} (h:a∈zs e M L):isDK (H a)=true:=by
 obtain ⟨h1,_,h2⟩:=zs_sub h
 cases em:M a with
 | none=>rw [em] at h2;cases h2
 | some t=>
   rw [em] at h2
   have:=cl.at_ a t em
   cases t with
   | dic kvs=>obtain ⟨ks,e1,_⟩:=this;rw [e1];rfl
   | _=>cases h2
theorem HL_same:Same (vs4 c G L H) (hid (c.S0++G++noC e M L) (HL F e M L H)):=fun a o h=>by
 obtain ⟨h1,h2⟩:=hid_some h
 have nL:a ∉ L:=fun z=>h2 (List.mem_append.mpr (.inr z))
 refine hid_mk (by rw [HL_off (fun z=>nL (zs_sub z).1)];exact h1) (fun z=> ?_) (hid_vis h)
 rcases List.mem_append.mp z with z | z
 · exact h2 (List.mem_append.mpr (.inl z))
 · exact nL (noC_sub z)
theorem R4.look (r:R4 K c Hb G L0 L M σ3 σ H):R3 K c (HL F e M L H) (G++noC e M L) (nons σ3.length) σ3 σ (HL F e M L H):=by
 have e0:∀n,hid (c.S (G++L) (nons n)) H=vs4 c G L H:=fun n=>by rw [S_nons]
 have off:∀a∈c.S0++G,a ∉ zs e M L:=fun a h z=>r.cells.off a (zs_sub z).1 h
 have off2:∀a∈noC e M L,a ∉ zs e M L:=fun a h z=>by
  obtain ⟨_,z1,z2⟩:=zs_sub z
  have h:=(List.mem_filter.mp h).2
  unfold hidC at h
  cases em:M a with
  | none=>rw [em] at z2;cases z2
  | some t=>
    rw [em] at z2 h
    cases t with
    | dic _=>rw [z1] at h;cases h
    | _=>cases z2
 have hm:∀a,a∈G++noC e M L→a∈G++L∧a ∉ zs e M L:=fun a h=>by
  rcases List.mem_append.mp h with h | h
  · exact ⟨List.mem_append.mpr (.inl h),off a (List.mem_append.mpr (.inr h))⟩
  · exact ⟨List.mem_append.mpr (.inr (noC_sub h)),off2 a h⟩
 refine ⟨c.st H _ (fun a h=>HL_off (off a (List.mem_append.mpr (.inl h)))) (fun a q h=>by rw [HL_ne (fun kvs z=>by rw [h] at z;cases z)];exact h) r.r3.inv, ?_,fun a h=>⟨rfl, ?_⟩,fun a h o eo=> ?_,by rw [addrs_nons];exact List.nodup_nil,(by rw [addrs_nons];intro a h;cases h),r.r3.l1,r.r3.l2, ?_⟩
 · rw [S_nons, ←List.append_assoc]
   exact Same.refl _
 · obtain ⟨h1,h2⟩:=hm a h
   rw [HL_off h2]
   exact (r.r3.gk a h1).2
 · obtain ⟨h1,h2⟩:=hm a h
   rw [HL_off h2] at eo
   exact r.r3.gv a h1 o eo
 · intro i s o' x h1 h2 h3
   have z:=r.r3.at_ i s o' x h1 h2 h3
   rw [e0] at z
   rw [S_nons]
   cases s with
   | no=>exact z
   | val t=>obtain ⟨e,v,e2,q⟩:=z;exact ⟨e,v,e2,q.mono HL_same⟩
   | own t=>
     obtain ⟨a,e,_⟩:=z
     have:=(List.mem_replicate.mp (List.mem_of_getElem? h2)).2
     rw [this] at e
     cases e
theorem repL_map {Hv Hw:Hp} {f:T→T} (h:∀v d,Rep K Hv v d→Rep K Hw v (f d)) {vs:List V} {ts:List T} (r:RepL K Hv vs ts):RepL K Hw vs (ts.map f):=by
 induction r with
 | nil=>exact .nil
 | cons r _ ih=>exact .cons (h _ _ r) ih
theorem map_snd {α:Type} (f:T→T) (ts:List (α×T)):(ts.map fun p=>(p.1,f p.2)).map (·.2)=(ts.map (·.2)).map f:=by
 rw [List.map_map,List.map_map]
 rfl
theorem map_fst {α:Type} (f:T→T) (ts:List (α×T)):(ts.map fun p=>(p.1,f p.2)).map (·.1)=ts.map (·.1):=by
 rw [List.map_map]
 rfl
theorem rep_insL {Hv:Hp} {a C dx:Addr} {fs:List (Str×V)} {ts:List (Str×T)} (h:Hv a=some (.ins C dx fs)) (hk:fs.map (·.1)=ts.map (·.1)) (r:RepL K Hv (fs.map (·.2)) (ts.map (·.2))):Rep K Hv (.ref a) (.ins C ts):=.ins h hk fun _ _ _=>r.at
theorem seen_rep (cl:Cells K (c.S0++G) L M H):∀(n:Nat) (v:V) (d:T),Rep K (vs4 c G L H) v d→Rep K (hid (c.S0++G++noC e M L) (HL F e M L H)) v (seen e M n d)
 | 0,v,d,r=>by
   cases d<;>exact r.mono HL_same
 | n+1,v,d,r=>by
   have ih:=seen_rep cl n
   have vis:∀ {a:Addr},M a≠none→hidC e M a=false→a ∉ c.S0++G++noC e M L:=fun {a} hm h z=>by
    rcases List.mem_append.mp z with z | z
    · exact cl.off a ((cl.on a).mpr hm) z
    · have:=(List.mem_filter.mp z).2
      rw [h] at this
      cases this
   cases d with
   | ref a=>
     cases r.refI
     cases em:M a with
     | none=>
       have:seen e M (n+1) (.ref a)= .ref a:=by
        show seeO e a (seen e M n) (M a)=_
        rw [em]
        rfl
       rw [this];exact .ref a
     | some t=>
       have hmem:M a≠none:=by rw [em];intro z;cases z
       have hL:a∈L:=(cl.on a).mpr hmem
       cases t with
       | lst xs=>
         have e1:seen e M (n+1) (.ref a)=if e.l=true then .lst (xs.map (seen e M n)) else .ref a:=by
          show seeO e a (seen e M n) (M a)=_
          rw [em]
          rfl
         rw [e1]
         split
         · rename_i hl
           obtain ⟨vs,h1,h2⟩:=cl.at_ a _ em
           have nz:a ∉ zs e M L:=fun z=>by
            have:=(zs_sub z).2.2
            rw [em] at this
            cases this
           exact .mkL (hid_mk (by rw [HL_off nz];exact h1) (vis hmem (by unfold hidC;rw [em];simp [hl]))) (repL_map ih h2)
         · exact .ref a
       | dic ts=>
         have e1:seen e M (n+1) (.ref a)=if e.d=true then .dic (ts.map fun p=>(p.1,seen e M n p.2)) else .ref a:=by
          show seeO e a (seen e M n) (M a)=_
          rw [em]
          rfl
         rw [e1]
         split
         · rename_i hl
           obtain ⟨ks,h1,h2,h3⟩:=cl.at_ a _ em
           have nz:a∈zs e M L:=List.mem_filter.mpr ⟨hL,by rw [em,hl];rfl⟩
           refine rep_dic (hid_mk (HL_dK nz h1) (vis hmem (by unfold hidC;rw [em];simp [hl]))) (by rw [map_fst];exact h2) ?_
           rw [map_snd]
           exact repL_map ih h3
         · exact .ref a
       | ins C fs=>
         have e1:seen e M (n+1) (.ref a)=if C∈e.cl then .ins C (fs.map fun p=>(p.1,seen e M n p.2)) else .ref a:=by
          show seeO e a (seen e M n) (M a)=_
          rw [em]
          rfl
         rw [e1]
         split
         · rename_i hl
           obtain ⟨dx,ks,h1,h2,h3⟩:=cl.at_ a _ em
           have nz:a ∉ zs e M L:=fun z=>by
            have:=(zs_sub z).2.2
            rw [em] at this
            cases this
           refine rep_insL (hid_mk (by rw [HL_off nz];exact h1) (vis hmem (by unfold hidC;rw [em];simp [hl]))) (by rw [map_fst];exact h2) ?_
           rw [map_snd]
           exact repL_map ih h3
         · exact .ref a
       | _=>exact (cl.at_ a _ em).elim
   | tup xs=>
     obtain ⟨a,vs,rfl,h1,h2⟩:=r.tupF
     exact .mkT (Same.fqT HL_same h1) (repL_map ih h2)
   | lst xs=>
     obtain ⟨a,vs,rfl,h1,h2⟩:=r.lstI
     exact .mkL (HL_same _ _ h1) (repL_map ih h2)
   | ins C fs=>
     cases r with
     | @ins a C dx ks ts hp hk hr=>
       refine rep_insL (HL_same _ _ hp) (by rw [map_fst];exact hk) ?_
       rw [map_snd]
       exact repL_map ih (repL_mk (by have:=congrArg List.length hk;simpa using this) hr)
   | _=>exact r.mono HL_same
end
end M3
set_option maxHeartbeats 1000000
namespace M3
open PySem L2
section
variable {K:PySem.W.Frag} {c:Cf} {Hb H H' H2:Hp} {G L0 L L':List Addr} {M M':Mem} {σ3:List Sl} {σ:St} {W:WX} {e:See} {F:Addr→Obj} {v:V} {d:T}
abbrev HU (e:See) (M:Mem) (L:List Addr) (H H2:Hp):Hp:=unfL H (zs e M L) H2
theorem HU_off {a:Addr} (h:a ∉ L):HU e M L H H2 a=H2 a:=unfL_off fun z=>h (zs_sub z.1).1
structure Lk (K:PySem.W.Frag) (c:Cf) (G L:List Addr) (M:Mem) (H:Hp) (e:See) (F:Addr→Obj) (Ds:List Addr) (H2:Hp):Prop where
 vis:Same (hid (c.S0++G++noC e M L) (HL F e M L H)) (hid (Ds++(c.S0++G++noC e M L)) H2)
 own:∀a∈G++noC e M L,H2 a=HL F e M L H a
 inv:c.I H2
 nD:∀D∈Ds,D ∉ c.S0++G++noC e M L
variable {Ds:List Addr}
theorem Lk.at_ (k:Lk K c G L M H e F Ds H2) (cl:Cells K (c.S0++G) L M H) {a:Addr} (h:a∈L):a ∉ Ds∧H2 a=HL F e M L H a:=by
 by_cases z:a∈noC e M L
 · exact ⟨fun q=>k.nD a q (List.mem_append.mpr (.inr z)),k.own a (List.mem_append.mpr (.inr z))⟩
 · obtain ⟨o,eo,vo,_⟩:=cl.obj h
   have nS:a ∉ c.S0++G++noC e M L:=fun y=>by
    rcases List.mem_append.mp y with y | y
    · exact cl.off a h y
    · exact z y
   by_cases zz:a∈zs e M L
   · obtain ⟨kvs,ek⟩:=isDK_is (zs_dK cl zz)
     have e1:HL F e M L H a=some (.frz (F a) (.dK kvs)):=HL_dK zz ek
     obtain ⟨q1,q2⟩:=hid_some (k.vis _ _ (hid_mk e1 nS))
     exact ⟨fun q=>q2 (List.mem_append.mpr (.inl q)),q1.trans e1.symm⟩
   · have e1:HL F e M L H a=some o:=(HL_off zz).trans eo
     obtain ⟨q1,q2⟩:=hid_some (k.vis _ _ (hid_mk e1 nS vo))
     exact ⟨fun q=>q2 (List.mem_append.mpr (.inl q)),q1.trans e1.symm⟩
theorem Lk.cell (k:Lk K c G L M H e F Ds H2) (cl:Cells K (c.S0++G) L M H) {a:Addr} (h:a∈L):HU e M L H H2 a=H a:=by
 obtain ⟨_,q⟩:=k.at_ cl h
 by_cases zz:a∈zs e M L
 · obtain ⟨kvs,ek⟩:=isDK_is (zs_dK cl zz)
   rw [show HU e M L H H2 a=thw (H2 a) from unfL_on ⟨zz,zs_dK cl zz⟩,q,HL_dK zz ek,ek]
   rfl
 · rw [show HU e M L H H2 a=H2 a from unfL_off fun z=>zz z.1,q,HL_off zz]
theorem Lk.stay (k:Lk K c G L M H e F Ds H2) (cl:Cells K (c.S0++G) L M H):Same (vs4 c G L H) (hid (Ds++(c.S0++G++L)) (HU e M L H H2)):=fun a o h=>by
 obtain ⟨h1,h2⟩:=hid_some h
 have nL:a ∉ L:=fun z=>h2 (List.mem_append.mpr (.inr z))
 have nz:a ∉ zs e M L:=fun z=>nL (zs_sub z).1
 have nS:a ∉ c.S0++G++noC e M L:=fun z=>by
  rcases List.mem_append.mp z with z | z
  · exact h2 (List.mem_append.mpr (.inl z))
  · exact nL (noC_sub z)
 obtain ⟨q1,q2⟩:=hid_some (k.vis _ _ (hid_mk ((HL_off nz).trans h1) nS (hid_vis h)))
 refine hid_mk ((HU_off nL).trans q1) (fun z=> ?_) (hid_vis h)
 rcases List.mem_append.mp z with z | z
 · exact q2 (List.mem_append.mpr (.inl z))
 · exact h2 z
theorem Lk.invU (k:Lk K c G L M H e F Ds H2) (cl:Cells K (c.S0++G) L M H):c.I (HU e M L H H2):=
 c.st H2 _ (fun a h=>HU_off fun z=>cl.off a z (List.mem_append.mpr (.inl h))) (fun a q h=>by
  by_cases zz:a∈zs e M L∧isDK (H a)=true
  · rw [show HU e M L H H2 a=thw (H2 a) from unfL_on zz,h]
    rfl
  · rw [show HU e M L H H2 a=H2 a from unfL_off zz]
    exact h) k.inv
theorem Lk.gU (k:Lk K c G L M H e F Ds H2) (cl:Cells K (c.S0++G) L M H):∀a∈G,HU e M L H H2 a=H a:=fun a h=>by
 have nL:a ∉ L:=fun z=>cl.off a z (List.mem_append.mpr (.inr h))
 rw [HU_off nL,k.own a (List.mem_append.mpr (.inl h)),HL_off fun z=>nL (zs_sub z).1]
theorem R4.unlook (r:R4 K c Hb G L0 L M σ3 σ H) (k:Lk K c G L M H e F [] H2):R4 K c Hb G L0 L M σ3 σ (HU e M L H H2)∧Same (vs4 c G L H) (vs4 c G L (HU e M L H H2)):=by
 have hv:=k.stay r.cells
 exact ⟨r.step (k.invU r.cells) hv (k.gU r.cells) ⟨r.cells.on,r.cells.off,fun a t em=>(r.cells.at_ a t em).mono hv (k.cell r.cells ((r.cells.on a).mpr (by rw [em];intro z;cases z)))⟩,hv⟩
theorem Lk.seenC (k:Lk K c G L M H e F Ds H2) (cl:Cells K (c.S0++G) L M H) {a:Addr} (h:a∈L) (n:a ∉ noC e M L):(e.l=true∧∃vs,H2 a=some (.lst vs))∨(e.d=true∧∃o kvs,H2 a=some (.frz o (.dK kvs)))∨∃C dx ks,C∈e.cl∧H2 a=some (.ins C dx ks):=by
 obtain ⟨_,q⟩:=k.at_ cl h
 have nh:hidC e M a=false:=by
  cases z:hidC e M a with
  | false=>rfl
  | true=>exact absurd (List.mem_filter.mpr ⟨h,z⟩) n
 cases em:M a with
 | none=>exact absurd em ((cl.on a).mp h)
 | some t=>
   have at_:=cl.at_ a t em
   unfold hidC at nh
   rw [em] at nh
   cases t with
   | lst xs=>
     obtain ⟨vs,h1,_⟩:=at_
     have nz:a ∉ zs e M L:=fun z=>by
      have:=(zs_sub z).2.2
      rw [em] at this
      cases this
     exact .inl ⟨by simpa using nh,vs,by rw [q,HL_off nz];exact h1⟩
   | dic ts=>
     obtain ⟨ks,h1,_⟩:=at_
     have ed:e.d=true:=by simpa using nh
     have nz:a∈zs e M L:=List.mem_filter.mpr ⟨h,by rw [em,ed];rfl⟩
     exact .inr (.inl ⟨ed,_,ks,by rw [q,HL_dK nz h1]⟩)
   | ins C fs=>
     obtain ⟨dx,ks,h1,_⟩:=at_
     have nz:a ∉ zs e M L:=fun z=>by
      have:=(zs_sub z).2.2
      rw [em] at this
      cases this
     exact .inr (.inr ⟨C,dx,ks,by simpa using nh,by rw [q,HL_off nz];exact h1⟩)
   | _=>exact at_.elim
theorem Lk.ok (k:Lk K c G L M H e F Ds H2) (cl:Cells K (c.S0++G) L M H) (r:Rep K (hid (Ds++(c.S0++G++noC e M L)) H2) v d):okS e d=true→Rep K (hid (Ds++(c.S0++G++L)) (HU e M L H H2)) v d:=by
 have put:∀ {a:Addr} {o:HO},hid (Ds++(c.S0++G++noC e M L)) H2 a=some o→a ∉ L→hid (Ds++(c.S0++G++L)) (HU e M L H H2) a=some o:=fun {a o} h n=>by
  obtain ⟨h1,h2⟩:=hid_some h
  refine hid_mk ((HU_off n).trans h1) (fun z=>h2 ?_) (hid_vis h)
  rcases List.mem_append.mp z with z | z
  · exact List.mem_append.mpr (.inl z)
  · refine List.mem_append.mpr (.inr ?_)
    rcases List.mem_append.mp z with z | z
    · exact List.mem_append.mpr (.inl z)
    · exact absurd z n
 have out:∀ {a:Addr} {o:HO},hid (Ds++(c.S0++G++noC e M L)) H2 a=some o→a ∉ noC e M L:=fun {a o} h z=>(hid_some h).2 (List.mem_append.mpr (.inr (List.mem_append.mpr (.inr z))))
 induction r with
 | non=>exact fun _=>.non
 | bl b=>exact fun _=>.bl b
 | int i=>exact fun _=>.int i
 | str x=>exact fun _=>.str x
 | ty n=>exact fun _=>.ty n
 | ref a=>exact fun _=>.ref a
 | @tup a vs ts h hl hr ih=>
   intro q
   have q:okSL e ts=true:=by simpa [okS] using q
   refine .tup ?_ hl fun i v t h1 h2=>ih i v t h1 h2 (okSL_get q h2)
   rcases h with ⟨o,dn,eo⟩ | h
   · refine .inl ⟨o,dn,put eo fun z=> ?_⟩
     have e2:=(hid_some eo).1
     rcases k.seenC cl z (out eo) with ⟨_,vs,e1⟩ | ⟨_,o,kvs,e1⟩ | ⟨C,dx,ks,_,e1⟩<;>rw [e1] at e2<;>cases e2
   · exact .inr h
 | @lst a vs ts h hl hr ih=>
   intro q
   have q:e.l=false∧okSL e ts=true:=by simpa [okS] using q
   refine .lst (put h fun z=> ?_) hl fun i v t h1 h2=>ih i v t h1 h2 (okSL_get q.2 h2)
   have e2:=(hid_some h).1
   rcases k.seenC cl z (out h) with ⟨l1,vs,e1⟩ | ⟨_,o,kvs,e1⟩ | ⟨C,dx,ks,_,e1⟩
   · rw [l1] at q;cases q.1
   · rw [e1] at e2;cases e2
   · rw [e1] at e2;cases e2
 | @dic a kvs ts h hk hr ih=>
   intro q
   have q:e.d=false∧okSD e ts=true:=by simpa [okS] using q
   obtain ⟨o,h⟩:=h
   refine .dic ⟨o,put h fun z=> ?_⟩ hk fun i v t h1 h2=>ih i v t h1 h2 (okSD_get q.2 h2)
   have e2:=(hid_some h).1
   rcases k.seenC cl z (out h) with ⟨l1,vs,e1⟩ | ⟨d1,o,kvs,e1⟩ | ⟨C,dx,ks,_,e1⟩
   · rw [e1] at e2;cases e2
   · rw [d1] at q;cases q.1
   · rw [e1] at e2;cases e2
 | @ins a C dx fs ts h hk hr ih=>
   intro q
   have q:C ∉ e.cl∧okSF e ts=true:=by simpa [okS] using q
   refine .ins (put h fun z=> ?_) hk fun i v t h1 h2=>ih i v t h1 h2 (okSF_get q.2 h2)
   have e2:=(hid_some h).1
   rcases k.seenC cl z (out h) with ⟨l1,vs,e1⟩ | ⟨d1,o,kvs,e1⟩ | ⟨C,dx,ks,hc,e1⟩
   · rw [e1] at e2;cases e2
   · rw [e1] at e2;cases e2
   · rw [e1] at e2;cases e2;exact q.1 hc
theorem Lk.okL (k:Lk K c G L M H e F Ds H2) (cl:Cells K (c.S0++G) L M H) {vs:List V} {ts:List T} (r:RepL K (hid (Ds++(c.S0++G++noC e M L)) H2) vs ts):okSL e ts=true→RepL K (hid (Ds++(c.S0++G++L)) (HU e M L H H2)) vs ts:=by
 induction r with
 | nil=>intro _;exact .nil
 | cons r _ ih=>
   intro q
   simp only [okSL,Bool.and_eq_true] at q
   exact .cons (k.ok cl r q.1) (ih q.2)
end
end M3
set_option maxHeartbeats 1000000
namespace M3
open PySem L2
def vwS (e:See) (n:Nat) (M:Mem):List Nat→List Sl→List Sl
 | [],σ=>σ
 | i::is,σ=>match σ[i]? with
   | some (.val d)=>(vwS e n M is σ).set i (.val (seen e M n d))
   | _=>vwS e n M is σ
def vwK4 (e:See) (n:Nat) (is:List Nat) (t:E3):E4:=fun σ M Q _=>t (vwS e n M is σ) (fun d=>okS e d=true∧Q d M) (fun _=>False)
def vwKB4 (e:See) (n:Nat) (is:List Nat) (t:B3):B4:=fun σ M Q _=>t (vwS e n M is σ) (fun b=>Q b M) (fun _=>False)
def okC (e:See):T→Bool
 | .lst xs=>okSL e xs
 | .dic ts=>okSL e (ts.map (·.2))
 | _=>false
def vwKC4 (e:See) (n:Nat) (is:List Nat) (t:E3):E4:=fun σ M Q _=>t (vwS e n M is σ) (fun d=>okC e d=true∧∀p,M p=none→Q (.ref p) (mset M p (some d))) (fun _=>False)
section
variable {K:PySem.W.Frag} {c:Cf} {Hb H H' H2:Hp} {G L0 L L':List Addr} {M M':Mem} {σ3:List Sl} {σ:St} {W:WX} {e:See} {n:Nat} {is:List Nat} {te:TE} {t:E3}
theorem R4.looks (r:R4 K c Hb G L0 L M σ3 σ H) (F:Addr→Obj):∀(is:List Nat),R3 K c (HL F e M L H) (G++noC e M L) (nons σ3.length) (vwS e n M is σ3) σ (HL F e M L H)
 | []=>r.look
 | i::is=>by
   have q:=r.looks F is
   show R3 K c (HL F e M L H) (G++noC e M L) (nons σ3.length) (match σ3[i]? with | some (.val d)=>(vwS e n M is σ3).set i (.val (seen e M n d)) | _=>vwS e n M is σ3) σ (HL F e M L H)
   split
   · rename_i d ea
     obtain ⟨v,hv,rv⟩:=r.r3.get ea
     rw [S_nons] at rv
     have rl:Rep K (hid (c.S (G++noC e M L) (nons σ3.length)) (HL F e M L H)) v (seen e M n d):=by
      rw [S_nons]
      exact seen_rep r.cells n v d rv
     have:=q.set i rl
     rw [set_same hv,nons_set] at this
     exact this
   · exact q
theorem lk_of {m:Nat} {F:Addr→Obj} (l:Le c (G++noC e M L) (nons m) (HL F e M L H) H2):Lk K c G L M H e F [] H2:=by
 have v:=l.vis
 rw [S_nons] at v
 exact ⟨v,fun a h=>l.own a (List.mem_append.mpr (.inl h)),l.inv,fun _ h=>by cases h⟩
theorem lk_ofD {m:Nat} {F:Addr→Obj} {D:Addr} {d:T} (f:FrO K c (G++noC e M L) (nons m) (HL F e M L H) H2 D d):Lk K c G L M H e F [D] H2:=by
 have v:=f.vis
 have nD:=f.nD
 rw [S_nons] at v nD
 exact ⟨v,fun a h=>f.own a (List.mem_append.mpr (.inl h)),f.inv,fun a h=>by rw [List.mem_singleton.mp h];exact nD⟩
theorem lift_vwK (h:Lift K c W te t):Lift4 K c W (tAround te) (vwK4 e n is t):=by
 intro σ3 M Q4 X ht Hb G L0 L σ H Q R k ex
 refine ⟨zs e M L,fun F=> ?_⟩
 refine h _ _ _ ht (HL F e M L H) (G++noC e M L) (nons σ3.length) σ _ _ (R.looks F is) (fun v d H2 l r q=> ?_) (fun cls dd x H' l r q=>q.elim)
 have kk:=lk_of (K:=K) l
 obtain ⟨R',hv⟩:=R.unlook kk
 rw [S_nons] at r
 exact k v d L M _ R' hv (kk.ok R.cells r q.1) q.2
theorem lift_vwKB {tt:TT} {b:B3} (h:LiftT K c W tt b):LiftT4 K c W (tAroundT tt) (vwKB4 e n is b):=by
 intro σ3 M Q4 X ht Hb G L0 L σ H Q R k ex
 refine ⟨zs e M L,fun F=> ?_⟩
 refine h _ _ _ ht (HL F e M L H) (G++noC e M L) (nons σ3.length) σ _ _ (R.looks F is) (fun v d H2 l r q=> ?_) (fun cls dd x H' l r q=>q.elim)
 obtain ⟨R',hv⟩:=R.unlook (lk_of (K:=K) l)
 exact k v d L M _ R' hv r q
theorem lk_D {F:Addr→Obj} {D:Addr} (kk:Lk K c G L M H e F [D] H2) (cl:Cells K (c.S0++G) L M H):D ∉ c.S0++G++L:=fun z=>by
 rcases List.mem_append.mp z with z | z
 · exact kk.nD D (List.mem_singleton_self _) (List.mem_append.mpr (.inl z))
 · exact (kk.at_ cl z).1 (List.mem_singleton_self _)
theorem lift_vwKC (h:LiftFrO K c W te t):Lift4 K c W (tAround te) (vwKC4 e n is t):=by
 intro σ3 M Q4 X ht Hb G L0 L σ H Q R k ex
 refine ⟨zs e M L,fun F=> ?_⟩
 refine h _ _ _ ht (HL F e M L H) (G++noC e M L) (nons σ3.length) σ _ _ (R.looks F is) (fun D d H2 f q=> ?_) (fun cls dd x H' l r q=>q.elim)
 have kk:=lk_ofD (K:=K) f
 have nS:=lk_D kk R.cells
 have nL:D ∉ L:=fun z=>nS (List.mem_append.mpr (.inr z))
 have rep:=f.rep
 rw [S_nons] at rep
 have hS:∀a,a∈[D]++(c.S0++G++L)↔a∈c.S0++G++(D::L):=fun a=>by
  simp only [List.mem_cons,List.mem_append,List.not_mem_nil,or_false]
  exact ⟨fun h=>by rcases h with h | (h | h) | h<;>simp [h],fun h=>by rcases h with (h | h) | h | h<;>simp [h]⟩
 have sm:Same (hid ([D]++(c.S0++G++L)) (HU e M L H H2)) (vs4 c G (D::L) (HU e M L H H2)):=hid_mono fun a z=>(hS a).mpr z
 have hv2:Same (vs4 c G L H) (vs4 c G (D::L) (HU e M L H H2)):=Same.trans (kk.stay R.cells) sm
 have mD:M D=none:=by
  cases em:M D with
  | none=>rfl
  | some t=>exact absurd ((R.cells.on D).mpr (by rw [em];intro z;cases z)) nL
 have cr:CellRep K (vs4 c G (D::L) (HU e M L H H2)) (HU e M L H H2) D d:=by
  cases d with
  | lst xs=>
    obtain ⟨vs,hD,rp⟩:=rep
    exact ⟨vs,(HU_off nL).trans hD,(kk.okL R.cells (show RepL K (hid ([D]++(c.S0++G++noC e M L)) H2) vs xs from rp) q.1).mono sm⟩
  | dic ts=>
    obtain ⟨ks,hD,hk,rp⟩:=rep
    exact ⟨ks,(HU_off nL).trans hD,hk,(kk.okL R.cells (show RepL K (hid ([D]++(c.S0++G++noC e M L)) H2) _ _ from rp) q.1).mono sm⟩
  | _=>cases q.1
 have R':R4 K c Hb G L0 (D::L) (mset M D (some d)) σ3 σ (HU e M L H H2):=by
  refine R.step (kk.invU R.cells) hv2 (kk.gU R.cells) ⟨fun a=> ?_,fun a h=> ?_,fun a t' em=> ?_⟩
  · by_cases z:a=D
    · subst z;simp
    · rw [mset_ne z,List.mem_cons]
      exact ⟨fun h=>(R.cells.on a).mp (h.resolve_left z),fun h=>.inr ((R.cells.on a).mpr h)⟩
  · rcases List.mem_cons.mp h with rfl | h
    · exact fun z=>nS (List.mem_append.mpr (.inl z))
    · exact R.cells.off a h
  · by_cases z:a=D
    · subst z
      rw [mset_same] at em
      cases em
      exact cr
    · rw [mset_ne z] at em
      exact (R.cells.at_ a t' em).mono hv2 (kk.cell R.cells ((R.cells.on a).mpr (by rw [em];intro z;cases z)))
 exact k _ _ (D::L) _ _ R' hv2 (.ref D) (q.2 D mD)
end
end M3
set_option maxHeartbeats 1000000
namespace M3
open PySem L2
section
variable {K:PySem.W.Frag} {c:Cf} {Hb H H' H1:Hp} {G L0 L L':List Addr} {M M':Mem} {σ3:List Sl} {σ:St} {W:WX}
theorem R4.adopt (R:R4 K c Hb G L0 L M σ3 σ H) {D:Addr} (nD:H D=none) {H1b:Hp} {L1:List Addr} {σx:List Sl} {σy:St} (R':R4 K c H1b (D::G) L1 L' M' σx σy H') (v:Same (vs4 c G L H) (vs4 c (D::G) L' H')) (g:∀a∈G,H' a=H a)
 {o:HO} {t:T} (ho:∀φ,H' D≠some (.ext φ)) (hn:∀φ,o≠ .ext φ) (cr:CellRep K (vs4 c (D::G) L' H') (upd H' D o) D t):M' D=none∧R4 K c Hb G L0 (D::L') (mset M' D (some t)) σ3 σ (upd H' D o)∧Same (vs4 c G L H) (vs4 c G (D::L') (upd H' D o)):=by
 have dS:D∈c.S0++(D::G):=by simp
 have nL:D ∉ L':=fun z=>R'.cells.off D z dS
 have mD:M' D=none:=by
  cases e:M' D with
  | none=>rfl
  | some t=>exact absurd ((R'.cells.on D).mpr (by rw [e];intro z;cases z)) nL
 have nSG:D ∉ c.S0++G:=fun z=>R.r3.there (by rw [S_nons];exact List.mem_append.mpr (.inl z)) nD
 have hS:∀a,a∈c.S0++(D::G)++L'↔a∈c.S0++G++(D::L'):=fun a=>by
  simp only [List.mem_cons,List.mem_append]
  exact ⟨fun h=>by rcases h with (h | h | h) | h<;>simp [h],fun h=>by rcases h with (h | h) | h | h<;>simp [h]⟩
 have hu:vs4 c G (D::L') (upd H' D o)=vs4 c G (D::L') H':=hid_upd_in (by simp)
 have sm:Same (vs4 c (D::G) L' H') (vs4 c G (D::L') (upd H' D o)):=by
  rw [hu]
  exact hid_mono fun a z=>(hS a).mpr z
 have hv:=Same.trans v sm
 refine ⟨mD,R.step (c.st H' _ (fun a h=>upd_ne fun z=>nSG (by rw [←z];exact List.mem_append.mpr (.inl h))) (fun a q e=> ?_) R'.r3.inv) hv (fun a h=> ?_) ⟨fun a=> ?_,fun a h=> ?_,fun a t' em=> ?_⟩,hv⟩
 · have:a≠D:=fun z=>by rw [z] at e;exact ho _ e
   rw [upd_ne this];exact e
 · rw [upd_ne fun z=>nSG (by rw [←z];exact List.mem_append.mpr (.inr h))]
   exact g a h
 · by_cases z:a=D
   · subst z;simp
   · rw [mset_ne z,List.mem_cons]
     exact ⟨fun h=>(R'.cells.on a).mp (h.resolve_left z),fun h=>.inr ((R'.cells.on a).mpr h)⟩
 · rcases List.mem_cons.mp h with rfl | h
   · exact nSG
   · exact fun z=>R'.cells.off a h (by
      rcases List.mem_append.mp z with z | z
      · exact List.mem_append.mpr (.inl z)
      · exact List.mem_append.mpr (.inr (List.mem_cons_of_mem _ z)))
 · by_cases z:a=D
   · subst z
     rw [mset_same] at em
     cases em
     have cr2:=cr.mono sm rfl
     exact cr2
   · rw [mset_ne z] at em
     exact (R'.cells.at_ a t' em).mono sm (upd_ne z)
inductive PsR4 (K:PySem.W.Frag) (c:Cf) (W:WX):List (TE×TE)→List (Str×E4)→Prop
 | nil:PsR4 K c W [] []
 | cons {k:Str} {te:TE} {e:E4} {ps:List (TE×TE)} {es:List (Str×E4)} (h:Lift4 K c W te e) (q:PsR4 K c W ps es):PsR4 K c W ((tC (.str k),te)::ps) ((k,e)::es)
def vals4:List (Str×E4)→A4
 | []=>nil4
 | (_,e)::es=>cons4 e (vals4 es)
def dispC4 (es:List (Str×E4)):E4:=fun σ M Q X=>vals4 es σ M (fun ds M1=>es.length≤15∧∀p,M1 p=none→Q (.ref p) (mset M1 p (some (.dic (mrgT [] (((es.map (·.1)).zip ds).map fun q=>(.inr q.1,q.2))))))) X
theorem lift_dispC {ps:List (TE×TE)} {es:List (Str×E4)} (h:PsR4 K c W ps es):Lift4 K c W (tDisp ps) (dispC4 es):=by
 intro σ3 M Q4 X hq Hb G L0 L σ H Q R k e p hp
 obtain ⟨RD,vD⟩:=R.hide (o:=.dK []) hp rfl
 have nG:p ∉ c.S0++G:=fun z=>R.r3.there (by rw [S_nons];exact List.mem_append.mpr (.inl z)) hp
 have go:∀ {ps:List (TE×TE)} {es:List (Str×E4)},PsR4 K c W ps es→∀(Q3:List T→Mem→Prop) (L1:List Addr) (M1:Mem) (H1:Hp),R4 K c (upd H p (.dK [])) (p::G) L L1 M1 σ3 σ H1→vals4 es σ3 M1 Q3 X→∀(Q:List (V×V)→Hp→Prop),
  (∀vs ds L' M' H',R4 K c (upd H p (.dK [])) (p::G) L L' M' σ3 σ H'→RepL K (vs4 c (p::G) L' H') vs ds→ds.length=es.length→Q3 ds M'→Same (vs4 c (p::G) L1 H1) (vs4 c (p::G) L' H')→Q (((es.map (·.1)).zip vs).map fun q=>(.str q.1,q.2)) H')→tPairs ps σ H1 Q:=by
  intro ps es hps
  induction hps with
  | nil=>intro Q3 L1 M1 H1 R1 hq Q kk;exact kk [] [] L1 M1 H1 R1 .nil rfl hq (Same.refl _)
  | @cons kx te ex ps es hx hps ih=>
    intro Q3 L1 M1 H1 R1 hq Q kk
    show te σ H1 _
    refine hx _ _ _ _ hq (upd H p (.dK [])) (p::G) L L1 σ H1 _ R1 (fun v d L2 M2 H2 R2 s2 rv q2=> ?_) (fun cls dd x L' M' H' R' s' r q=> ?_)
    · refine ih _ L2 M2 H2 R2 q2 _ (fun vs ds L3 M3 H3 R3 rs hl q3 s3=> ?_)
      exact kk (v::vs) (d::ds) L3 M3 H3 R3 (.cons (rv.mono s3) rs) (by simp [hl]) q3 (Same.trans s2 s3)
    · obtain ⟨RS,vS⟩:=R'.rebase.show_ nG
      have v1:Same (vs4 c G L H) (vs4 c G L' H'):=Same.trans vD (Same.trans R'.base vS)
      have R5:R4 K c Hb G L0 L' M' σ3 σ H':=R.step RS.r3.inv v1 (fun a h=>(R'.gk a (List.mem_cons_of_mem _ h)).trans (upd_ne fun z=>nG (by rw [←z];exact List.mem_append.mpr (.inr h)))) RS.cells
      refine e cls dd x L' M' H' R5 v1 ?_ q
      obtain ⟨r1,r2⟩:=r
      refine ⟨r1, ?_⟩
      cases dd with
      | none=>exact r2
      | some d=>
        obtain ⟨fs,g1,g2,g3⟩:=r2
        exact ⟨fs,vS _ _ g1,g2,g3.mono vS⟩
 refine go h _ L M _ RD hq _ (fun vs ds L' M' H' R' rs hl q s'=> ?_)
 have at1:H' p=some (.dK []):=(R'.gk p (by simp)).trans upd_same
 have rd:RepD K (vs4 c (p::G) L' H') (mergeK [] (((es.map (·.1)).zip vs).map fun q=>(.inr q.1,q.2))) (mrgT [] (((es.map (·.1)).zip ds).map fun q=>(.inr q.1,q.2))):=RepD.mrg (zipK (by rw [List.length_map,hl]) rs) .nil
 have lv:=rs.length
 refine ⟨at1,((es.map (·.1)).zip vs).map fun q=>(.inr q.1,q.2),by rw [List.map_map];rfl,by have:=q.1;simp;omega, ?_⟩
 obtain ⟨mD,RA,sA⟩:=R.adopt hp R' (Same.trans vD s') (fun a h=>(R'.gk a (List.mem_cons_of_mem _ h)).trans (upd_ne fun z=>nG (by rw [←z];exact List.mem_append.mpr (.inr h)))) (o:=.dK (mergeK [] (((es.map (·.1)).zip vs).map fun q=>(.inr q.1,q.2)))) (t:=.dic (mrgT [] (((es.map (·.1)).zip ds).map fun q=>(.inr q.1,q.2))))
  (fun φ z=>by rw [at1] at z;cases z) (fun φ z=>by cases z) ⟨_,upd_same,rd.keys,repL_mk (by have:=congrArg List.length rd.keys;simpa using this) rd.at⟩
 exact k _ _ _ _ _ RA sA (.ref p) (q.2 p mD)
end
end M3
set_option maxHeartbeats 1000000
namespace M3
open PySem PySem.Spec PyProof.Rows L2
def unfO (a:Addr) (f:T→T):Option T→T
 | some (.lst xs)=>.lst (xs.map f)
 | some (.dic ts)=>.dic (ts.map fun p=>(p.1,f p.2))
 | some (.ins C fs)=>.ins C (fs.map fun p=>(p.1,f p.2))
 | _=>.ref a
def unf (M:Mem):Nat→T→T
 | n+1,.ref a=>unfO a (unf M n) (M a)
 | n+1,.tup xs=>.tup (xs.map (unf M n))
 | n+1,.lst xs=>.lst (xs.map (unf M n))
 | n+1,.ins C fs=>.ins C (fs.map fun p=>(p.1,unf M n p.2))
 | _,d=>d
def rchO (a:Addr) (f:T→List Addr):Option T→List Addr
 | some (.lst xs)=>a::xs.flatMap f
 | some (.dic ts)=>a::(ts.map (·.2)).flatMap f
 | some (.ins _ fs)=>a::(fs.map (·.2)).flatMap f
 | _=>[]
def rch (M:Mem):Nat→T→List Addr
 | n+1,.ref a=>rchO a (rch M n) (M a)
 | n+1,.tup xs=>xs.flatMap (rch M n)
 | n+1,.lst xs=>xs.flatMap (rch M n)
 | n+1,.ins _ fs=>(fs.map (·.2)).flatMap (rch M n)
 | _,_=>[]
def mdrop (M:Mem) (Z:List Addr):Mem:=fun a=>if a∈Z then none else M a
theorem mdrop_in {M:Mem} {Z:List Addr} {a:Addr} (h:a∈Z):mdrop M Z a=none:=by unfold mdrop;rw [if_pos h]
theorem mdrop_out {M:Mem} {Z:List Addr} {a:Addr} (h:a ∉ Z):mdrop M Z a=M a:=by unfold mdrop;rw [if_neg h]
section
variable {K:PySem.W.Frag} {c:Cf} {Hb H H' H1:Hp} {G L0 L L':List Addr} {M M':Mem} {σ3:List Sl} {σ:L2.St} {W:WX} {F:Addr→Obj} {Z:List Addr}
theorem rch_M (M:Mem):∀(n:Nat) (d:T),∀a∈rch M n d,M a≠none
 | 0,d,a,h=>by cases d<;>cases h
 | n+1,d,a,h=>by
   have ih:=rch_M M n
   have go:∀xs:List T,a∈xs.flatMap (rch M n)→M a≠none:=fun xs h=>by
    obtain ⟨x,_,hx⟩:=List.mem_flatMap.mp h
    exact ih x a hx
   cases d with
   | ref b=>
     have h:a∈rchO b (rch M n) (M b):=h
     cases em:M b with
     | none=>rw [em] at h;cases h
     | some t=>
       rw [em] at h
       have hb:M b≠none:=by rw [em];intro z;cases z
       cases t with
       | lst xs=>rcases List.mem_cons.mp h with h | h;exact h ▸ hb;exact go xs h
       | dic ts=>rcases List.mem_cons.mp h with h | h;exact h ▸ hb;exact go _ h
       | ins C fs=>rcases List.mem_cons.mp h with h | h;exact h ▸ hb;exact go _ h
       | _=>cases h
   | tup xs=>exact go xs h
   | lst xs=>exact go xs h
   | ins C fs=>exact go _ h
   | _=>cases h
theorem frzL_vis (cl:Cells K (c.S0++G) L M H) (hZ:∀a∈Z,M a≠none):Same (vs4 c G L H) (vs4 c G (L.filter fun a=>decide (a ∉ Z)) (frzL F Z H)):=fun a o h=>by
 obtain ⟨h1,h2⟩:=hid_some h
 have nL:a ∉ L:=fun z=>h2 (List.mem_append.mpr (.inr z))
 have nZ:a ∉ Z:=fun z=>nL ((cl.on a).mpr (hZ a z))
 refine hid_mk ((frzL_off nZ).trans h1) (fun z=> ?_) (hid_vis h)
 rcases List.mem_append.mp z with z | z
 · exact h2 (List.mem_append.mpr (.inl z))
 · exact nL (List.mem_filter.mp z).1
theorem R4.giveZ (r:R4 K c Hb G L0 L M σ3 σ H) (hZ:∀a∈Z,M a≠none):R4 K c Hb G L0 (L.filter fun a=>decide (a ∉ Z)) (mdrop M Z) σ3 σ (frzL F Z H):=by
 have off:∀a∈c.S0++G,a ∉ Z:=fun a h z=>r.cells.off a ((r.cells.on a).mpr (hZ a z)) h
 have hv:=frzL_vis (F:=F) r.cells hZ
 refine r.step (c.st H _ (fun a h=>frzL_off (off a (List.mem_append.mpr (.inl h)))) (fun a q h=>by rw [frzL_ne (fun kvs z=>by rw [h] at z;cases z)];exact h) r.r3.inv) hv (fun a h=>frzL_off (off a (List.mem_append.mpr (.inr h)))) ⟨fun a=> ?_,fun a h=>r.cells.off a (List.mem_filter.mp h).1,fun a t em=> ?_⟩
 · rw [List.mem_filter]
   by_cases z:a∈Z
   · rw [mdrop_in z];simp [z]
   · rw [mdrop_out z]
     simp only [z,not_false_eq_true,decide_true,and_true]
     exact r.cells.on a
 · by_cases z:a∈Z
   · rw [mdrop_in z] at em;cases em
   · rw [mdrop_out z] at em
     exact (r.cells.at_ a t em).mono hv (frzL_off z)
theorem unf_rep (cl:Cells K (c.S0++G) L M H) (hZ:∀a∈Z,M a≠none):∀(n:Nat) (v:V) (d:T),(∀a∈rch M n d,a∈Z)→Rep K (vs4 c G L H) v d→Rep K (vs4 c G (L.filter fun a=>decide (a ∉ Z)) (frzL F Z H)) v (unf M n d)
 | 0,v,d,_,r=>by
   cases d<;>exact r.mono (frzL_vis cl hZ)
 | n+1,v,d,hr,r=>by
   have hv:=frzL_vis (F:=F) cl hZ
   have ih:=unf_rep cl hZ n
   have goL:∀ {vs:List V} {ts:List T},(∀a∈ts.flatMap (rch M n),a∈Z)→RepL K (vs4 c G L H) vs ts→RepL K (vs4 c G (L.filter fun a=>decide (a ∉ Z)) (frzL F Z H)) vs (ts.map (unf M n)):=by
    intro vs ts h r
    induction r with
    | nil=>exact .nil
    | cons r _ ihl=>
      refine .cons (ih _ _ (fun a z=>h a (List.mem_flatMap.mpr ⟨_,List.mem_cons_self ..,z⟩)) r) (ihl fun a z=>h a ?_)
      obtain ⟨x,h1,h2⟩:=List.mem_flatMap.mp z
      exact List.mem_flatMap.mpr ⟨x,List.mem_cons_of_mem _ h1,h2⟩
   cases d with
   | ref a=>
     cases r.refI
     have hr:∀b∈rchO a (rch M n) (M a),b∈Z:=hr
     cases em:M a with
     | none=>
       have:unf M (n+1) (.ref a)= .ref a:=by
        show unfO a (unf M n) (M a)=_
        rw [em]
        rfl
       rw [this];exact .ref a
     | some t=>
       rw [em] at hr
       have hL:a∈L:=(cl.on a).mpr (by rw [em];intro z;cases z)
       have nS:a∈Z→a ∉ c.S0++G++(L.filter fun a=>decide (a ∉ Z)):=fun hz z=>by
        rcases List.mem_append.mp z with z | z
        · exact cl.off a hL z
        · have:=(List.mem_filter.mp z).2
          simp [hz] at this
       cases t with
       | lst xs=>
         have e1:unf M (n+1) (.ref a)= .lst (xs.map (unf M n)):=by
          show unfO a (unf M n) (M a)=_
          rw [em]
          rfl
         rw [e1]
         obtain ⟨vs,h1,h2⟩:=cl.at_ a _ em
         exact .mkL (hid_mk (by rw [frzL_ne (fun kvs z=>by rw [h1] at z;cases z)];exact h1) (nS (hr a (List.mem_cons_self ..)))) (goL (fun b z=>hr b (List.mem_cons_of_mem _ z)) h2)
       | dic ts=>
         have e1:unf M (n+1) (.ref a)= .dic (ts.map fun p=>(p.1,unf M n p.2)):=by
          show unfO a (unf M n) (M a)=_
          rw [em]
          rfl
         rw [e1]
         obtain ⟨ks,h1,h2,h3⟩:=cl.at_ a _ em
         refine rep_dic (hid_mk (frzL_dK (hr a (List.mem_cons_self ..)) h1) (nS (hr a (List.mem_cons_self ..)))) (by rw [map_fst];exact h2) ?_
         rw [map_snd]
         exact goL (fun b z=>hr b (List.mem_cons_of_mem _ z)) h3
       | ins C fs=>
         have e1:unf M (n+1) (.ref a)= .ins C (fs.map fun p=>(p.1,unf M n p.2)):=by
          show unfO a (unf M n) (M a)=_
          rw [em]
          rfl
         rw [e1]
         obtain ⟨dx,ks,h1,h2,h3⟩:=cl.at_ a _ em
         refine rep_insL (hid_mk (by rw [frzL_ne (fun kvs z=>by rw [h1] at z;cases z)];exact h1) (nS (hr a (List.mem_cons_self ..)))) (by rw [map_fst];exact h2) ?_
         rw [map_snd]
         exact goL (fun b z=>hr b (List.mem_cons_of_mem _ z)) h3
       | _=>exact (cl.at_ a _ em).elim
   | tup xs=>
     obtain ⟨a,vs,rfl,h1,h2⟩:=r.tupF
     exact .mkT (Same.fqT hv h1) (goL hr h2)
   | lst xs=>
     obtain ⟨a,vs,rfl,h1,h2⟩:=r.lstI
     exact .mkL (hv _ _ h1) (goL hr h2)
   | ins C fs=>
     cases r with
     | @ins a C dx ks ts hp hk hrr=>
       refine rep_insL (hv _ _ hp) (by rw [map_fst];exact hk) ?_
       rw [map_snd]
       exact goL hr (repL_mk (by have:=congrArg List.length hk;simpa using this) hrr)
   | _=>exact r.mono hv
end
end M3
set_option maxHeartbeats 1000000
namespace M3
open PySem PySem.Spec PyProof.Rows L2
theorem call_lenDK {X:Cx}:CallR X (.builtin "len") (fun xs H Q=>∃a kvs,xs=[V.ref a]∧Rd H a (.dK kvs)∧Q (.int kvs.length) H):=by
 intro pins s σ H xs us Q I r h
 obtain ⟨a,kvs,rfl,ha,q⟩:=h
 obtain ⟨u,rfl,ru⟩:=vals1 r
 cases ru
 exact d_len I ha fun t s' I'=>⟨.int kvs.length,H,I',⟨t,rfl⟩,q⟩
def lenD3:List T→(T→Prop)→Prop:=fun xs Q=>ob (one xs) fun x=>ob (asD x) fun ts=>Q (.int ts.length)
theorem rl_lenD {K:PySem.W.Frag}:RLn K (fun xs H Q=>∃a kvs,xs=[V.ref a]∧Rd H a (.dK kvs)∧Q (.int kvs.length) H) lenD3:=by
 intro c xs Q3 hh Hb G A σ3 σ H vs Q R rx k
 obtain ⟨x,ex,hh1⟩:=ob_iff.mp hh
 obtain ⟨ts,hn,q⟩:=ob_iff.mp hh1
 cases one_is ex
 obtain ⟨v,rfl,r⟩:=repL_one rx
 cases asD_is hn
 obtain ⟨a,o,kvs,rfl,hd,rd⟩:=r.dicI
 exact ⟨a,kvs,rfl,.inr ⟨o,hid_same _ _ hd⟩,k _ _ H (Le.refl R.inv) (by rw [rd.length];exact .int _) q⟩
def listD3 (x:A3):E3:=fun σ Q X=>x σ (fun ds=>ob (one ds) fun d=>ob (asD d) fun ts=>Q (.lst (ts.map fun kv=>keyT kv.1))) X
theorem repL_keysK {K:PySem.W.Frag} {H:Hp}:∀ks:List Key,RepL K H (ks.map kV) (ks.map keyT)
 | []=>.nil
 | k::ks=>.cons (rep_key k) (repL_keysK ks)
theorem repL_keys {K:PySem.W.Frag} {H:Hp} {kvs:List (Key×V)} {ts:List (Key×T)} (r:RepD K H kvs ts):RepL K H (kvs.map fun kv=>kV kv.1) (ts.map fun kv=>keyT kv.1):=by
 have e:=r.keys
 have h:=repL_keysK (K:=K) (H:=H) (kvs.map (·.1))
 have e1:(kvs.map fun kv=>kV kv.1)=(kvs.map (·.1)).map kV:=by rw [List.map_map];rfl
 have e2:(ts.map fun kv=>keyT kv.1)=(kvs.map (·.1)).map keyT:=by rw [e,List.map_map];rfl
 rw [e1,e2]
 exact h
theorem lift_frListD {K:PySem.W.Frag} {c:Cf} {W:WX} {ta:TA} {x:A3} (ha:LiftA K c W ta x):LiftFr K c W (tCB (fun xs H Q=>∃(a:Addr) (kvs:List (Key×V)),xs=[.ref a]∧Rd H a (.dK kvs)∧∀p,H p=none→Q (.ref p) (upd H p (.lst (kvs.map fun kv=>kV kv.1)))) ta) (listD3 x):=by
 intro σ3 Q3 X h Hb G A σ H Q R k e
 refine ha _ _ _ h Hb G A σ H _ R (fun vs xs H1 L1 rx hx=> ?_) e
 obtain ⟨d,ed,hx1⟩:=ob_iff.mp hx
 obtain ⟨ts,hn,q⟩:=ob_iff.mp hx1
 cases one_is ed
 obtain ⟨v,rfl,r⟩:=repL_one rx
 cases asD_is hn
 obtain ⟨a,o,kvs,rfl,hd,rd⟩:=r.dicI
 refine ⟨a,kvs,rfl,.inr ⟨o,hid_same _ _ hd⟩,fun p hp=> ?_⟩
 have f:=(R.le L1).frD hp (repL_keys rd)
 exact k p _ _ _ ⟨f.nD,Same.trans L1.vis f.vis,fun a ha=>(f.own a ha).trans (L1.own a ha),f.inv,f.at_,f.rep⟩ q
section
variable {K:PySem.W.Frag} {c:Cf} {W:WX}
def LiftI4 (K:PySem.W.Frag) (c:Cf) (W:WX) (wi:TI) (t:A4):Prop:=
 ∀σ3 M Q4 X,t σ3 M Q4 X→∀Hb G L0 L σ H R',R4 K c Hb G L0 L M σ3 σ H→
  (∀J ds L1 M1 H1,R4 K c Hb G L0 L1 M1 σ3 σ H1→Walks K (vs4 c G L1 H1) J ds→Q4 ds M1→R' J H1)→
  (∀cls dd x L' M' H',R4 K c Hb G L0 L' M' σ3 σ H'→XRep K (vs4 c G L' H') cls dd x→X x M'→W cls dd σ H')→wi σ H R'
def iterP4 (a:E4):A4:=fun σ M Q X=>a σ M (fun d M1=>ob (itemsP d) fun xs=>Q xs M1) X
theorem lift_iP4 {ta:TE} {a:E4} (ha:Lift4 K c W ta a):LiftI4 K c W (iP K ta) (iterP4 a):=by
 intro σ3 M Q4 X h Hb G L0 L σ H R' R k e
 refine ha _ _ _ _ h Hb G L0 L σ H _ R (fun v d L1 M1 H1 R1 s1 r q=> ?_) (fun cls dd x L' M' H' R' s' r q=>e cls dd x L' M' H' R' r q)
 obtain ⟨xs,ex,q1⟩:=ob_iff.mp q
 cases d with
 | lst ys=>
   cases ex
   obtain ⟨p,vs,rfl,hp,rl⟩:=r.lstI
   exact .inl ⟨p,vs,rfl,SqL.of (hid_same _ _ hp),k _ _ L1 M1 H1 R1 (walks_list hp rl) q1⟩
 | tup ys=>
   cases ex
   obtain ⟨p,vs,rfl,hp,rl⟩:=r.tupI
   exact .inr (.inl ⟨p,vs,rfl,Same.sqT hid_same hp,k _ _ L1 M1 H1 R1 (walks_tup hp rl) q1⟩)
 | str z=>
   cases ex
   cases r.strI
   exact .inr (.inr ⟨z,rfl,k _ _ L1 M1 H1 R1 (walks_str z) q1⟩)
 | _=>cases ex
def for4E (s:A4) (g:TG3) (tb:S4):S4:=fun N σ M=>s σ M (fun ds M1=>loop4 g tb N ds σ M1) (N.xn σ)
theorem lift_for4E {vs:List Nat} {wi:TI} {s:A4} {g:TG} {g3:TG3} {tb:TS} {b:S4} (hi:LiftI4 K c W wi s) (hg:LiftTgB K c false vs g g3) (hb:LiftS4 K c W tb b):LiftS4 K c W (tFor wi g tb) (for4E s g3 b):=by
 intro N σ3 M h Hb G L0 L σ H D R Z
 refine hi _ _ _ _ h Hb G L0 L σ H _ R (fun J ds L1 M1 H1 R1 w q=> ?_) (fun cls dd x L' M' H' R' r q=>Z.xn _ _ _ _ _ _ _ _ R' r q)
 refine ⟨fun i m σ' H'=>m=ds.length-i∧i≤ds.length∧∃L' M' σ3',R4 K c H1 G L1 L' M' σ3' σ' H'∧loop4 g3 b N (ds.drop i) σ3' M',⟨ds.length,rfl,Nat.zero_le _,L1,M1,σ3,R1.rebase,by simpa using q⟩, ?_⟩
 rintro i m σ' H' ⟨rfl,hi,L',M',σ3',R',q'⟩
 have vis:=R'.base
 by_cases hl:i=ds.length
 · subst hl
   left
   refine ⟨w.stop _ _ vis,Z.nx _ _ _ _ _ (R1.debase R') ?_⟩
   have e:ds.drop ds.length=[]:=List.drop_length
   rw [e] at q'
   exact q'
 · right
   have hlt:i<ds.length:=Nat.lt_of_le_of_ne hi hl
   have hd:ds[i]? =some ds[i]:=List.getElem?_eq_getElem hlt
   rw [List.drop_eq_getElem_cons hlt] at q'
   refine ⟨w.go i _ _ _ hd vis,fun σ2 H2=>∃L2 M2 σ32,R4 K c H1 G L1 L2 M2 σ32 σ2 H2∧loop4 g3 b N (ds.drop (i+1)) σ32 M2, ?_, ?_⟩
   · rintro σ2 H2 ⟨L2,M2,σ32,R2,q2⟩
     exact ⟨ds.length-(i+1),by omega,rfl,hlt,L2,M2,σ32,R2,q2⟩
   · intro x H2 y
     have th:∀a∈c.S0++G++L',H' a≠none:=fun a h=>R'.r3.there (by rw [S_nons];exact h)
     obtain ⟨hn,rx⟩:=w.yld i _ _ _ x H2 hd vis th y
     have R2:R4 K c H1 G L1 L' M' σ3' σ' H2:=by
      rcases hn with rfl | ⟨p,o,hp,rfl⟩
      · exact R'
      · exact R'.le (R'.r3.new (o:=o) hp)
     refine hg _ _ _ q' H2 (G++L') (nons σ3'.length) σ' H2 x _ R2.r3 (by rw [S_nons];exact rx) (fun A4 σ4 σ4' H4 R4' e4 st q4=> ?_)
     subst e4
     refine hb _ _ _ q4 H1 G L1 L' σ4' H4 _ (R2.slots R4' fun a h=>by
      have:=st.2.2 a h
      rw [addrs_nons] at this
      cases this) ⟨?_, ?_, ?_, ?_, ?_⟩
     · exact fun L5 M5 σ5 σ5' H5 R5 q5=>⟨L5,M5,σ5,R5,q5⟩
     · exact fun v d L5 M5 H5 F rv q5=>Z.rt v d L5 M5 H5 ⟨F.inv,Same.trans R1.base F.base,fun a h=>(F.gk a h).trans (R1.gk a h),F.cells⟩ rv q5
     · exact fun L5 M5 σ5 σ5' H5 R5 q5=>Z.nx _ _ _ _ _ (R1.debase R5) q5
     · exact fun L5 M5 σ5 σ5' H5 R5 q5=>⟨L5,M5,σ5,R5,q5⟩
     · exact fun L5 M5 σ5 σ5' H5 cls dd xn R5 rx q5=>Z.xn _ _ _ _ _ _ _ _ (R1.debase R5) rx q5
def tFzS (ts:TS):TS:=fun D σ H=>∃Z,∀F,ts D σ (frzL F Z H)
theorem ps_fzS {X:Cx} {st:Stmt} {ts:TS} (h:PS X st ts):PS X st (tFzS ts):=by
 refine ⟨fun pins s σ H D I q=> ?_⟩
 obtain ⟨Z,q⟩:=q
 exact h.run pins s σ _ D (inv_frzL I Z) (q _)
def gvS4 (i n:Nat) (s:S4):S4:=fun N σ M=>match σ[i]? with
 | some (.val d)=>s N (σ.set i (.val (unf M n d))) (mdrop M (rch M n d))
 | _=>False
theorem lift_gvS {i n:Nat} {ts:TS} {s:S4} (h:LiftS4 K c W ts s):LiftS4 K c W (tFzS ts) (gvS4 i n s):=by
 intro N σ3 M q Hb G L0 L σ H D R Z
 have q:match σ3[i]? with | some (.val d)=>s N (σ3.set i (.val (unf M n d))) (mdrop M (rch M n d)) | _=>False:=q
 split at q
 · rename_i d ea
   refine ⟨rch M n d,fun F=> ?_⟩
   have hZ:=rch_M M n d
   obtain ⟨v,hv,rv⟩:=R.r3.get ea
   rw [S_nons] at rv
   have R1:=R.giveZ (F:=F) hZ
   have r1:=unf_rep (F:=F) R.cells hZ n v d (fun a h=>h) rv
   have rl:Rep K (hid (c.S (G++L.filter fun a=>decide (a ∉ rch M n d)) (nons σ3.length)) (frzL F (rch M n d) H)) v (unf M n d):=by
    rw [S_nons]
    exact r1
   have q2:=R1.r3.set i rl
   rw [set_same hv,nons_set] at q2
   exact h _ _ _ q Hb G L0 _ σ _ D (R1.slots q2 (by intro b hb;rw [addrs_nons] at hb;cases hb)) Z
 · cases q
end
end M3
set_option maxHeartbeats 1000000
namespace M3
open PySem PySem.Spec PyProof.Rows L2
end M3
set_option maxHeartbeats 1000000
namespace M3
open PySem L2
section
variable {K:PySem.W.Frag} {c:Cf} {Hb H H' H1:Hp} {G L0 L L':List Addr} {M M':Mem} {σ3:List Sl} {σ:St} {W:WX}
def dcomp4 (g:TG3) (tt:B3) (tk:E3) (te:E4) (σ:List Sl) (X:XM) (Q:List (Key×T)→Mem→Prop):List T→List (Key×T)→Mem→Prop
 | [],acc,M=>Q acc M
 | x::r,acc,M=>g x σ fun σ'=>tt σ' (fun b=>if b=true then tk σ' (fun y=>te σ' M (fun z M1=>ob (asK y) fun k=>acc.length<sizeLine∧dcomp4 g tt tk te σ X Q r (putT acc k z) M1) X) (fun _=>False) else dcomp4 g tt tk te σ X Q r acc M) (fun x=>X x M)
def dcC4 (s:A3) (g:TG3) (tt:B3) (tk:E3) (te:E4) (vs:List Nat):E4:=fun σ M Q X=>s σ (fun ds=>dcomp4 g tt tk te (wipe3 σ vs) X (fun ys M1=>∀p,M1 p=none→Q (.ref p) (mset M1 p (some (.dic ys)))) ds [] M) (fun x=>X x M)
theorem lift_dcC {wk:Bool} {vs:List Nat} {wi:TI} {s:A3} {g:TG} {g3:TG3} {tt:TT} {b:B3} {tk te:TE} {k3:E3} {e4:E4} (hi:LiftIB K c wk W wi s) (hg:LiftTgB K c wk vs g g3) (ht:LiftT K c W tt b) (hk:Lift K c (fun _ _ _ _=>False) tk k3) (he:Lift4 K c W te e4)
 (hW:∀cls dd σ σ' H,W cls dd σ H→W cls dd σ' H):Lift4 K c W (tDc wi g tt tk te vs) (dcC4 s g3 b k3 e4 vs):=by
 intro σ3 M Q4 X h Hb G L0 L σ H Q R k e
 refine hi _ _ _ h H (G++L) (nons σ3.length) σ H _ R.r3 (fun J ds H1 l1 w q=> ?_) (fun cls dd x H' l r q=> ?_)
 rotate_left
 · rw [S_nons] at r
   exact e cls dd x L M H' (R.le l) l.vis4 r q
 have R1:=R.le l1
 rw [S_nons] at w
 intro D hD
 have nG:D ∉ c.S0++G:=fun z=>R1.r3.there (by rw [S_nons];simp only [List.mem_append] at z ⊢;rcases z with z | z<;>simp [z]) hD
 have RW:R4 K c Hb G L0 L M (wipe3 σ3 vs) (wipe σ vs) H1:=R1.slots (R1.r3.wiped (vs:=vs) (R1.noOwn vs)) (by intro a h;rw [addrs_nons] at h;cases h)
 obtain ⟨RD,vD⟩:=RW.hide (o:=.dK []) hD rfl
 have fin:∀L' M' H',R4 K c H' (D::G) L' L' M' (wipe3 σ3 vs) (wipe σ vs) H'→Same (vs4 c G L H1) (vs4 c (D::G) L' H')→(∀a∈G,H' a=H1 a)→R4 K c Hb G L0 L' M' σ3 σ H'∧Same (vs4 c G L H1) (vs4 c G L' H')∧Same (vs4 c (D::G) L' H') (vs4 c G L' H'):=by
  intro L' M' H' R' v' g'
  obtain ⟨RS,vS⟩:=R'.show_ nG
  exact ⟨R1.step RS.r3.inv (Same.trans v' vS) g' RS.cells,Same.trans v' vS,vS⟩
 refine ⟨fun i m H'=>m=ds.length-i∧i≤ds.length∧∃accV acc L' M',H' D=some (.dK accV)∧R4 K c H' (D::G) L' L' M' (wipe3 σ3 vs) (wipe σ vs) H'∧RepD K (vs4 c (D::G) L' H') accV acc∧dcomp4 g3 b k3 e4 (wipe3 σ3 vs) X (fun ys M1=>∀p,M1 p=none→Q4 (.ref p) (mset M1 p (some (.dic ys)))) (ds.drop i) acc M'∧
  Same (vs4 c G L H1) (vs4 c (D::G) L' H')∧(∀a∈G,H' a=H1 a),⟨ds.length,rfl,Nat.zero_le _,[],[],L,M,upd_same,RD,.nil,by simpa using q,vD,fun a h=>upd_ne (fun z=>nG (by rw [←z];simp [h]))⟩, ?_⟩
 rintro i m H2 ⟨rfl,hi,accV,acc,L2,M2,hd2,R2,racc,q2,vis,gk2⟩
 obtain ⟨F1,F2,F3⟩:=fin L2 M2 H2 R2 vis gk2
 by_cases hl:i=ds.length
 · subst hl
   left
   refine ⟨w.stop _ _ F2, ?_⟩
   have e':ds.drop ds.length=[]:=List.drop_length
   rw [e'] at q2
   have gk3:∀a∈G,H2 a=H1 a:=gk2
   have hu:upd H2 D (.dK accV)=H2:=by
    funext z
    by_cases y:z=D
    · rw [y,upd_same,hd2]
    · rw [upd_ne y]
   obtain ⟨mD,RA,sA⟩:=R1.adopt hD R2 vis gk3 (o:=.dK accV) (t:=.dic acc) (fun φ z=>by rw [hd2] at z;cases z) (fun φ z=>by cases z) ⟨accV,upd_same,racc.keys,repL_mk (by have:=congrArg List.length racc.keys;simpa using this) racc.at⟩
   rw [hu] at RA sA
   exact k _ _ _ _ H2 RA (Same.trans l1.vis4 sA) (.ref D) (q2 D mD)
 · right
   have hlt:i<ds.length:=Nat.lt_of_le_of_ne hi hl
   have hdd:ds[i]? =some ds[i]:=List.getElem?_eq_getElem hlt
   rw [List.drop_eq_getElem_cons hlt] at q2
   refine ⟨w.go i _ _ _ hdd F2,fun H3=>∃accV acc L' M',H3 D=some (.dK accV)∧R4 K c H3 (D::G) L' L' M' (wipe3 σ3 vs) (wipe σ vs) H3∧RepD K (vs4 c (D::G) L' H3) accV acc∧dcomp4 g3 b k3 e4 (wipe3 σ3 vs) X (fun ys M1=>∀p,M1 p=none→Q4 (.ref p) (mset M1 p (some (.dic ys)))) (ds.drop (i+1)) acc M'∧
    Same (vs4 c G L H1) (vs4 c (D::G) L' H3)∧(∀a∈G,H3 a=H1 a), ?_, ?_⟩
   · rintro H3 ⟨accV,acc,z⟩
     exact ⟨ds.length-(i+1),by omega,rfl,hlt,accV,acc,z⟩
   · intro x H3 y
     obtain ⟨hn,rx⟩:=w.yld i _ (c.S0++(D::G)++L2) _ x H3 hdd vis (fun a h=>R2.r3.there (by rw [S_nons];exact h)) y
     have l3:Le c (D::G++L2) (nons (wipe3 σ3 vs).length) H2 H3:=by
      rcases hn with rfl | ⟨p,o,hp,rfl⟩
      · exact Le.refl R2.r3.inv
      · exact R2.r3.new hp
     have R3':=R2.le l3
     have exn:∀(σ':St) cls dd x L' M' (σx:List Sl) H',R4 K c H2 (D::G) L2 L' M' σx σ' H'→XRep K (vs4 c (D::G) L' H') cls dd x→X x M'→W cls dd σ' H':=fun σ' cls dd x L' M' σx H' R' r hx=>by
      have R5:R4 K c H2 (D::G) L2 L' M' (wipe3 σ3 vs) (wipe σ vs) H':=R2.step R'.r3.inv R'.base R'.gk R'.cells
      obtain ⟨f1,f2,f3⟩:=fin L' M' H' R5.rebase (Same.trans vis R5.base) (fun a h=>(R5.gk a (by simp [h])).trans (gk2 a h))
      refine hW cls dd σ σ' H' (e cls dd x L' M' H' f1 (Same.trans l1.vis4 f2) ?_ hx)
      obtain ⟨r1,r2⟩:=r
      refine ⟨r1, ?_⟩
      cases dd with
      | none=>exact r2
      | some d=>
        obtain ⟨fs,g1,g2,g3⟩:=r2
        exact ⟨fs,f3 _ _ g1,g2,g3.mono f3⟩
     refine hg _ _ _ q2 H3 (D::G++L2) (nons (wipe3 σ3 vs).length) (wipe σ vs) H3 x _ R3'.r3 (by rw [S_nons];exact rx) (fun A4 σ4 σ4' H4 R4a e4' st q4=> ?_)
     subst e4'
     have hA4:∀a,a ∉ addrs A4:=fun a h=>by
      have:=st.2.2 a h
      rw [addrs_nons] at this
      cases this
     refine ⟨?_, ?_⟩
     · rw [wipe_eq st.1 (fun j hj=>(st.2.1 j hj).1),wipe_wipe]
     have R4b:=R3'.slots R4a hA4
     refine ht _ _ _ q4 H4 (D::G++L2) (nons σ4.length) σ4' H4 _ R4b.r3 (fun v d H5 l5 r5 q5=> ?_) (fun cls dd x H5 l5 r5 q5=> ?_)
     rotate_left
     · rw [S_nons] at r5
       exact exn σ4' cls dd x L2 M2 σ4 H5 (R4b.le l5) r5 q5
     subst r5
     have R5:R4 K c H2 (D::G) L2 L2 M2 σ4 σ4' H5:=R4b.le l5
     cases v with
     | false=>
       rw [if_neg (by decide)]
       have q5':dcomp4 g3 b k3 e4 (wipe3 σ3 vs) X (fun ys M1=>∀p,M1 p=none→Q4 (.ref p) (mset M1 p (some (.dic ys)))) (ds.drop (i+1)) acc M2:=by simpa using q5
       have R6:R4 K c H2 (D::G) L2 L2 M2 (wipe3 σ3 vs) (wipe σ vs) H5:=R2.step R5.r3.inv R5.base R5.gk R5.cells
       exact ⟨accV,acc,L2,M2,(R6.gk D (by simp)).trans hd2,R6.rebase,racc.mono R6.base,q5',Same.trans vis R6.base,fun a h=>(R6.gk a (by simp [h])).trans (gk2 a h)⟩
     | true=>
       rw [if_pos rfl]
       have q5':k3 σ4 (fun y=>e4 σ4 M2 (fun z M1=>ob (asK y) fun k=>acc.length<sizeLine∧dcomp4 g3 b k3 e4 (wipe3 σ3 vs) X (fun ys M1=>∀p,M1 p=none→Q4 (.ref p) (mset M1 p (some (.dic ys)))) (ds.drop (i+1)) (putT acc k z) M1) X) (fun _=>False):=by simpa using q5
       refine hk _ _ _ q5' H5 (D::G++L2) (nons σ4.length) σ4' H5 _ R5.r3 (fun vk dk H6 l6 rk q6=> ?_) (fun cls dd x H' l r q=>q.elim)
       rw [S_nons] at rk
       have R5b:R4 K c H2 (D::G) L2 L2 M2 σ4 σ4' H6:=R5.le l6
       refine he _ _ _ _ q6 H2 (D::G) L2 L2 σ4' H6 _ R5b (fun v d L6 M6 H7 R6 s6 r6 q7=> ?_) (fun cls dd x L6 M6 H7 R6 s6 r6 q7=>exn σ4' cls dd x L6 M6 σ4 H7 R6 r6 q7)
       obtain ⟨ky,ek,hl2,q8⟩:=ob_iff.mp q7
       have R7:R4 K c H2 (D::G) L2 L6 M6 (wipe3 σ3 vs) (wipe σ vs) H7:=R2.step R6.r3.inv R6.base R6.gk R6.cells
       have hd6:H7 D=some (.dK accV):=(R7.gk D (by simp)).trans hd2
       have racc2:RepD K (vs4 c (D::G) L6 H7) accV acc:=racc.mono R7.base
       have rp:=racc2.put ky r6
       obtain ⟨R8,v8⟩:=R7.hidPut (D:=D) (o:=.dK (putK accV ky v)) (by simp) (fun φ z=>by rw [hd6] at z;cases z) rfl
       refine ⟨accV,ky,asK_rep rk ek,hd6,by rw [racc.length];exact hl2,putK accV ky v,putT acc ky d,L6,M6,upd_same,R8, ?_,q8, ?_,fun a h=> ?_⟩
       · rw [v8]
         exact rp
       · rw [v8]
         exact Same.trans vis R7.base
       · rw [upd_ne (fun z=>nG (by rw [←z];simp [h]))]
         exact (R7.gk a (by simp [h])).trans (gk2 a h)
theorem RepL.reverse {H:Hp} {vs:List V} {ts:List T} (r:RepL K H vs ts):RepL K H vs.reverse ts.reverse:=by
 induction r with
 | nil=>exact .nil
 | cons h _ ih=>rw [List.reverse_cons,List.reverse_cons];exact ih.append (.cons h .nil)
end
end M3
set_option maxHeartbeats 1000000
namespace M3
open PySem PySem.Spec PyProof.Rows L2
def keyS:Key→Option Str
 | .inr z=>some z
 | _=>none
def keysS:List (Key×T)→Option (List Str)
 | []=>some []
 | p::r=>(keyS p.1).bind fun z=>(keysS r).map (z::·)
theorem keysS_is:∀ {ts:List (Key×T)} {ks:List Str},keysS ts=some ks→ts.map (·.1)=ks.map Sum.inr
 | [],ks,h=>by cases h;rfl
 | p::r,ks,h=>by
   unfold keysS at h
   obtain ⟨z,hz,h2⟩:=Option.bind_eq_some_iff.mp h
   obtain ⟨zs,hzs,rfl⟩:=Option.map_eq_some_iff.mp h2
   obtain ⟨k,t⟩:=p
   cases k with
   | inl i=>cases hz
   | inr y=>
     cases hz
     rw [List.map_cons,List.map_cons,keysS_is hzs]
def sortDk3 (x:A3):E3:=fun σ Q X=>x σ (fun ds=>ob (one ds) fun d=>ob (asD d) fun ts=>ob (keysS ts) fun ks=>ks.length<64∧∀ys:List Str,ys.Perm ks→sortedS ys=true→Q (.lst (ys.map T.str))) X
theorem lift_frSortDk {K:PySem.W.Frag} {c:Cf} {W:WX} {ta:TA} {x:A3} (ha:LiftA K c W ta x):LiftFr K c W (tCB (fun xs H Q=>∃(a:Addr) (kvs:List (Key×V)) (ks:List Str),xs=[.ref a]∧Rd H a (.dK kvs)∧kvs.map (·.1)=ks.map Sum.inr∧ks.length<64∧
 ∀ys p,ys.Perm ks→sortedS ys=true→H p=none→Q (.ref p) (upd H p (.lst (ys.map V.str)))) ta) (sortDk3 x):=by
 intro σ3 Q3 X h Hb G A σ H Q R k e
 refine ha _ _ _ h Hb G A σ H _ R (fun vs xs H1 L1 rx hx=> ?_) e
 obtain ⟨d,ed,hx1⟩:=ob_iff.mp hx
 obtain ⟨ts,hn,hx2⟩:=ob_iff.mp hx1
 obtain ⟨ks,hk,hl,q⟩:=ob_iff.mp hx2
 cases one_is ed
 obtain ⟨v,rfl,r⟩:=repL_one rx
 cases asD_is hn
 obtain ⟨a,o,kvs,rfl,hd,rd⟩:=r.dicI
 refine ⟨a,kvs,ks,rfl,.inr ⟨o,hid_same _ _ hd⟩,by rw [rd.keys];exact keysS_is hk,hl,fun ys p hp hs hn=> ?_⟩
 have f:=(R.le L1).frD hn (repL_strs (K:=K) ys)
 exact k p _ _ _ ⟨f.nD,Same.trans L1.vis f.vis,fun a ha=>(f.own a ha).trans (L1.own a ha),f.inv,f.at_,f.rep⟩ (q ys hp hs)
end M3
set_option maxHeartbeats 1000000
namespace M3
open PySem PySem.Spec PyProof.Rows L2
section
variable {K:PySem.W.Frag} {c:Cf} {Hb H H' H2:Hp} {G L0 L L':List Addr} {M M':Mem} {σ3:List Sl} {σ:L2.St} {W:WX} {e:See} {n:Nat} {is:List Nat} {F:Addr→Obj} {Ds:List Addr}
theorem Lk.xd (k:Lk K c G L M H e F [] H2) (cl:Cells K (c.S0++G) L M H) {d:Addr} {fs:List (Str×V)} (h:hid (c.S0++G++noC e M L) H2 d=some (.xd fs)):vs4 c G L (HU e M L H H2) d=some (.xd fs):=by
 obtain ⟨h1,h2⟩:=hid_some h
 have nL:d ∉ L:=fun z=>by
  by_cases nn:d∈noC e M L
  · exact h2 (List.mem_append.mpr (.inr nn))
  · rcases k.seenC cl z nn with ⟨_,vs,q⟩ | ⟨_,o,kvs,q⟩ | ⟨C,dx,ks,_,q⟩<;>(rw [h1] at q;cases q)
 refine hid_mk ((HU_off nL).trans h1) (fun z=> ?_) (hid_vis h)
 rcases List.mem_append.mp z with z | z
 · exact h2 (List.mem_append.mpr (.inl z))
 · exact nL z
end
end M3
set_option maxHeartbeats 1000000
namespace L2
open PySem PySem.Spec PyProof.Rows
variable {X:Cx} {K:PySem.W.Frag}
def rDictLN (K:PySem.W.Frag) (xs:List V) (H:Hp) (Q:VK):Prop:=∃p ts kvs,xs=[.ref p]∧SqL K H p (ts.map V.ref)∧PrsV K H ts kvs∧∀l,H l=none→Q (.ref l) (upd H l (.dK (mrgK [] kvs)))
theorem call_dictLN (h:X.K=K) (hc:X.calm=true):CallR X (.type "dict") (rDictLN K):=by
 subst h
 intro pins s σ H xs us Q I r h
 obtain ⟨p,ts,kvs,rfl,hq,hp,q⟩:=h
 obtain ⟨u,rfl,rx⟩:=vals1 r
 cases rx
 obtain ⟨its,rv,pl,hz⟩:=I.list hq
 cases vals_refs rv
 obtain ⟨ps,kvs',l1,r1,l2,h1,h2⟩:=prs_build I hp
 have lz:ps.length≤sizeLine:=by rw [l1];simpa using hz
 have PI:=PairArg.list (prog:=X.prog) (w:=X.w) p (ts.map Value.ref).toArray (fun j=>ts.getD j 0) ps
 have ok:PlainSeq "list" s.heap p (ts.map Value.ref).toArray∧PairItems s.heap (ts.map Value.ref).toArray (fun j=>ts.getD j 0) ps:=by
  refine ⟨?_,by simp [l1],fun j k v e=>⟨?_,h1 j k v e⟩⟩
  · obtain ⟨o,n,e,c,d,dd⟩:=pl
    exact ⟨o,n,e,c,d,dd⟩
  · have hj:j<ts.length:=by rw [←l1];exact (List.getElem?_eq_some_iff.mp e).1
    simp [List.getElem?_eq_getElem hj]
 refine PySem.call_dict_pairs (knd:=mixKind X.prog X.w) (kvs:=kvs') PI (I.ok.hd hc) ok ⟨l2,h2⟩ lz fun h' tk dd hk=> ?_
 have fr:H s.heap.objs.size=none:=I.hok.fresh (Nat.le_refl _)
 have km:=kv_merge r1 (.nil:KV ([]:List (Key×V)) [])
 obtain ⟨oD,es,ep,eD,rD⟩:=dd
 refine ⟨.ref s.heap.objs.size,_,I.laid (o:=.dK (mrgK [] kvs)) (t':=tk) (fun b o e=>hk b o (by simp) e) (Nat.le_refl _) (dk_new ?_ ?_ km ⟨oD,es,ep,eD,rD⟩),rfl,q _ fr⟩
 · rw [km.length]
   have:=merged_length ([]:List (Key×Value)) kvs'
   simp only [List.length_nil] at this
   omega
 · have:=I.big
   exact beq_eq_false_iff_ne.mpr fun e=>by rw [e] at this;exact Nat.lt_irrefl _ this
end L2
namespace M3
open PySem L2
def mjoin (M M':Mem):Mem:=fun a=>match M' a with
 | some t=>some t
 | none=>M a
theorem mjoin_some {M M':Mem} {a:Addr} {t:T} (h:M' a=some t):mjoin M M' a=some t:=by unfold mjoin;rw [h]
theorem mjoin_none {M M':Mem} {a:Addr} (h:M' a=none):mjoin M M' a=M a:=by unfold mjoin;rw [h]
def vwKM4 (e:See) (n:Nat) (is:List Nat) (t:E4):E4:=fun σ M Q _=>t (vwS e n M is σ) (fun _=>none) (fun d M'=>okS e d=true∧(∀a x,M' a=some x→okC e x=true)∧((∀a,M' a≠none→M a=none)→Q d (mjoin M M'))) (fun _ _=>False)
section
variable {K:PySem.W.Frag} {c:Cf} {Hb H H' H2:Hp} {G L0 L L':List Addr} {M M':Mem} {σ3:List Sl} {σ:St} {W:WX} {e:See} {n:Nat} {is:List Nat} {te:TE} {t:E4}
theorem lift_vwKM (h:Lift4 K c W te t):Lift4 K c W (tAround te) (vwKM4 e n is t):=by
 intro σ3 M Q4 X ht Hb G L0 L σ H Q R k ex
 refine ⟨zs e M L,fun F=> ?_⟩
 have R0:=R.looks (e:=e) (n:=n) F is
 have lw:(vwS e n M is σ3).length=σ3.length:=by rw [←R0.l1];simp
 have RL:R4 K c (HL F e M L H) (G++noC e M L) [] [] (fun _=>none) (vwS e n M is σ3) σ (HL F e M L H):=
  ⟨by rw [List.append_nil,lw];exact R0,Same.refl _,fun _ _=>rfl,⟨fun a=>(by simp),fun a h=>(by cases h),fun a t em=>(by cases em)⟩⟩
 refine h _ _ _ _ ht (HL F e M L H) (G++noC e M L) [] [] σ _ _ RL (fun v d L' M' H2 R2 s2 r q=> ?_) (fun cls dd x L' M' H' R' s' r q=>q.elim)
 obtain ⟨q1,q2,q3⟩:=q
 have perm:∀a,a∈L'++(c.S0++G++noC e M L)↔a∈c.S0++(G++noC e M L)++L':=fun a=>by
  simp only [List.mem_append]
  exact ⟨fun h=>by rcases h with h | (h | h) | h<;>simp [h],fun h=>by rcases h with (h | h | h) | h<;>simp [h]⟩
 have sm0:Same (vs4 c (G++noC e M L) L' H2) (hid (L'++(c.S0++G++noC e M L)) H2):=hid_mono fun a z=>(perm a).mp z
 have kk:Lk K c G L M H e F L' H2:=⟨by
  have:=R2.base
  have e0:c.S0++(G++noC e M L)++[]=c.S0++G++noC e M L:=by rw [List.append_nil,List.append_assoc]
  rw [show vs4 c (G++noC e M L) [] (HL F e M L H)=hid (c.S0++G++noC e M L) (HL F e M L H) from by show hid (c.S0++(G++noC e M L)++[]) _=_;rw [e0]] at this
  exact Same.trans this sm0,R2.gk,R2.r3.inv,fun D hD=>by
  have:=R2.cells.off D hD
  rwa [←List.append_assoc] at this⟩
 have nS:∀D∈L',D ∉ c.S0++G++L:=fun D hD z=>by
  rcases List.mem_append.mp z with z | z
  · exact kk.nD D hD (List.mem_append.mpr (.inl z))
  · exact (kk.at_ R.cells z).1 hD
 have hS:∀a,a∈L'++(c.S0++G++L)↔a∈c.S0++G++(L'++L):=fun a=>by
  simp only [List.mem_append]
  exact ⟨fun h=>by rcases h with h | (h | h) | h<;>simp [h],fun h=>by rcases h with (h | h) | h | h<;>simp [h]⟩
 have sm:Same (hid (L'++(c.S0++G++L)) (HU e M L H H2)) (vs4 c G (L'++L) (HU e M L H H2)):=hid_mono fun a z=>(hS a).mpr z
 have hv2:Same (vs4 c G L H) (vs4 c G (L'++L) (HU e M L H H2)):=Same.trans (kk.stay R.cells) sm
 have hM:∀a,M' a≠none→M a=none:=fun a h=>by
  have hL:=(R2.cells.on a).mpr h
  have nL:a ∉ L:=fun z=>nS a hL (List.mem_append.mpr (.inr z))
  cases em:M a with
  | none=>rfl
  | some t=>exact absurd ((R.cells.on a).mpr (by rw [em];intro z;cases z)) nL
 have nLL:∀a∈L',a ∉ L:=fun a h z=>nS a h (List.mem_append.mpr (.inr z))
 have R':R4 K c Hb G L0 (L'++L) (mjoin M M') σ3 σ (HU e M L H H2):=by
  refine R.step (kk.invU R.cells) hv2 (kk.gU R.cells) ⟨fun a=> ?_,fun a h=> ?_,fun a t' em=> ?_⟩
  · cases em:M' a with
    | none=>
      rw [mjoin_none em,List.mem_append]
      exact ⟨fun h=>h.elim (fun z=>absurd em ((R2.cells.on a).mp z)) (R.cells.on a).mp,fun h=>.inr ((R.cells.on a).mpr h)⟩
    | some t=>
      rw [mjoin_some em,List.mem_append]
      exact ⟨fun _ z=>(by cases z),fun _=>.inl ((R2.cells.on a).mpr (by rw [em];intro z;cases z))⟩
  · rcases List.mem_append.mp h with h | h
    · exact fun z=>nS a h (List.mem_append.mpr (.inl z))
    · exact R.cells.off a h
  · cases em2:M' a with
    | none=>
      rw [mjoin_none em2] at em
      exact (R.cells.at_ a t' em).mono hv2 (kk.cell R.cells ((R.cells.on a).mpr (by rw [em];intro z;cases z)))
    | some t=>
      rw [mjoin_some em2] at em
      cases em
      have hL:=(R2.cells.on a).mpr (by rw [em2];intro z;cases z)
      have ok:=q2 a t' em2
      have cr:=R2.cells.at_ a t' em2
      cases t' with
      | lst xs=>
        obtain ⟨vs,hD,rp⟩:=cr
        exact ⟨vs,(HU_off (nLL a hL)).trans hD,(kk.okL R.cells (rp.mono sm0) ok).mono sm⟩
      | dic ts=>
        obtain ⟨ks,hD,hk,rp⟩:=cr
        exact ⟨ks,(HU_off (nLL a hL)).trans hD,hk,(kk.okL R.cells (rp.mono sm0) ok).mono sm⟩
      | _=>cases ok
 exact k v d (L'++L) _ _ R' hv2 ((kk.ok R.cells (r.mono sm0) q1).mono sm) (q3 hM)
end
def whyC4 (em:Value→Value→Option Bool) (l:WhyL) (s0:Str) (t:E4):E4:=fun σ M Q _=>t σ M (fun _ M1=>Q (.tup [.str s0]) M1) (fun x M1=>whyX5 em x (fun d=>Q d M1) l)
theorem lift_lamC {K:PySem.W.Frag} {p cc:Addr} {fr:Bool} {P:Addr×Str} {Ts:List (Addr×Str)} {W:WX} {l:WhyL} {s0:Str} {n:Nat} (hn:1<n∨∀e∈l,e.2.2=[]) {t:XK→TE} {t4:E4} (ht:∀E:XK,Lift4 K (potR fr p cc (P::Ts)) (fun cls d _ H=>E cls d H) (t E) t4):
 Lift4 K (potR fr p cc (P::Ts)) W (LamX.tLam (P::Ts) (TTwhyF K n l s0) t) (whyC4 (PySem.W.exmOne K) l s0 t4):=by
 intro σ3 M Q4 X h Hb G L0 L σ H Q R k e
 refine ⟨R.r3.inv.2,fun H1 ex tb=> ?_⟩
 have own:∀a o,H a=some o→vis o=true→H1 a=some o:=fun a o e v=>ex a o e (fun ps z=>by rw [z] at v;cases v)
 have L1:Le (potR fr p cc (P::Ts)) (G++L) (nons σ3.length) H H1:=by
  refine ⟨fun a o z=> ?_,fun a ha=> ?_, ?_,tb⟩
  · obtain ⟨z1,z2,z3⟩:=hid_all z
    exact hid_mk (own a o z1 z3) z2 z3
  · rw [addrs_nons,List.append_nil] at ha
    cases eo:H a with
    | none=>exact absurd eo (R.r3.gk a ha).2.1
    | some o=>
      rcases R.r3.gv a ha o eo with z | z
      · cases z
      · exact own a o eo z
  · obtain ⟨cs,i,n,s,h1,h2,r⟩:=R.r3.inv.1
    exact ⟨cs,i,n,s,own _ _ h1 rfl,own _ _ h2 rfl,r⟩
 have R1:=R.le L1
 have out1:∀(s:Str) (L2:List Addr) (M2:Mem) (H2:Hp) (ws:List V) (ts:List T) (a:Addr) (o:Obj),R4 K (potR fr p cc (P::Ts)) Hb G L0 L2 M2 σ3 σ H2→Same (vs4 (potR fr p cc (P::Ts)) G L H1) (vs4 (potR fr p cc (P::Ts)) G L2 H2)→RepL K (vs4 (potR fr p cc (P::Ts)) G L2 H2) ws ts→H2 a=none→o.dict=none→Q4 (.tup (.str s::ts)) M2→Q (.ref a) (upd H2 a (.frz o (.tup (.str s::ws)))):=fun s L2 M2 H2 ws ts a o R2 s2 rw ha hd q=>by
  have L3:=R2.r3.new (o:=.frz o (.tup (.str s::ws))) ha
  have na:=R2.r3.newAt (o:=.frz o (.tup (.str s::ws))) ha
  rw [S_nons] at na
  exact k _ _ L2 M2 _ (R2.le L3) (Same.trans L1.vis4 (Same.trans s2 L3.vis4)) (.mkT (FqT.of hd na) (.cons (.str s) (rw.mono L3.vis4))) q
 refine ht _ σ3 _ _ _ h Hb G L0 L σ H1 _ R1 (fun v d L2 M2 H2 R2 s2 _ q=>⟨one_line,fun a o ha hd=>out1 s0 L2 M2 H2 [] [] a o R2 s2 .nil ha hd q⟩) (fun cls dd x L2 M2 H2 R2 s2 rx hx σ' hl=> ?_)
 have ec:x.cls=cls:=rx.1
 subst ec
 clear h
 induction l with
 | nil=>exact hx.elim
 | cons v l ih=>
   obtain ⟨C,s1,fs⟩:=v
   obtain ⟨b,hb,hy⟩:=ob_iff.mp hx
   refine ⟨b,hb,fun hb1 a _=> ?_,fun hb1=> ?_⟩
   · subst hb1
     have hy:(fs=[]∨x.cls= .ref C)∧ob (getFs x.fs fs) fun ts=>ts.length<1000∧Q4 (.tup (.str s1::ts)) M2:=by simpa using hy
     obtain ⟨hor,hy⟩:=hy
     obtain ⟨ts,et,hlt,q⟩:=ob_iff.mp hy
     have sl:sizeLine=16777216:=by decide
     cases fs with
     | nil=>
       cases et
       exact ⟨one_line,fun b o hb hd=>out1 s1 L2 M2 H2 [] [] b o R2 s2 .nil hb hd q⟩
     | cons f fs=>
       have hC:x.cls= .ref C:=by
        rcases hor with z | z
        · cases z
        · exact z
       have hn1:1<n:=by
        rcases hn with z | z
        · exact z
        · have:=z _ (List.mem_cons_self ..);cases this
       obtain ⟨_,rx2⟩:=rx
       cases dd with
       | none=>
         exfalso
         have rx2:x.fs=[]:=rx2
         rw [rx2] at et
         cases et
       | some d=>
         obtain ⟨vs,v1,v2,v3⟩:=rx2
         show tTup (tCons (tC (.str s1)) (tFs a x.cls (some d) C (f::fs))) (σ'.set 1 (some (.ref a))) H2 Q
         rw [hC]
         show tFs a (.ref C) (some d) C (f::fs) (σ'.set 1 (some (.ref a))) H2 (fun xs H3=>(V.str s1::xs).length≤sizeLine∧newT H3 (V.str s1::xs) Q)
         refine fs_vals (x:=x) (by rw [List.getElem?_set_self];rw [hl];exact hn1) (hid_some v1).1 v2 v3 (f::fs) ts _ et fun ws r=> ?_
         have hw:=r.length
         exact ⟨by show ws.length+1≤sizeLine;omega,fun b o hb hd=>out1 s1 L2 M2 H2 ws ts b o R2 s2 r hb hd q⟩
   · subst hb1
     exact ih (by rcases hn with z | z;exact .inl z;exact .inr fun e he=>z e (List.mem_cons_of_mem _ he)) (by simpa using hy)
section
variable {K:PySem.W.Frag} {fr' dr:Bool} {p cc:Addr} {Ts:List (Addr×Str)} {W:WX} {t tk:TA} {x y:A4} {n i j:Nat} {f:F4} {f3:F3} {E:XK} {dvs:List V} {dts:List T} {C:Addr}
def mkC40 (n:Nat) (C:Addr) (f:F4) (x:A4) (dts:List T):E4:=fun σ M Q X=>x σ M (fun ds M1=>(ds++dts).length+1=n∧∀a,M1 a=none→f (.ref a::(ds++dts)) (mset M1 a (some (.ins C []))) (fun d M2=>d= .non∧Q (.ref a) M2) (fun _ _=>False)) X
theorem lift_mkC0 (hx:LiftA4 K (potR fr' p cc Ts) W t x) (hd:∀H,RepL K H dvs dts):Lift4 K (potR fr' p cc Ts) W (tMake C (spU4 K false n f Ts) dvs E t) (mkC40 n C f x dts):=by
 intro σ3 M Q4 X h Hb G L0 L σ H Q R k e
 refine hx _ _ _ _ h Hb G L0 L σ H _ R (fun vs ds L1 M1 H1 R1 s1 rs q=> ?_) e
 intro a dx na ndx ne
 obtain ⟨ma,R3,s2⟩:=mkC_step (C:=C) R1 na ndx ne
 exact spU4_call R3 (ds:=.ref a::(ds++dts)) (.cons (.ref a) ((rs.append (hd _)).mono s2)) (by simpa using q.1) (fun z=>by cases z) (q.2 a ma)
  (fun v d L' M' H' R' s' r q=>⟨by obtain ⟨rfl,_⟩:=q;cases r;rfl,k _ _ L' M' H' R' (Same.trans s1 (Same.trans s2 s')) (.ref a) q.2⟩)
  (fun cls dd x L' M' H' R' s' r q=>q.elim)
def methCKX4 (C:Addr) (mn:Str) (n:Nat) (f:F4) (g:List T→List T→List T) (i j:Nat) (o:E4) (x y:A4):E4:=fun σ M Q X=>o σ M (fun d M1=>ob (asR d) fun a=>ob (cellI M1 a) fun p=>p.1=C∧p.2.lookup mn=none∧x σ M1 (fun ds M2=>y σ M2 (fun es M3=>ds.length+1=i∧es.length=j∧(g (d::ds) es).length=n∧f (g (d::ds) es) M3 Q X) X) X) X
theorem lift_methCKX {to:TE} {o:E4} {mn:Str} {gV:List V→List V→List V} {g:List T→List T→List T} (hE:∀cls dd σ H,W cls dd σ H→E cls dd H) (hg:∀H vs ds ws es,RepL K H vs ds→RepL K H ws es→ds.length=i→es.length=j→RepL K H (gV vs ws) (g ds es))
 (ho:Lift4 K (potR fr' p cc Ts) W to o) (hx:LiftA4 K (potR fr' p cc Ts) W t x) (hy:LiftA4 K (potR fr' p cc Ts) W tk y):Lift4 K (potR fr' p cc Ts) W (tMethK C mn i j (spU4 K false n f Ts) gV E to t tk) (methCKX4 C mn n f g i j o x y):=by
 intro σ3 M Q4 X h Hb G L0 L σ H Q R k e
 refine ho _ _ _ _ h Hb G L0 L σ H _ R (fun v d L1 M1 H1 R1 s1 r q=> ?_) e
 obtain ⟨a,ea,qa⟩:=ob_iff.mp q
 cases asR_is ea
 cases r.refI
 obtain ⟨⟨C',fs⟩,ei,e1,hl,qb⟩:=ob_iff.mp qa
 cases e1
 obtain ⟨m1,dx,ks,o1,o2,o3⟩:=R1.atI (cellI_is ei)
 refine ⟨a,dx,ks,rfl,o1,lookup_none_keys o2 hl, ?_⟩
 refine hx _ _ _ _ qb Hb G L0 L1 σ H1 _ R1 (fun vs ds L2 M2 H2 R2 s2 rs q=> ?_) (fun cls dd x L' M' H' R' s'=>e cls dd x L' M' H' R' (Same.trans s1 s'))
 refine hy _ _ _ _ q Hb G L0 L2 σ H2 _ R2 (fun ws es L3 M3 H3 R3 s3 ry q=> ?_) (fun cls dd x L' M' H' R' s'=>e cls dd x L' M' H' R' (Same.trans (Same.trans s1 s2) s'))
 obtain ⟨h1,h2,h3,h4⟩:=q
 refine ⟨by rw [rs.length];exact h1,by rw [ry.length];exact h2, ?_⟩
 exact spU4_call R3 (hg _ _ _ _ _ (.cons (.ref a) (rs.mono s3)) ry h1 h2) h3 (fun z=>by cases z) h4 (fun v d L' M' H' R' s' r q=>k v d L' M' H' R' (Same.trans (Same.trans s1 s2) (Same.trans s3 s')) r q)
  (fun cls dd x L' M' H' R' s' r q=>hE _ _ σ _ (e cls dd x L' M' H' R' (Same.trans (Same.trans s1 s2) (Same.trans s3 s')) r q))
end
theorem lift_frDictL {K:PySem.W.Frag} {c:Cf} {W:WX} {t:TA} {x:A3} (ha:LiftA K c W t x):LiftFrK K c W (tCB (rDictLN K) t) (call3 dict3 x):=by
 intro σ3 Q3 X h Hb G A σ H Q R k e
 refine ha _ _ _ h Hb G A σ H _ R (fun vs xs H1 L1 rx hx=> ?_) e
 obtain ⟨y,ex,hh1⟩:=ob_iff.mp hx
 obtain ⟨ds,ed,hh2⟩:=ob_iff.mp hh1
 obtain ⟨ts,ep,q⟩:=ob_iff.mp hh2
 cases one_is ex
 cases asL_is ed
 obtain ⟨v,rfl,r⟩:=repL_one rx
 obtain ⟨a,vs,rfl,ha,rl⟩:=r.lstI
 obtain ⟨as,kvs,rfl,p1,p2⟩:=prs_rep rl ep
 have p1':PrsV K H1 as kvs:=by
  clear p2 ha rl
  induction p1 with
  | nil=>exact .nil
  | cons h _ ih=>exact .cons (Same.sqT hid_same h) ih
 refine ⟨a,as,kvs,rfl,SqL.of (hid_same _ _ ha),p1',fun l hl=> ?_⟩
 have rd:=p2.mrg .nil
 have f:=(R.le L1).frK (D:=l) hl rd.keys (repL_mk (by have:=congrArg List.length rd.keys;simpa using this) rd.at)
 exact k l _ _ _ ⟨f.nD,Same.trans L1.vis f.vis,fun a ha=>(f.own a ha).trans (L1.own a ha),f.inv,f.at_,f.key,f.rep⟩ q
end M3
namespace Law
open PySem L2 M3
def whyT (C:Cs):WhyL:=[(C.at_ "BadName","BadName",["name"]),(C.at_ "Taken","Taken",["name"]),(C.at_ "Full","Full",[]),(C.at_ "BadColumns","BadColumns",[]),(C.at_ "BadKey","BadKey",[]),(C.at_ "BadRefer","BadRefer",[]),(C.at_ "NoTable","NoTable",["name"]),(C.at_ "PourError","PourError",[])]
structure CsOk (C:Cs):Prop where
 e_BadColumns_BadName:C.em (.ref (C.at_ "BadColumns")) (.ref (C.at_ "BadName"))=some false
 e_BadColumns_Taken:C.em (.ref (C.at_ "BadColumns")) (.ref (C.at_ "Taken"))=some false
 e_BadColumns_Full:C.em (.ref (C.at_ "BadColumns")) (.ref (C.at_ "Full"))=some false
 e_BadColumns_BadColumns:C.em (.ref (C.at_ "BadColumns")) (.ref (C.at_ "BadColumns"))=some true
 e_BadColumns_BadKey:C.em (.ref (C.at_ "BadColumns")) (.ref (C.at_ "BadKey"))=some false
 e_BadColumns_BadRefer:C.em (.ref (C.at_ "BadColumns")) (.ref (C.at_ "BadRefer"))=some false
 e_BadColumns_NoTable:C.em (.ref (C.at_ "BadColumns")) (.ref (C.at_ "NoTable"))=some false
 e_BadColumns_PourError:C.em (.ref (C.at_ "BadColumns")) (.ref (C.at_ "PourError"))=some true
 e_BadKey_BadName:C.em (.ref (C.at_ "BadKey")) (.ref (C.at_ "BadName"))=some false
 e_BadKey_Taken:C.em (.ref (C.at_ "BadKey")) (.ref (C.at_ "Taken"))=some false
 e_BadKey_Full:C.em (.ref (C.at_ "BadKey")) (.ref (C.at_ "Full"))=some false
 e_BadKey_BadColumns:C.em (.ref (C.at_ "BadKey")) (.ref (C.at_ "BadColumns"))=some false
 e_BadKey_BadKey:C.em (.ref (C.at_ "BadKey")) (.ref (C.at_ "BadKey"))=some true
 e_BadKey_BadRefer:C.em (.ref (C.at_ "BadKey")) (.ref (C.at_ "BadRefer"))=some false
 e_BadKey_NoTable:C.em (.ref (C.at_ "BadKey")) (.ref (C.at_ "NoTable"))=some false
 e_BadKey_PourError:C.em (.ref (C.at_ "BadKey")) (.ref (C.at_ "PourError"))=some true
 e_BadName_BadName:C.em (.ref (C.at_ "BadName")) (.ref (C.at_ "BadName"))=some true
 e_BadName_Taken:C.em (.ref (C.at_ "BadName")) (.ref (C.at_ "Taken"))=some false
 e_BadName_Full:C.em (.ref (C.at_ "BadName")) (.ref (C.at_ "Full"))=some false
 e_BadName_BadColumns:C.em (.ref (C.at_ "BadName")) (.ref (C.at_ "BadColumns"))=some false
 e_BadName_BadKey:C.em (.ref (C.at_ "BadName")) (.ref (C.at_ "BadKey"))=some false
 e_BadName_BadRefer:C.em (.ref (C.at_ "BadName")) (.ref (C.at_ "BadRefer"))=some false
 e_BadName_NoTable:C.em (.ref (C.at_ "BadName")) (.ref (C.at_ "NoTable"))=some false
 e_BadName_PourError:C.em (.ref (C.at_ "BadName")) (.ref (C.at_ "PourError"))=some true
 e_BadRefer_BadName:C.em (.ref (C.at_ "BadRefer")) (.ref (C.at_ "BadName"))=some false
 e_BadRefer_Taken:C.em (.ref (C.at_ "BadRefer")) (.ref (C.at_ "Taken"))=some false
 e_BadRefer_Full:C.em (.ref (C.at_ "BadRefer")) (.ref (C.at_ "Full"))=some false
 e_BadRefer_BadColumns:C.em (.ref (C.at_ "BadRefer")) (.ref (C.at_ "BadColumns"))=some false
 e_BadRefer_BadKey:C.em (.ref (C.at_ "BadRefer")) (.ref (C.at_ "BadKey"))=some false
 e_BadRefer_BadRefer:C.em (.ref (C.at_ "BadRefer")) (.ref (C.at_ "BadRefer"))=some true
 e_BadRefer_NoTable:C.em (.ref (C.at_ "BadRefer")) (.ref (C.at_ "NoTable"))=some false
 e_BadRefer_PourError:C.em (.ref (C.at_ "BadRefer")) (.ref (C.at_ "PourError"))=some true
 e_Full_BadName:C.em (.ref (C.at_ "Full")) (.ref (C.at_ "BadName"))=some false
 e_Full_Taken:C.em (.ref (C.at_ "Full")) (.ref (C.at_ "Taken"))=some false
 e_Full_Full:C.em (.ref (C.at_ "Full")) (.ref (C.at_ "Full"))=some true
 e_Full_BadColumns:C.em (.ref (C.at_ "Full")) (.ref (C.at_ "BadColumns"))=some false
 e_Full_BadKey:C.em (.ref (C.at_ "Full")) (.ref (C.at_ "BadKey"))=some false
 e_Full_BadRefer:C.em (.ref (C.at_ "Full")) (.ref (C.at_ "BadRefer"))=some false
 e_Full_NoTable:C.em (.ref (C.at_ "Full")) (.ref (C.at_ "NoTable"))=some false
 e_Full_PourError:C.em (.ref (C.at_ "Full")) (.ref (C.at_ "PourError"))=some true
 e_NoTable_BadName:C.em (.ref (C.at_ "NoTable")) (.ref (C.at_ "BadName"))=some false
 e_NoTable_Taken:C.em (.ref (C.at_ "NoTable")) (.ref (C.at_ "Taken"))=some false
 e_NoTable_Full:C.em (.ref (C.at_ "NoTable")) (.ref (C.at_ "Full"))=some false
 e_NoTable_BadColumns:C.em (.ref (C.at_ "NoTable")) (.ref (C.at_ "BadColumns"))=some false
 e_NoTable_BadKey:C.em (.ref (C.at_ "NoTable")) (.ref (C.at_ "BadKey"))=some false
 e_NoTable_BadRefer:C.em (.ref (C.at_ "NoTable")) (.ref (C.at_ "BadRefer"))=some false
 e_NoTable_NoTable:C.em (.ref (C.at_ "NoTable")) (.ref (C.at_ "NoTable"))=some true
 e_NoTable_PourError:C.em (.ref (C.at_ "NoTable")) (.ref (C.at_ "PourError"))=some true
 e_Taken_BadName:C.em (.ref (C.at_ "Taken")) (.ref (C.at_ "BadName"))=some false
 e_Taken_Taken:C.em (.ref (C.at_ "Taken")) (.ref (C.at_ "Taken"))=some true
 e_Taken_Full:C.em (.ref (C.at_ "Taken")) (.ref (C.at_ "Full"))=some false
 e_Taken_BadColumns:C.em (.ref (C.at_ "Taken")) (.ref (C.at_ "BadColumns"))=some false
 e_Taken_BadKey:C.em (.ref (C.at_ "Taken")) (.ref (C.at_ "BadKey"))=some false
 e_Taken_BadRefer:C.em (.ref (C.at_ "Taken")) (.ref (C.at_ "BadRefer"))=some false
 e_Taken_NoTable:C.em (.ref (C.at_ "Taken")) (.ref (C.at_ "NoTable"))=some false
 e_Taken_PourError:C.em (.ref (C.at_ "Taken")) (.ref (C.at_ "PourError"))=some true
def is_nameB (C:Cs):S3:=(seq3 (ifs3 (or3 (not3 (tst3 (call3 isi3 (cons3 (v3 0) (cons3 (k3 (.ty "str")) nil3))))) (not3 (tst3 (chain3 M3.leP M3.leP (k3 (.int 1)) (call3 len3 (cons3 (v3 0) nil3)) (k3 (.int 8)))))) (ret3 (k3 (.bl false))) next3) (ret3 (call3 all3 (cons3 (lc3 (iterP (v3 0)) (name3 1) yes3 (op3 (inP false) (v3 1) (k3 (.str "abcdefghijklmnopqrstuvwxyz"))) [1]) nil3))))
def is_nameD (C:Cs):F3:=fun ds Q X=>is_nameB C {nx:=fun _=>Q .non,rt:=Q,xn:=fun _=>X} (start3 2 ds)
theorem is_name_ex (C:Cs):∃f:F3,f=is_nameD C:=⟨_,rfl⟩
noncomputable def is_name (C:Cs):F3:=Classical.choose (is_name_ex C)
theorem is_name_def (C:Cs):is_name C=is_nameD C:=Classical.choose_spec (is_name_ex C)
def are_columnsB (C:Cs):S3:=(seq3 (ifs3 (or3 (not3 (tst3 (call3 isi3 (cons3 (v3 0) (cons3 (k3 (.ty "tuple")) nil3))))) (not3 (tst3 (chain3 M3.leP M3.leP (k3 (.int 1)) (call3 len3 (cons3 (v3 0) nil3)) (v3 1))))) (ret3 (k3 (.bl false))) next3) (ret3 (andV3 (call3 all3 (cons3 (lc3 (iterP (v3 0)) (name3 2) yes3 (fn30 1 (is_name C) (cons3 (v3 2) nil3) []) [2]) nil3)) (op3 eqP (lenSet3 (v3 0)) (call3 len3 (cons3 (v3 0) nil3))))))
def are_columnsD (C:Cs):F3:=fun ds Q X=>are_columnsB C {nx:=fun _=>Q .non,rt:=Q,xn:=fun _=>X} (start3 3 ds)
theorem are_columns_ex (C:Cs):∃f:F3,f=are_columnsD C:=⟨_,rfl⟩
noncomputable def are_columns (C:Cs):F3:=Classical.choose (are_columns_ex C)
theorem are_columns_def (C:Cs):are_columns C=are_columnsD C:=Classical.choose_spec (are_columns_ex C)
def is_partB (C:Cs):S3:=(ret3 (andV3 (fn3 2 (are_columns C) (cons3 (v3 0) (cons3 (k3 (.int 3)) nil3)) []) (call3 all3 (cons3 (lc3 (iterP (v3 0)) (name3 2) yes3 (op3 (inP false) (v3 2) (v3 1)) [2]) nil3))))
def is_partD (C:Cs):F3:=fun ds Q X=>is_partB C {nx:=fun _=>Q .non,rt:=Q,xn:=fun _=>X} (start3 3 ds)
theorem is_part_ex (C:Cs):∃f:F3,f=is_partD C:=⟨_,rfl⟩
noncomputable def is_part (C:Cs):F3:=Classical.choose (is_part_ex C)
theorem is_part_def (C:Cs):is_part C=is_partD C:=Classical.choose_spec (is_part_ex C)
def Form_init_1t_1 (C:Cs):S3:=(raise3 (.ref (C.at_ "BadColumns")))
def Form_init_1 (C:Cs):S3:=(ifs3 (not3 (tst3 (fn3 2 (are_columns C) (cons3 (v3 1) nil3) [(.int 6)]))) (Form_init_1t_1 C) next3)
def Form_init_2t_1 (C:Cs):S3:=(raise3 (.ref (C.at_ "BadKey")))
def Form_init_2 (C:Cs):S3:=(ifs3 (or3 (not3 (tst3 (fn3 2 (is_part C) (cons3 (v3 2) (cons3 (v3 1) nil3)) []))) (or3 (not3 (tst3 (call3 isi3 (cons3 (v3 3) (cons3 (k3 (.ty "tuple")) nil3))))) (tst3 (op3 M3.gtP (call3 len3 (cons3 (v3 3) nil3)) (k3 (.int 2)))))) (Form_init_2t_1 C) next3)
def Form_init_3t_1 (C:Cs):S3:=(raise3 (.ref (C.at_ "BadKey")))
def Form_init_3 (C:Cs):S3:=(ifs3 (not3 (tst3 (call3 all3 (cons3 (lc3 (iterP (v3 3)) (name3 6) yes3 (fn30 2 (is_part C) (cons3 (v3 6) (cons3 (v3 1) nil3)) []) [6]) nil3)))) (Form_init_3t_1 C) next3)
def Form_init_4t_1 (C:Cs):S3:=(raise3 (.ref (C.at_ "BadRefer")))
def Form_init_4 (C:Cs):S3:=(ifs3 (or3 (not3 (tst3 (call3 isi3 (cons3 (v3 4) (cons3 (k3 (.ty "tuple")) nil3))))) (tst3 (op3 M3.gtP (call3 len3 (cons3 (v3 4) nil3)) (k3 (.int 2))))) (Form_init_4t_1 C) next3)
def Form_init_5b_1t_1 (C:Cs):S3:=(raise3 (.ref (C.at_ "BadRefer")))
def Form_init_5b_1 (C:Cs):S3:=(ifs3 (or3 (not3 (tst3 (call3 isi3 (cons3 (v3 5) (cons3 (k3 (.ty "tuple")) nil3))))) (or3 (tst3 (op3 neP (call3 len3 (cons3 (v3 5) nil3)) (k3 (.int 2)))) (not3 (tst3 (fn3 2 (is_part C) (cons3 (op3 ixP (v3 5) (k3 (.int 0))) (cons3 (v3 1) nil3)) []))))) (Form_init_5b_1t_1 C) next3)
def Form_init_5b_2t_1 (C:Cs):S3:=(raise3 (.ref (C.at_ "BadRefer")))
def Form_init_5b_2 (C:Cs):S3:=(ifs3 (not3 (tst3 (fn3 1 (is_name C) (cons3 (op3 ixP (v3 5) (k3 (.int 1))) nil3) []))) (Form_init_5b_2t_1 C) next3)
def Form_init_5b (C:Cs):S3:=(seq3 (Form_init_5b_1 C) (Form_init_5b_2 C))
def Form_init_5 (C:Cs):S3:=(for3 (iterP (v3 4)) (name3 5) (Form_init_5b C))
def Form_init_6 (C:Cs):S3:=(setO3 [C.at_ "Form"] 0 "columns" (v3 1))
def Form_init_7 (C:Cs):S3:=(setO3 [C.at_ "Form"] 0 "key" (v3 2))
def Form_init_8 (C:Cs):S3:=(setO3 [C.at_ "Form"] 0 "others" (v3 3))
def Form_init_9 (C:Cs):S3:=(setO3 [C.at_ "Form"] 0 "refers" (v3 4))
def Form_initB (C:Cs):S3:=(seq3 (Form_init_1 C) (seq3 (Form_init_2 C) (seq3 (Form_init_3 C) (seq3 (Form_init_4 C) (seq3 (Form_init_5 C) (seq3 (Form_init_6 C) (seq3 (Form_init_7 C) (seq3 (Form_init_8 C) (Form_init_9 C)))))))))
def Form_initD (C:Cs):F3:=fun ds Q X=>∀x:Addr,Form_initB C {nx:=fun σ=>ob (ownI σ 0) fun p=>p.1=x∧Q (.ins p.2.1 p.2.2),rt:=fun _=>False,xn:=fun _=>X} (Sl.own (selfT x (C.at_ "Form") [])::(ds.map Sl.val++List.replicate (7-(ds.length+1)) Sl.no))
theorem Form_init_ex (C:Cs):∃f:F3,f=Form_initD C:=⟨_,rfl⟩
noncomputable def Form_init (C:Cs):F3:=Classical.choose (Form_init_ex C)
theorem Form_init_def (C:Cs):Form_init C=Form_initD C:=Classical.choose_spec (Form_init_ex C)
def Plan_initB (C:Cs):S4:=(seq4 (setC4 [C.at_ "Plan"] "forms" (pu (v3 0)) (newD4 newD3)) (seq4 (setC4 [C.at_ "Plan"] "above" (pu (v3 0)) (newD4 newD3)) (setC4 [C.at_ "Plan"] "below" (pu (v3 0)) (newD4 newD3))))
def Plan_initD (C:Cs):F4:=fun ds M Q X=>Plan_initB C {nx:=fun _ M=>Q .non M,rt:=Q,xn:=fun _=>X} (start3 1 ds) M
theorem Plan_init_ex (C:Cs):∃f:F4,f=Plan_initD C:=⟨_,rfl⟩
noncomputable def Plan_init (C:Cs):F4:=Classical.choose (Plan_init_ex C)
theorem Plan_init_def (C:Cs):Plan_init C=Plan_initD C:=Classical.choose_spec (Plan_init_ex C)
def Plan_tablesB (C:Cs):S3:=(ret3 (listD3 (cons3 (fld3 [C.at_ "Plan"] "forms" (v3 0)) nil3)))
def Plan_tablesD (C:Cs):F3:=fun ds Q X=>Plan_tablesB C {nx:=fun _=>False,rt:=Q,xn:=fun _=>X} (start3 1 ds)
theorem Plan_tables_ex (C:Cs):∃f:F3,f=Plan_tablesD C:=⟨_,rfl⟩
noncomputable def Plan_tables (C:Cs):F3:=Classical.choose (Plan_tables_ex C)
theorem Plan_tables_def (C:Cs):Plan_tables C=Plan_tablesD C:=Classical.choose_spec (Plan_tables_ex C)
def Plan_formB (C:Cs):S4:=(seq4 (ifs4 (vwKB4 ⟨false,true,[C.at_ "Plan"]⟩ 4 [0] (tst3 (op3 (inDF3 true) (v3 1) (fld3 [C.at_ "Plan"] "forms" (v3 0))))) (puS (raiseT3 (.ref (C.at_ "NoTable")) "name" (v3 1))) next4) (ret4 (vwK4 ⟨false,true,[C.at_ "Plan"]⟩ 4 [0] (dget3 (fld3 [C.at_ "Plan"] "forms" (v3 0)) (v3 1)))))
def Plan_formD (C:Cs):F4:=fun ds M Q X=>Plan_formB C {nx:=fun _ M=>Q .non M,rt:=Q,xn:=fun _=>X} (start3 2 ds) M
theorem Plan_form_ex (C:Cs):∃f:F4,f=Plan_formD C:=⟨_,rfl⟩
noncomputable def Plan_form (C:Cs):F4:=Classical.choose (Plan_form_ex C)
theorem Plan_form_def (C:Cs):Plan_form C=Plan_formD C:=Classical.choose_spec (Plan_form_ex C)
def Plan_make_1t_1 (C:Cs):S4:=(puS (raiseT3 (.ref (C.at_ "BadName")) "name" (v3 1)))
def Plan_make_1 (C:Cs):S4:=(ifs4 (pu (not3 (tst3 (fn3 1 (is_name C) (cons3 (v3 1) nil3) [])))) (Plan_make_1t_1 C) next4)
def Plan_make_2t_1 (C:Cs):S4:=(puS (raiseT3 (.ref (C.at_ "Taken")) "name" (v3 1)))
def Plan_make_2 (C:Cs):S4:=(ifs4 (vwKB4 ⟨false,true,[C.at_ "Plan"]⟩ 4 [0] (tst3 (op3 (inDF3 false) (v3 1) (fld3 [C.at_ "Plan"] "forms" (v3 0))))) (Plan_make_2t_1 C) next4)
def Plan_make_3t_1 (C:Cs):S4:=(puS (raise3 (.ref (C.at_ "Full"))))
def Plan_make_3 (C:Cs):S4:=(ifs4 (vwKB4 ⟨false,true,[C.at_ "Plan"]⟩ 4 [0] (tst3 (op3 M3.geP (call3 lenD3 (cons3 (fld3 [C.at_ "Plan"] "forms" (v3 0)) nil3)) (k3 (.int 6))))) (Plan_make_3t_1 C) next4)
def Plan_make_4 (C:Cs):S4:=(asg4 (pu (mkN3 5 (Form_init C) (fun ds es=>sel [0,1,2,3] (ds++([]++es))) 1 3 (cons3 (v3 2) nil3) (cons3 (v3 3) (cons3 (v3 4) (cons3 (v3 5) nil3))))) (name3 6))
def Plan_make_5b_1t_1 (C:Cs):S4:=(puS (raiseT3 (.ref (C.at_ "NoTable")) "name" (v3 8)))
def Plan_make_5b_1 (C:Cs):S4:=(ifs4 (vwKB4 ⟨false,true,[C.at_ "Plan"]⟩ 4 [0] (and3 (tst3 (op3 neP (v3 8) (v3 1))) (tst3 (op3 (inDF3 true) (v3 8) (fld3 [C.at_ "Plan"] "forms" (v3 0)))))) (Plan_make_5b_1t_1 C) next4)
def Plan_make_5b_2 (C:Cs):S4:=(asg4 (vwK4 ⟨false,true,[C.at_ "Plan"]⟩ 4 [0] (if3 (tst3 (op3 eqP (v3 8) (v3 1))) (v3 3) (fld3 [C.at_ "Form"] "key" (dget3 (fld3 [C.at_ "Plan"] "forms" (v3 0)) (v3 8))))) (name3 9))
def Plan_make_5b_3t_1 (C:Cs):S4:=(puS (raise3 (.ref (C.at_ "BadRefer"))))
def Plan_make_5b_3 (C:Cs):S4:=(ifs4 (pu (tst3 (op3 neP (call3 len3 (cons3 (v3 7) nil3)) (call3 len3 (cons3 (v3 9) nil3))))) (Plan_make_5b_3t_1 C) next4)
def Plan_make_5b (C:Cs):S4:=(seq4 (Plan_make_5b_1 C) (seq4 (Plan_make_5b_2 C) (Plan_make_5b_3 C)))
def Plan_make_5 (C:Cs):S4:=(for4 (iterP (v3 5)) (gtup3 2 (gcons3 (name3 7) (gcons3 (name3 8) gnil3))) (Plan_make_5b C))
def Plan_make_6 (C:Cs):S4:=(put4 (fldC4 [C.at_ "Plan"] "forms" (pu (v3 0))) (pu (v3 1)) (pu (v3 6)))
def Plan_makeB (C:Cs):S4:=(seq4 (Plan_make_1 C) (seq4 (Plan_make_2 C) (seq4 (Plan_make_3 C) (seq4 (Plan_make_4 C) (seq4 (Plan_make_5 C) (Plan_make_6 C))))))
def Plan_makeD (C:Cs):F4:=fun ds M Q X=>Plan_makeB C {nx:=fun _ M=>Q .non M,rt:=Q,xn:=fun _=>X} (start3 10 ds) M
theorem Plan_make_ex (C:Cs):∃f:F4,f=Plan_makeD C:=⟨_,rfl⟩
noncomputable def Plan_make (C:Cs):F4:=Classical.choose (Plan_make_ex C)
theorem Plan_make_def (C:Cs):Plan_make C=Plan_makeD C:=Classical.choose_spec (Plan_make_ex C)
def Plan_rulesB (C:Cs):S3:=(ret3 (lc3 (iterP (sortDk3 (cons3 (fld3 [C.at_ "Plan"] "above" (v3 0)) nil3))) (name3 1) yes3 (op3 addP (tup3 (cons3 (v3 1) nil3)) (dget3 (fld3 [C.at_ "Plan"] "above" (v3 0)) (v3 1))) [1]))
def Plan_rulesD (C:Cs):F3:=fun ds Q X=>Plan_rulesB C {nx:=fun _=>Q .non,rt:=Q,xn:=fun _=>X} (start3 2 ds)
theorem Plan_rules_ex (C:Cs):∃f:F3,f=Plan_rulesD C:=⟨_,rfl⟩
noncomputable def Plan_rules (C:Cs):F3:=Classical.choose (Plan_rules_ex C)
theorem Plan_rules_def (C:Cs):Plan_rules C=Plan_rulesD C:=Classical.choose_spec (Plan_rules_ex C)
def Plan_followsB (C:Cs):S3:=(ret3 (lc3 (iterP (sortDk3 (cons3 (fld3 [C.at_ "Plan"] "below" (v3 0)) nil3))) (name3 1) yes3 (op3 addP (tup3 (cons3 (v3 1) nil3)) (dget3 (fld3 [C.at_ "Plan"] "below" (v3 0)) (v3 1))) [1]))
def Plan_followsD (C:Cs):F3:=fun ds Q X=>Plan_followsB C {nx:=fun _=>Q .non,rt:=Q,xn:=fun _=>X} (start3 2 ds)
theorem Plan_follows_ex (C:Cs):∃f:F3,f=Plan_followsD C:=⟨_,rfl⟩
noncomputable def Plan_follows (C:Cs):F3:=Classical.choose (Plan_follows_ex C)
theorem Plan_follows_def (C:Cs):Plan_follows C=Plan_followsD C:=Classical.choose_spec (Plan_follows_ex C)
def Plan_emptyB (C:Cs):S4:=(ret4 (vwKM4 ⟨false,true,[C.at_ "Plan"]⟩ 4 [0] (dcC4 (iterD3 (fld3 [C.at_ "Plan"] "forms" (v3 0))) (name3 1) yes3 (v3 1) (newC4 (lst3 nil3)) [1])))
def Plan_emptyD (C:Cs):F4:=fun ds M Q X=>Plan_emptyB C {nx:=fun _ M=>Q .non M,rt:=Q,xn:=fun _=>X} (start3 2 ds) M
theorem Plan_empty_ex (C:Cs):∃f:F4,f=Plan_emptyD C:=⟨_,rfl⟩
noncomputable def Plan_empty (C:Cs):F4:=Classical.choose (Plan_empty_ex C)
theorem Plan_empty_def (C:Cs):Plan_empty C=Plan_emptyD C:=Classical.choose_spec (Plan_empty_ex C)
def LsameB (C:Cs) (r_Lsame:F3):S3:=(seq3 (ifs3 (tst3 (op3 isN3 (v3 1) (k3 .non))) (ret3 (op3 isN3 (v3 0) (k3 .non))) next3) (seq3 (ifs3 (tst3 (call3 isi3 (cons3 (v3 1) (cons3 (k3 (.ty "bool")) nil3)))) (ret3 (andV3 (call3 isi3 (cons3 (v3 0) (cons3 (k3 (.ty "bool")) nil3))) (op3 eqP (v3 0) (v3 1)))) next3) (seq3 (ifs3 (tst3 (call3 isi3 (cons3 (v3 1) (cons3 (k3 (.ty "int")) nil3)))) (ret3 (andV3 (call3 isi3 (cons3 (v3 0) (cons3 (k3 (.ty "int")) nil3))) (andV3 (notV3 (call3 isi3 (cons3 (v3 0) (cons3 (k3 (.ty "bool")) nil3)))) (op3 eqP (v3 0) (v3 1))))) next3) (seq3 (ifs3 (tst3 (call3 isi3 (cons3 (v3 1) (cons3 (k3 (.ty "str")) nil3)))) (ret3 (andV3 (call3 isi3 (cons3 (v3 0) (cons3 (k3 (.ty "str")) nil3))) (op3 eqP (v3 0) (v3 1)))) next3) (seq3 (ifs3 (tst3 (call3 isi3 (cons3 (v3 1) (cons3 (k3 (.ty "list")) nil3)))) (ifs3 (or3 (not3 (tst3 (call3 isi3 (cons3 (v3 0) (cons3 (k3 (.ty "list")) nil3))))) (tst3 (op3 neP (call3 len3 (cons3 (v3 0) nil3)) (call3 len3 (cons3 (v3 1) nil3))))) (ret3 (k3 (.bl false))) next3) (ifs3 (or3 (not3 (tst3 (call3 isi3 (cons3 (v3 0) (cons3 (k3 (.ty "tuple")) nil3))))) (tst3 (op3 neP (call3 len3 (cons3 (v3 0) nil3)) (call3 len3 (cons3 (v3 1) nil3))))) (ret3 (k3 (.bl false))) next3)) (ret3 (call3 all3 (cons3 (lc3 (iterZ3 (cons3 (v3 0) (cons3 (v3 1) nil3))) (gtup3 2 (gcons3 (name3 2) (gcons3 (name3 3) gnil3))) yes3 (fn30 2 r_Lsame (cons3 (v3 2) (cons3 (v3 3) nil3)) []) [2,3]) nil3))))))))
def Lsame_ (C:Cs):Nat→F3
 | 0=>f0
 | n+1=>(fun ds Q X=>LsameB C (Lsame_ C n) {nx:=fun _=>Q .non,rt:=Q,xn:=fun _=>X} (start3 4 ds))
theorem Lsame_ex (C:Cs) (n:Nat):∃f:F3,f=Lsame_ C n:=⟨_,rfl⟩
noncomputable def Lsame (C:Cs) (n:Nat):F3:=Classical.choose (Lsame_ex C n)
theorem Lsame_def (C:Cs) (n:Nat):Lsame C n=Lsame_ C n:=Classical.choose_spec (Lsame_ex C n)
theorem Lsame_zero (C:Cs):Lsame C 0=f0:=by rw [Lsame_def];rfl
theorem Lsame_succ (C:Cs) (n:Nat):Lsame C (n+1)=fun ds Q X=>LsameB C (Lsame C n) {nx:=fun _=>Q .non,rt:=Q,xn:=fun _=>X} (start3 4 ds):=by
 rw [Lsame_def,Lsame_def]
 rfl
def LnamesB (C:Cs) (p:Addr):S3:=(seq3 (asg3 (k3 (.str "abcdefghijklmnopqrstuvwxyz")) (name3 2)) (seq3 (asg3 (op3 ixP (lst3 (cons3 (k3 (.str "")) (cons3 (k3 (.str "a")) (cons3 (k3 (.str "row")) (cons3 (k3 (.str "zzzzzzz")) (cons3 (k3 (.str "gap")) (cons3 (k3 (.str "old")) (cons3 (k3 (.str "yes")) (cons3 (k3 (.str "x")) nil3))))))))) (fnP30 p 2 take3 (cons3 (v3 0) (cons3 (k3 (.int 8)) nil3)) [])) (name3 3)) (seq3 (asg3 (fnP30 p 2 take3 (cons3 (v3 0) (cons3 (op3 addP (call3 len3 (cons3 (v3 3) nil3)) (k3 (.int 1))) nil3)) []) (name3 4)) (seq3 (asg3 (fnP30 p 2 take3 (cons3 (v3 0) (cons3 (k3 (.int 26)) nil3)) []) (name3 5)) (seq3 (asg3 (op3 ixP (lst3 (cons3 (k3 (.int 1)) (cons3 (k3 (.int 3)) (cons3 (k3 (.int 5)) (cons3 (k3 (.int 7)) (cons3 (k3 (.int 9)) (cons3 (k3 (.int 11)) nil3))))))) (fnP30 p 2 take3 (cons3 (v3 0) (cons3 (k3 (.int 6)) nil3)) [])) (name3 6)) (ret3 (lc3 (iterR3 (cons3 (v3 1) nil3)) (name3 7) yes3 (op3 addP (op3 addP (sl3 slP (v3 3) no3 (part3 (v3 4))) (op3 ixP (v3 2) (op3 mod3 (op3 addP (v3 5) (op3 mulP (v3 6) (v3 7))) (k3 (.int 26))))) (sl3 slP (v3 3) (part3 (v3 4)) no3)) [7])))))))
def LnamesD (C:Cs):F3:=fun ds Q X=>match ds with | .ref p::r=>LnamesB C p {nx:=fun _=>Q .non,rt:=Q,xn:=fun _=>X} (start3 8 (.ref p::r)) | _=>False
theorem Lnames_ex (C:Cs):∃f:F3,f=LnamesD C:=⟨_,rfl⟩
noncomputable def Lnames (C:Cs):F3:=Classical.choose (Lnames_ex C)
theorem Lnames_def (C:Cs):Lnames C=LnamesD C:=Classical.choose_spec (Lnames_ex C)
def Lsome_1 (C:Cs) (p:Addr):S3:=(ownset3 (call3 list3 (cons3 (v3 1) nil3)) 3)
def Lsome_2 (C:Cs) (p:Addr):S3:=(ownset3 (lst3 nil3) 4)
def Lsome_3b_1 (C:Cs) (p:Addr):S3:=(appPop3 4 3 (fnP30 p 2 take3 (cons3 (v3 0) (cons3 (lenO3 3) nil3)) []))
def Lsome_3b (C:Cs) (p:Addr):S3:=(Lsome_3b_1 C p)
def Lsome_3 (C:Cs) (p:Addr):S3:=(for3 (iterR3 (cons3 (call3 min23 (cons3 (v3 2) (cons3 (lenO3 3) nil3))) nil3)) (name3 5) (Lsome_3b C p))
def Lsome_4 (C:Cs) (p:Addr):S3:=(frz3 4 (ret3 (call3 tuple3 (cons3 (v3 4) nil3))))
def LsomeB (C:Cs) (p:Addr):S3:=(seq3 (Lsome_1 C p) (seq3 (Lsome_2 C p) (seq3 (Lsome_3 C p) (Lsome_4 C p))))
def LsomeD (C:Cs):F3:=fun ds Q X=>match ds with | .ref p::r=>LsomeB C p {nx:=fun _=>Q .non,rt:=Q,xn:=fun _=>X} (start3 6 (.ref p::r)) | _=>False
theorem Lsome_ex (C:Cs):∃f:F3,f=LsomeD C:=⟨_,rfl⟩
noncomputable def Lsome (C:Cs):F3:=Classical.choose (Lsome_ex C)
theorem Lsome_def (C:Cs):Lsome C=LsomeD C:=Classical.choose_spec (Lsome_ex C)
def LformB (C:Cs) (p:Addr):S3:=(seq3 (asg3 (call3 tuple3 (cons3 (fnP3 p 2 (Lnames C) (cons3 (v3 0) (cons3 (op3 addP (k3 (.int 1)) (fnP30 p 2 take3 (cons3 (v3 0) (cons3 (v3 1) nil3)) [])) nil3)) []) nil3)) (name3 2)) (seq3 (asg3 (fnP3 p 3 (Lsome C) (cons3 (v3 0) (cons3 (v3 2) (cons3 (op3 ixP (lst3 (cons3 (k3 (.int 1)) (cons3 (k3 (.int 1)) (cons3 (k3 (.int 2)) (cons3 (k3 (.int 3)) nil3))))) (fnP30 p 2 take3 (cons3 (v3 0) (cons3 (k3 (.int 4)) nil3)) [])) nil3))) []) (name3 3)) (seq3 (asg3 (call3 tuple3 (cons3 (lc3 (iterR3 (cons3 (op3 ixP (lst3 (cons3 (k3 (.int 0)) (cons3 (k3 (.int 0)) (cons3 (k3 (.int 1)) (cons3 (k3 (.int 2)) nil3))))) (fnP30 p 2 take3 (cons3 (v3 0) (cons3 (k3 (.int 4)) nil3)) [])) nil3)) (name3 5) yes3 (fnP30 p 3 (Lsome C) (cons3 (v3 0) (cons3 (v3 2) (cons3 (op3 addP (k3 (.int 1)) (fnP30 p 2 take3 (cons3 (v3 0) (cons3 (k3 (.int 3)) nil3)) [])) nil3))) []) [5]) nil3)) (name3 4)) (ret3 (tup3 (cons3 (v3 2) (cons3 (v3 3) (cons3 (v3 4) (cons3 (tup3 nil3) nil3)))))))))
def LformD (C:Cs):F3:=fun ds Q X=>match ds with | .ref p::r=>LformB C p {nx:=fun _=>Q .non,rt:=Q,xn:=fun _=>X} (start3 6 (.ref p::r)) | _=>False
theorem Lform_ex (C:Cs):∃f:F3,f=LformD C:=⟨_,rfl⟩
noncomputable def Lform (C:Cs):F3:=Classical.choose (Lform_ex C)
theorem Lform_def (C:Cs):Lform C=LformD C:=Classical.choose_spec (Lform_ex C)
def Lname_fineB (C:Cs):S3:=(ret3 (andV3 (chain3 M3.leP M3.leP (k3 (.int 1)) (call3 len3 (cons3 (v3 0) nil3)) (k3 (.int 8))) (call3 all3 (cons3 (lc3 (iterP (v3 0)) (name3 1) yes3 (op3 (inP false) (v3 1) (k3 (.str "abcdefghijklmnopqrstuvwxyz"))) [1]) nil3))))
def Lname_fineD (C:Cs):F3:=fun ds Q X=>Lname_fineB C {nx:=fun _=>Q .non,rt:=Q,xn:=fun _=>X} (start3 2 ds)
theorem Lname_fine_ex (C:Cs):∃f:F3,f=Lname_fineD C:=⟨_,rfl⟩
noncomputable def Lname_fine (C:Cs):F3:=Classical.choose (Lname_fine_ex C)
theorem Lname_fine_def (C:Cs):Lname_fine C=Lname_fineD C:=Classical.choose_spec (Lname_fine_ex C)
def Ldue_1t_1 (C:Cs):S3:=(ret3 (tup3 (cons3 (k3 (.str "BadName")) (cons3 (v3 1) nil3))))
def Ldue_1 (C:Cs):S3:=(ifs3 (not3 (tst3 (fn3 1 (Lname_fine C) (cons3 (v3 1) nil3) []))) (Ldue_1t_1 C) next3)
def Ldue_2t_1 (C:Cs):S3:=(ret3 (tup3 (cons3 (k3 (.str "Taken")) (cons3 (v3 1) nil3))))
def Ldue_2 (C:Cs):S3:=(ifs3 (tst3 (op3 (inP false) (v3 1) (dget3 (v3 0) (k3 (.str "names"))))) (Ldue_2t_1 C) next3)
def Ldue_3t_1 (C:Cs):S3:=(ret3 (tup3 (cons3 (k3 (.str "Full")) nil3)))
def Ldue_3 (C:Cs):S3:=(ifs3 (tst3 (op3 M3.gtP (call3 len3 (cons3 (dget3 (v3 0) (k3 (.str "names"))) nil3)) (k3 (.int 5)))) (Ldue_3t_1 C) next3)
def Ldue_4t_1 (C:Cs):S3:=(ret3 (tup3 (cons3 (k3 (.str "BadColumns")) nil3)))
def Ldue_4 (C:Cs):S3:=(ifs3 (tst3 (op3 M3.ltP (lenSet3 (op3 ixP (v3 2) (k3 (.int 0)))) (call3 len3 (cons3 (op3 ixP (v3 2) (k3 (.int 0))) nil3)))) (Ldue_4t_1 C) next3)
def Ldue_5t_1 (C:Cs):S3:=(ret3 (tup3 (cons3 (k3 (.str "BadKey")) nil3)))
def Ldue_5 (C:Cs):S3:=(ifs3 (or3 (tst3 (op3 eqP (op3 ixP (v3 2) (k3 (.int 1))) (tup3 nil3))) (tst3 (op3 M3.ltP (lenSet3 (op3 ixP (v3 2) (k3 (.int 1)))) (call3 len3 (cons3 (op3 ixP (v3 2) (k3 (.int 1))) nil3))))) (Ldue_5t_1 C) next3)
def Ldue_6b_1t_1 (C:Cs):S3:=(ret3 (tup3 (cons3 (k3 (.str "BadRefer")) nil3)))
def Ldue_6b_1 (C:Cs):S3:=(ifs3 (not3 (tst3 (fn3 1 (Lname_fine C) (cons3 (v3 4) nil3) []))) (Ldue_6b_1t_1 C) next3)
def Ldue_6b (C:Cs):S3:=(Ldue_6b_1 C)
def Ldue_6 (C:Cs):S3:=(for3 (iterP (op3 ixP (v3 2) (k3 (.int 3)))) (gtup3 2 (gcons3 (name3 3) (gcons3 (name3 4) gnil3))) (Ldue_6b C))
def Ldue_7b_1t_1 (C:Cs):S3:=(ret3 (tup3 (cons3 (k3 (.str "NoTable")) (cons3 (v3 4) nil3))))
def Ldue_7b_1 (C:Cs):S3:=(ifs3 (and3 (tst3 (op3 neP (v3 4) (v3 1))) (tst3 (op3 (inP true) (v3 4) (dget3 (v3 0) (k3 (.str "names")))))) (Ldue_7b_1t_1 C) next3)
def Ldue_7b_2t_1 (C:Cs):S3:=(ret3 (tup3 (cons3 (k3 (.str "BadRefer")) nil3)))
def Ldue_7b_2 (C:Cs):S3:=(ifs3 (tst3 (op3 neP (call3 len3 (cons3 (v3 3) nil3)) (call3 len3 (cons3 (if3 (tst3 (op3 eqP (v3 4) (v3 1))) (op3 ixP (v3 2) (k3 (.int 1))) (op3 ixP (dget3 (dget3 (v3 0) (k3 (.str "forms"))) (v3 4)) (k3 (.int 1)))) nil3)))) (Ldue_7b_2t_1 C) next3)
def Ldue_7b (C:Cs):S3:=(seq3 (Ldue_7b_1 C) (Ldue_7b_2 C))
def Ldue_7 (C:Cs):S3:=(for3 (iterP (op3 ixP (v3 2) (k3 (.int 3)))) (gtup3 2 (gcons3 (name3 3) (gcons3 (name3 4) gnil3))) (Ldue_7b C))
def Ldue_8 (C:Cs):S3:=(ret3 (tup3 (cons3 (k3 (.str "none")) nil3)))
def LdueB (C:Cs):S3:=(seq3 (Ldue_1 C) (seq3 (Ldue_2 C) (seq3 (Ldue_3 C) (seq3 (Ldue_4 C) (seq3 (Ldue_5 C) (seq3 (Ldue_6 C) (seq3 (Ldue_7 C) (Ldue_8 C))))))))
def LdueD (C:Cs):F3:=fun ds Q X=>LdueB C {nx:=fun _=>Q .non,rt:=Q,xn:=fun _=>X} (start3 5 ds)
theorem Ldue_ex (C:Cs):∃f:F3,f=LdueD C:=⟨_,rfl⟩
noncomputable def Ldue (C:Cs):F3:=Classical.choose (Ldue_ex C)
theorem Ldue_def (C:Cs):Ldue C=LdueD C:=Classical.choose_spec (Ldue_ex C)
def Lmade_so_1t_1 (C:Cs):S4:=(ret4 (pu (k3 (.bl false))))
def Lmade_so_1 (C:Cs):S4:=(ifs4 (not4 (vwKB4 ⟨false,true,[C.at_ "Plan"]⟩ 4 [0,1] (tst3 (fn3 2 (Lsame C 12) (cons3 (ofL3 (meth3 (C.at_ "Plan") "tables" 1 (Plan_tables C) (v3 0) nil3 [])) (cons3 (dget3 (v3 1) (k3 (.str "names"))) nil3)) [])))) (Lmade_so_1t_1 C) next4)
def Lmade_so_2 (C:Cs):S4:=(drop4 (app4 (vwKC4 ⟨false,true,[C.at_ "Plan"]⟩ 4 [0] (meth3 (C.at_ "Plan") "tables" 1 (Plan_tables C) (v3 0) nil3 [])) (pu (k3 (.str "zz")))))
def Lmade_so_3b_1 (C:Cs):S4:=(asg4 (methC4 (C.at_ "Plan") "form" 2 (Plan_form C) (pu (v3 0)) (cons4 (pu (v3 2)) nil4) []) (name3 3))
def Lmade_so_3b_2t_1 (C:Cs):S4:=(ret4 (pu (k3 (.bl false))))
def Lmade_so_3b_2 (C:Cs):S4:=(ifs4 (not4 (vwKB4 ⟨false,true,[]⟩ 2 [1] (tst3 (fn3 2 (Lsame C 12) (cons3 (lst3 (cons3 (fld3 [C.at_ "Form"] "columns" (v3 3)) (cons3 (fld3 [C.at_ "Form"] "key" (v3 3)) (cons3 (fld3 [C.at_ "Form"] "others" (v3 3)) (cons3 (fld3 [C.at_ "Form"] "refers" (v3 3)) nil3))))) (cons3 (call3 list3 (cons3 (dget3 (dget3 (v3 1) (k3 (.str "forms"))) (v3 2)) nil3)) nil3)) [])))) (Lmade_so_3b_2t_1 C) next4)
def Lmade_so_3b (C:Cs):S4:=(seq4 (Lmade_so_3b_1 C) (Lmade_so_3b_2 C))
def Lmade_so_3 (C:Cs):S4:=(for4E (iterP4 (dg4 (pu (v3 1)) (pu (k3 (.str "names"))))) (name3 2) (Lmade_so_3b C))
def Lmade_so_4b_1 (C:Cs):S4:=(drop4 (app4 (dg4 (methC40 (C.at_ "Plan") "empty" 1 (Plan_empty C) (pu (v3 0)) nil4 []) (pu (v3 2))) (pu (tup3 (cons3 (k3 (.int 1)) nil3)))))
def Lmade_so_4b (C:Cs):S4:=(Lmade_so_4b_1 C)
def Lmade_so_4 (C:Cs):S4:=(for4E (iterP4 (dg4 (pu (v3 1)) (pu (k3 (.str "names"))))) (name3 2) (Lmade_so_4b C))
def Lmade_so_5 (C:Cs):S4:=(asg4 (methC40 (C.at_ "Plan") "empty" 1 (Plan_empty C) (pu (v3 0)) nil4 []) (name3 4))
def Lmade_so_6 (C:Cs):S4:=(asg4 (vwKC4 ⟨false,true,[]⟩ 2 [1] (call3 dict3 (cons3 (lc3 (iterP (dget3 (v3 1) (k3 (.str "names")))) (name3 2) yes3 (tup3 (cons3 (v3 2) (cons3 (lst3 nil3) nil3))) [2]) nil3))) (name3 5))
def Lmade_so_7 (C:Cs):S4:=(gvS4 5 1 (gvS4 4 2 (ret4 (vwK4 ⟨false,true,[C.at_ "Plan"]⟩ 4 [0] (andV3 (call3 isi3 (cons3 (v3 4) (cons3 (k3 (.ty "dict")) nil3))) (andV3 (op3 eqSm3 (v3 4) (v3 5)) (andV3 (op3 eqP (meth3 (C.at_ "Plan") "rules" 1 (Plan_rules C) (v3 0) nil3 []) (lst3 nil3)) (op3 eqP (meth3 (C.at_ "Plan") "follows" 1 (Plan_follows C) (v3 0) nil3 []) (lst3 nil3)))))))))
def Lmade_soB (C:Cs):S4:=(seq4 (Lmade_so_1 C) (seq4 (Lmade_so_2 C) (seq4 (Lmade_so_3 C) (seq4 (Lmade_so_4 C) (seq4 (Lmade_so_5 C) (seq4 (Lmade_so_6 C) (Lmade_so_7 C)))))))
def Lmade_soD (C:Cs):F4:=fun ds M Q X=>Lmade_soB C {nx:=fun _ M=>Q .non M,rt:=Q,xn:=fun _=>X} (start3 6 ds) M
theorem Lmade_so_ex (C:Cs):∃f:F4,f=Lmade_soD C:=⟨_,rfl⟩
noncomputable def Lmade_so (C:Cs):F4:=Classical.choose (Lmade_so_ex C)
theorem Lmade_so_def (C:Cs):Lmade_so C=Lmade_soD C:=Classical.choose_spec (Lmade_so_ex C)
def law_1 (C:Cs) (p:Addr):S4:=(asg4 (mkC40 1 (C.at_ "Plan") (Plan_init C) nil4 []) (name3 2))
def law_2 (C:Cs) (p:Addr):S4:=(asg4 (dispC4 [("names",(pu (lst3 nil3))),("forms",(newD4 newD3))]) (name3 3))
def law_3 (C:Cs) (p:Addr):S4:=(asg4 (pu (fnP30 p 2 (Lnames C) (cons3 (v3 1) (cons3 (k3 (.int 9)) nil3)) [])) (name3 4))
def law_4b_1 (C:Cs) (p:Addr):S4:=(asg4 (pu (op3 ixP (op3 addP (v3 4) (lst3 (cons3 (k3 (.str "")) (cons3 (k3 (.str "A")) nil3)))) (fnP30 p 2 take3 (cons3 (v3 1) (cons3 (op3 addP (k3 (.int 9)) (op3 mulP (k3 (.int 2)) (fnP30 p 2 take3 (cons3 (v3 1) (cons3 (k3 (.int 2)) nil3)) []))) nil3)) []))) (name3 6))
def law_4b_2 (C:Cs) (p:Addr):S4:=(asg4 (pu (fnP30 p 2 (Lform C) (cons3 (v3 1) (cons3 (k3 (.int 4)) nil3)) [])) (gtup3 4 (gcons3 (name3 7) (gcons3 (name3 8) (gcons3 (name3 9) (gcons3 (name3 10) gnil3))))))
def law_4b_3b_1 (C:Cs) (p:Addr):S4:=(asg4 (op4 addP (dg4 (pu (v3 3)) (pu (k3 (.str "names")))) (pu (lst3 (cons3 (v3 6) (cons3 (op3 ixP (v3 4) (fnP30 p 2 take3 (cons3 (v3 1) (cons3 (k3 (.int 9)) nil3)) [])) (cons3 (op3 ixP (v3 4) (k3 (.int 8))) (cons3 (k3 (.str "B")) nil3))))))) (name3 12))
def law_4b_3b_2 (C:Cs) (p:Addr):S4:=(asg4 (pu (op3 ixP (v3 12) (fnP30 p 2 take3 (cons3 (v3 1) (cons3 (call3 len3 (cons3 (v3 12) nil3)) nil3)) []))) (name3 13))
def law_4b_3b_3 (C:Cs) (p:Addr):S4:=(asg4 (pu (op3 addP (v3 10) (tup3 (cons3 (tup3 (cons3 (fnP30 p 3 (Lsome C) (cons3 (v3 1) (cons3 (v3 7) (cons3 (op3 addP (k3 (.int 1)) (fnP30 p 2 take3 (cons3 (v3 1) (cons3 (k3 (.int 2)) nil3)) [])) nil3))) []) (cons3 (v3 13) nil3))) nil3)))) (name3 10))
def law_4b_3b (C:Cs) (p:Addr):S4:=(seq4 (law_4b_3b_1 C p) (seq4 (law_4b_3b_2 C p) (law_4b_3b_3 C p)))
def law_4b_3 (C:Cs) (p:Addr):S4:=(for4 (iterR3 (cons3 (fnP30 p 2 take3 (cons3 (v3 1) (cons3 (k3 (.int 3)) nil3)) []) nil3)) (name3 11) (law_4b_3b C p))
def law_4b_4 (C:Cs) (p:Addr):S4:=(asg4 (pu (fnP30 p 2 take3 (cons3 (v3 1) (cons3 (k3 (.int 9)) nil3)) [])) (name3 14))
def law_4b_5t_1 (C:Cs) (p:Addr):S4:=(asg4 (pu (op3 addP (v3 7) (sl3 slP (v3 7) no3 (part3 (k3 (.int 1)))))) (name3 7))
def law_4b_5 (C:Cs) (p:Addr):S4:=(ifs4 (pu (tst3 (op3 eqP (v3 14) (k3 (.int 0))))) (law_4b_5t_1 C p) next4)
def law_4b_6t_1 (C:Cs) (p:Addr):S4:=(asg4 (pu (op3 ixP (lst3 (cons3 (tup3 nil3) (cons3 (op3 addP (v3 8) (sl3 slP (v3 8) no3 (part3 (k3 (.int 1))))) nil3))) (fnP30 p 2 take3 (cons3 (v3 1) (cons3 (k3 (.int 2)) nil3)) []))) (name3 8))
def law_4b_6 (C:Cs) (p:Addr):S4:=(ifs4 (pu (tst3 (op3 M3.ltP (v3 14) (k3 (.int 2))))) (law_4b_6t_1 C p) next4)
def law_4b_7 (C:Cs) (p:Addr):S4:=(asg4 (pu (tup3 (cons3 (v3 7) (cons3 (v3 8) (cons3 (v3 9) (cons3 (v3 10) nil3)))))) (name3 15))
def law_4b_8 (C:Cs) (p:Addr):S4:=(asg4 (vwK4 ⟨false,true,[]⟩ 2 [3] (fn30 3 (Ldue C) (cons3 (v3 3) (cons3 (v3 6) (cons3 (v3 15) nil3))) [])) (name3 16))
def law_4b_9 (C:Cs) (p:Addr):S4:=(asg4 (whyC4 C.em (whyT C) "none" (methCKX4 (C.at_ "Plan") "make" 6 (Plan_make C) (fun ds es=>sel [0,1,2,3,4,5] (ds++([]++es))) 3 3 (pu (v3 2)) (cons4 (pu (v3 6)) (cons4 (pu (v3 7)) nil4)) (cons4 (pu (v3 8)) (cons4 (pu (v3 9)) (cons4 (pu (v3 10)) nil4))))) (name3 17))
def law_4b_10t_1 (C:Cs) (p:Addr):S4:=(ret4 (pu (k3 (.bl false))))
def law_4b_10 (C:Cs) (p:Addr):S4:=(ifs4 (pu (not3 (tst3 (fn30 2 (Lsame C 12) (cons3 (v3 17) (cons3 (v3 16) nil3)) [])))) (law_4b_10t_1 C p) next4)
def law_4b_11t_1 (C:Cs) (p:Addr):S4:=(put4 (pu (v3 3)) (pu (k3 (.str "names"))) (op4 addP (dg4 (pu (v3 3)) (pu (k3 (.str "names")))) (pu (lst3 (cons3 (v3 6) nil3)))))
def law_4b_11t_2 (C:Cs) (p:Addr):S4:=(put4 (dg4 (pu (v3 3)) (pu (k3 (.str "forms")))) (pu (v3 6)) (pu (v3 15)))
def law_4b_11 (C:Cs) (p:Addr):S4:=(ifs4 (pu (tst3 (op3 eqP (v3 16) (tup3 (cons3 (k3 (.str "none")) nil3))))) (seq4 (law_4b_11t_1 C p) (law_4b_11t_2 C p)) next4)
def law_4b_12 (C:Cs) (p:Addr):S4:=(asg4 (pu (op3 ixP (v3 4) (fnP30 p 2 take3 (cons3 (v3 1) (cons3 (k3 (.int 9)) nil3)) []))) (name3 18))
def law_4b_13 (C:Cs) (p:Addr):S4:=(asg4 (vwK4 ⟨false,true,[]⟩ 2 [3] (if3 (tst3 (op3 (inP false) (v3 18) (dget3 (v3 3) (k3 (.str "names"))))) (tup3 (cons3 (k3 (.str "none")) nil3)) (tup3 (cons3 (k3 (.str "NoTable")) (cons3 (v3 18) nil3))))) (name3 19))
def law_4b_14t_1 (C:Cs) (p:Addr):S4:=(ret4 (pu (k3 (.bl false))))
def law_4b_14 (C:Cs) (p:Addr):S4:=(ifs4 (or4 (not4 (tst4 (fn34 2 (Lsame C 12) (cons4 (whyC4 C.em (whyT C) "none" (methC4 (C.at_ "Plan") "form" 2 (Plan_form C) (pu (v3 2)) (cons4 (pu (v3 18)) nil4) [])) (cons4 (pu (v3 19)) nil4)) []))) (not4 (tst4 (fn40 2 (Lmade_so C) (cons4 (pu (v3 2)) (cons4 (pu (v3 3)) nil4)) [])))) (law_4b_14t_1 C p) next4)
def law_4b (C:Cs) (p:Addr):S4:=(seq4 (law_4b_1 C p) (seq4 (law_4b_2 C p) (seq4 (law_4b_3 C p) (seq4 (law_4b_4 C p) (seq4 (law_4b_5 C p) (seq4 (law_4b_6 C p) (seq4 (law_4b_7 C p) (seq4 (law_4b_8 C p) (seq4 (law_4b_9 C p) (seq4 (law_4b_10 C p) (seq4 (law_4b_11 C p) (seq4 (law_4b_12 C p) (seq4 (law_4b_13 C p) (law_4b_14 C p))))))))))))))
def law_4 (C:Cs) (p:Addr):S4:=(for4 (iterR3 (cons3 (fnP30 p 2 take3 (cons3 (v3 1) (cons3 (k3 (.int 12)) nil3)) []) nil3)) (name3 5) (law_4b C p))
def law_5 (C:Cs) (p:Addr):S4:=(ret4 (pu (k3 (.bl true))))
def lawB (C:Cs) (p:Addr):S4:=(seq4 (law_1 C p) (seq4 (law_2 C p) (seq4 (law_3 C p) (seq4 (law_4 C p) (law_5 C p)))))
def Plain (C:Cs):Prop:=∀p:Addr,lawB C p {nx:=fun _ _=>False,rt:=fun d _=>d= .bl true} (Sl.no::Sl.val (.ref p)::List.replicate 18 Sl.no) (fun _=>none)
end Law
namespace Law
open PySem L2 M3
def top (i:Nat):Stmt:=PySem.Challenge.pw_onepour_k24_tables_of_a_plan.main.body.getD i (.Pass ⟨0,0,0,0⟩)
abbrev s_is_name:Stmt:=top 13
abbrev N_is_name:List Str:=["thing","sign"]
theorem sc_is_name:FnScope N_is_name ["thing"] (defScope s_is_name):=⟨rfl,rfl,rfl,by decide +kernel,rfl,by decide +kernel,by decide +kernel⟩
abbrev s_are_columns:Stmt:=top 16
abbrev N_are_columns:List Str:=["thing","most","name"]
theorem sc_are_columns:FnScope N_are_columns ["thing","most"] (defScope s_are_columns):=⟨rfl,rfl,rfl,by decide +kernel,rfl,by decide +kernel,by decide +kernel⟩
abbrev s_is_part:Stmt:=top 17
abbrev N_is_part:List Str:=["thing","columns","name"]
theorem sc_is_part:FnScope N_is_part ["thing","columns"] (defScope s_is_part):=⟨rfl,rfl,rfl,by decide +kernel,rfl,by decide +kernel,by decide +kernel⟩
abbrev s_Form_init:Stmt:=inClass (top 18) 0
abbrev N_Form_init:List Str:=["self","columns","key","others","refers","refer","other"]
theorem sc_Form_init:FnScope N_Form_init ["self","columns","key","others","refers"] (defScope s_Form_init):=⟨rfl,rfl,rfl,by decide +kernel,rfl,by decide +kernel,by decide +kernel⟩
abbrev s_Plan_init:Stmt:=inClass (top 23) 0
abbrev N_Plan_init:List Str:=["self"]
theorem sc_Plan_init:FnScope N_Plan_init ["self"] (defScope s_Plan_init):=⟨rfl,rfl,rfl,by decide +kernel,rfl,by decide +kernel,by decide +kernel⟩
abbrev s_Plan_tables:Stmt:=inClass (top 23) 2
abbrev N_Plan_tables:List Str:=["self"]
theorem sc_Plan_tables:FnScope N_Plan_tables ["self"] (defScope s_Plan_tables):=⟨rfl,rfl,rfl,by decide +kernel,rfl,by decide +kernel,by decide +kernel⟩
abbrev s_Plan_form:Stmt:=inClass (top 23) 3
abbrev N_Plan_form:List Str:=["self","name"]
theorem sc_Plan_form:FnScope N_Plan_form ["self","name"] (defScope s_Plan_form):=⟨rfl,rfl,rfl,by decide +kernel,rfl,by decide +kernel,by decide +kernel⟩
abbrev s_Plan_make:Stmt:=inClass (top 23) 4
abbrev N_Plan_make:List Str:=["self","name","columns","key","others","refers","form","some","table","wide"]
theorem sc_Plan_make:FnScope N_Plan_make ["self","name","columns","key","others","refers"] (defScope s_Plan_make):=⟨rfl,rfl,rfl,by decide +kernel,rfl,by decide +kernel,by decide +kernel⟩
abbrev s_Plan_rules:Stmt:=inClass (top 23) 8
abbrev N_Plan_rules:List Str:=["self","name"]
theorem sc_Plan_rules:FnScope N_Plan_rules ["self"] (defScope s_Plan_rules):=⟨rfl,rfl,rfl,by decide +kernel,rfl,by decide +kernel,by decide +kernel⟩
abbrev s_Plan_follows:Stmt:=inClass (top 23) 9
abbrev N_Plan_follows:List Str:=["self","name"]
theorem sc_Plan_follows:FnScope N_Plan_follows ["self"] (defScope s_Plan_follows):=⟨rfl,rfl,rfl,by decide +kernel,rfl,by decide +kernel,by decide +kernel⟩
abbrev s_Plan_empty:Stmt:=inClass (top 23) 11
abbrev N_Plan_empty:List Str:=["self","name"]
theorem sc_Plan_empty:FnScope N_Plan_empty ["self"] (defScope s_Plan_empty):=⟨rfl,rfl,rfl,by decide +kernel,rfl,by decide +kernel,by decide +kernel⟩
abbrev s_Lsame:Stmt:=top 27
abbrev N_Lsame:List Str:=["_law_found","_law_due_here","_law_one","_law_other"]
theorem sc_Lsame:FnScope N_Lsame ["_law_found","_law_due_here"] (defScope s_Lsame):=⟨rfl,rfl,rfl,by decide +kernel,rfl,by decide +kernel,by decide +kernel⟩
abbrev s_Lnames:Stmt:=top 28
abbrev N_Lnames:List Str:=["_law_pot_here","_law_many","_law_letters","_law_stem","_law_spot","_law_begin","_law_stride","_law_k"]
theorem sc_Lnames:FnScope N_Lnames ["_law_pot_here","_law_many"] (defScope s_Lnames):=⟨rfl,rfl,rfl,by decide +kernel,rfl,by decide +kernel,by decide +kernel⟩
abbrev s_Lsome:Stmt:=top 29
abbrev N_Lsome:List Str:=["_law_pot_here","_law_things","_law_most","_law_left","_law_found","_law_turn"]
theorem sc_Lsome:FnScope N_Lsome ["_law_pot_here","_law_things","_law_most"] (defScope s_Lsome):=⟨rfl,rfl,rfl,by decide +kernel,rfl,by decide +kernel,by decide +kernel⟩
abbrev s_Lform:Stmt:=top 30
abbrev N_Lform:List Str:=["_law_pot_here","_law_most","_law_cols","_law_keyed","_law_more","_law_k"]
theorem sc_Lform:FnScope N_Lform ["_law_pot_here","_law_most"] (defScope s_Lform):=⟨rfl,rfl,rfl,by decide +kernel,rfl,by decide +kernel,by decide +kernel⟩
abbrev s_Lname_fine:Stmt:=top 31
abbrev N_Lname_fine:List Str:=["_law_name","_law_sign"]
theorem sc_Lname_fine:FnScope N_Lname_fine ["_law_name"] (defScope s_Lname_fine):=⟨rfl,rfl,rfl,by decide +kernel,rfl,by decide +kernel,by decide +kernel⟩
abbrev s_Ldue:Stmt:=top 32
abbrev N_Ldue:List Str:=["_law_model","_law_called","_law_form_here","_law_some_here","_law_target"]
theorem sc_Ldue:FnScope N_Ldue ["_law_model","_law_called","_law_form_here"] (defScope s_Ldue):=⟨rfl,rfl,rfl,by decide +kernel,rfl,by decide +kernel,by decide +kernel⟩
abbrev s_Lmade_so:Stmt:=top 33
abbrev N_Lmade_so:List Str:=["_law_plan","_law_model","_law_name","_law_made","_law_empty","_law_due_here"]
theorem sc_Lmade_so:FnScope N_Lmade_so ["_law_plan","_law_model"] (defScope s_Lmade_so):=⟨rfl,rfl,rfl,by decide +kernel,rfl,by decide +kernel,by decide +kernel⟩
abbrev s_Lwhy:Stmt:=top 34
abbrev N_Lwhy:List Str:=["_law_act","e"]
theorem sc_Lwhy:FnScope N_Lwhy ["_law_act"] (defScope s_Lwhy):=⟨rfl,rfl,rfl,by decide +kernel,rfl,by decide +kernel,by decide +kernel⟩
abbrev s_law:Stmt:=top 35
abbrev N_law:List Str:=["_law_script","_law_pot_here","_law_plan","_law_model","_law_names_here","_law_turn","_law_called","_law_cols","_law_keyed","_law_more","_law_links","_law_k","_law_some_here","_law_target","_law_kind","_law_form_here","_law_due_here","_law_found","_law_strange","_law_why_here"]
theorem sc_law:FnScope N_law ["_law_script"] (defScope s_law):=⟨rfl,rfl,rfl,by decide +kernel,rfl,by decide +kernel,by decide +kernel⟩
abbrev s_BadName_init:Stmt:=inClass (top 5) 0
abbrev N_BadName_init:List Str:=["self","name"]
theorem sc_BadName_init:FnScope N_BadName_init ["self","name"] (defScope s_BadName_init):=⟨rfl,rfl,rfl,by decide +kernel,rfl,by decide +kernel,by decide +kernel⟩
abbrev s_NoTable_init:Stmt:=inClass (top 7) 0
abbrev N_NoTable_init:List Str:=["self","name"]
theorem sc_NoTable_init:FnScope N_NoTable_init ["self","name"] (defScope s_NoTable_init):=⟨rfl,rfl,rfl,by decide +kernel,rfl,by decide +kernel,by decide +kernel⟩
abbrev s_Taken_init:Stmt:=inClass (top 6) 0
abbrev N_Taken_init:List Str:=["self","name"]
theorem sc_Taken_init:FnScope N_Taken_init ["self","name"] (defScope s_Taken_init):=⟨rfl,rfl,rfl,by decide +kernel,rfl,by decide +kernel,by decide +kernel⟩
section
variable {P:Program} {w:World} {K:PySem.W.Frag} {mg:Str→Option Value} {base:Heap}
abbrev s_Ltake:Stmt:=top 26
abbrev N_Ltake:List Str:=["_law_pot_here","_law_many","_law_cell"]
theorem sc_Ltake:FnScope N_Ltake ["_law_pot_here","_law_many"] (defScope s_Ltake):=⟨rfl,rfl,rfl,by decide +kernel,rfl,by decide +kernel,by decide +kernel⟩
theorem ok_Ltake {f:Addr} {fd:FuncData} (F:Fun K "_law_take" "_law_take" s_Ltake f fd) (zlen:mg "len"=none):FnOk P w K mg base CX0 1 f fd ["_law_pot_here","_law_many"] spTake:=by
 refine F.ok sc_Ltake (fun vs H Q E h=> ?_) (fun cdv A outer s H vs Q E hr h=> ?_)
 · obtain ⟨p,cc,m,rfl,_⟩:=h
   rfl
 · obtain ⟨p,cc,m,rfl,⟨cs,i,n,sd,hp,hc,i0,i1,hl,hz,s0,s1⟩,m0,m1,k⟩:=h
   have ne:p≠cc:=PotAt.ne ⟨cs,i,n,sd,hp,hc,i0,i1,hl,hz,s0,s1⟩
   refine ⟨_,pss_cons (ps_augS (pv 0) pe_int get_list pe_int ip_add set_list)
    (pss_cons (ps_set (i:=2) sc_Ltake.nd rfl (Or.inl rfl) (pe_ix ix_list (pe_ix ix_list (pv 0) pe_int (fun _ _=>rfl)) (pe_ix ix_list (pv 0) pe_int (fun _ _=>rfl)) (fun _ _=>rfl)))
    (pss_cons (ps_if (pt_cmpR op_ge (pv 2) (pe_op op_pow pe_int pe_int) (nomark _))
      (pss_cons (ps_asg (pe_op op_fdivW (pv 2) (pv 1)) (pg_sub (pe_ix ix_list (pv 0) pe_int (fun _ _=>rfl)) (pe_ix ix_list (pv 0) pe_int (fun _ _=>rfl)) set_list))
      (pss_one (ps_ret (pe_op op_mod (pv 2) (pv 1))))) pss_nil)
    (pss_cons (ps_asg (pe_op op_mod (pe_op op_add (pe_ix ix_list (pv 0) pe_int (fun _ _=>rfl)) pe_int) (pe_callB call_len_seq (by rfl) zlen (by decide +kernel) (pa_cons (pe_ix ix_list (pv 0) pe_int (fun _ _=>rfl)) pa_nil))) (pg_sub (pv 0) pe_int set_list))
    (pss_cons (ps_asg (pe_op op_mod (pe_op op_add (pe_op op_add (pe_op op_mul (pe_ix ix_list (pv 0) pe_int (fun _ _=>rfl)) pe_int) (pe_op op_mod (pv 2) pe_int)) (pe_ix ix_list (pv 0) pe_int (fun _ _=>rfl))) pe_int) (pg_sub (pv 0) pe_int set_list))
    (pss_one (ps_ret (pe_op op_mod (pe_op op_fdiv (pe_ix ix_list (pv 0) pe_int (fun _ _=>rfl)) pe_int) (pv 1)))))))), ?_⟩
   refine ⟨_,rfl,p,_,2,_,rfl,rfl,SqL.of hp,rfl,_,_,rfl,rfl,p,_,2,2,rfl,rfl,hp,rfl, ?_⟩
   have hp1:(upd H p (.lst [.ref cc,.int i,.int (n+1),.int sd])) p=some (.lst [.ref cc,.int i,.int (n+1),.int sd]):=upd_same
   have hc1:(upd H p (.lst [.ref cc,.int i,.int (n+1),.int sd])) cc=some (.lst (cs.map V.int)):=by rw [upd_ne ne.symm];exact hc
   obtain ⟨j,hj⟩:∃j:Nat,i=(j:Int):=⟨i.toNat,by omega⟩
   subst hj
   have hjl:j<cs.length:=by omega
   obtain ⟨z,ez⟩:∃z,cs[j]? =some z:=⟨cs[j],List.getElem?_eq_getElem hjl⟩
   have ez':(cs.map V.int)[j]? =some (V.int z):=by rw [List.getElem?_map,ez];rfl
   have z0:0≤z:=hz z (List.mem_of_getElem? ez)
   refine ⟨_,rfl,p,_,0,_,rfl,rfl,SqL.of hp1,rfl,_,rfl,p,_,1,_,rfl,rfl,SqL.of hp1,rfl,cc,_,_,_,rfl,rfl,SqL.of hc1,atI_nat ez', ?_⟩
   refine ⟨_,rfl,_,_,rfl,rfl,⟨by decide,by decide,by decide⟩,_,_,rfl,rfl,_,rfl, ?_⟩
   refine ite2 (fun _=> ?_) (fun _=> ?_)
   ·
    refine ⟨_,rfl,_,rfl,_,_,rfl,rfl,wide_div (b:=200) m0 (by omega) (by decide) (by decide), ?_⟩
    refine ⟨_,rfl,p,_,0,_,rfl,rfl,SqL.of hp1,rfl,_,rfl,p,_,1,_,rfl,rfl,SqL.of hp1,rfl,cc,_,_,j,rfl,rfl,hc1, ?_, ?_⟩
    · rw [List.length_map]
      unfold ixN
      rw [if_pos (by omega),if_pos (by omega)]
      simp
    refine ⟨_,rfl,_,rfl,_,_,rfl,rfl,m0, ?_⟩
    refine k _ _ (Int.emod_nonneg _ (by omega)) (Int.emod_lt_of_pos _ m0) ⟨cs.set j (z / m),(j:Int),n+1,sd, ?_, ?_,i0,by rw [List.length_set];exact i1,by rw [List.length_set];exact hl, ?_,s0,s1⟩ (fun a h1 h2=>by rw [upd_ne h2,upd_ne h1])
    · rw [upd_ne ne];exact hp1
    · rw [upd_same,List.map_set]
    · intro y hy
      rcases List.mem_or_eq_of_mem_set hy with hy | hy
      · exact hz y hy
      · rw [hy];exact Int.ediv_nonneg z0 (by omega)
   ·
    have hcl:(0:Int)<(cs.map V.int).length:=by rw [List.length_map];omega
    refine ⟨_,rfl,p,_,1,_,rfl,rfl,SqL.of hp1,rfl,_,_,rfl,rfl,_,rfl,p,_,0,_,rfl,rfl,SqL.of hp1,rfl,cc,_,rfl,.inl (SqL.of hc1),_,_,rfl,rfl,hcl, ?_⟩
    refine ⟨_,rfl,p,_,1,1,rfl,rfl,hp1,rfl, ?_⟩
    have hp2:(upd (upd H p (.lst [.ref cc,.int (j:Int),.int (n+1),.int sd])) p (.lst [.ref cc,.int (((j:Int)+1) % ((cs.map V.int).length:Int)),.int (n+1),.int sd])) p=some (.lst [.ref cc,.int (((j:Int)+1) % ((cs.map V.int).length:Int)),.int (n+1),.int sd]):=upd_same
    refine ⟨_,rfl,p,_,3,_,rfl,rfl,SqL.of hp2,rfl,_,_,rfl,rfl,.inr ⟨by decide,by decide⟩,_,rfl,_,_,rfl,rfl,(by show (0:Int)<2147483647;decide),_,_,rfl,rfl,_,rfl,p,_,2,_,rfl,rfl,SqL.of hp2,rfl,_,_,rfl,rfl,_,_,rfl,rfl,(by show (0:Int)<2147483647;decide), ?_⟩
    refine ⟨_,rfl,p,_,3,3,rfl,rfl,hp2,rfl, ?_⟩
    refine ⟨_,rfl,p,_,3,_,rfl,rfl,SqL.of upd_same,rfl,_,_,rfl,rfl,⟨by decide,by decide⟩,_,rfl,_,_,rfl,rfl,m0, ?_⟩
    refine k _ _ (Int.emod_nonneg _ (by omega)) (Int.emod_lt_of_pos _ m0) ⟨cs,_,n+1,_,upd_same, ?_, ?_, ?_,hl,hz, ?_, ?_⟩ (fun a h1 h2=>by rw [upd_ne h1,upd_ne h1,upd_ne h1])
    · rw [upd_ne ne.symm,upd_ne ne.symm];exact hc1
    · exact Int.emod_nonneg _ (by omega)
    · rw [List.length_map];exact Int.emod_lt_of_pos _ (by omega)
    · exact Int.emod_nonneg _ (by omega)
    · exact Int.emod_lt_of_pos _ (by omega)
def spPot (K:PySem.W.Frag):Sp:=fun vs H Q _=>∃(a:Addr) (ns:List Int),vs=[.ref a]∧SqL K H a (ns.map V.int)∧∀p cc H',H p=none→H cc=none→PotAt p cc H'→Same H H'→Q (.ref p) H'
abbrev s_Lpot:Stmt:=top 25
abbrev N_Lpot:List Str:=["_law_script","_law_cells","_law_cell"]
theorem sc_Lpot:FnScope N_Lpot ["_law_script"] (defScope s_Lpot):=⟨rfl,rfl,rfl,by decide +kernel,rfl,by decide +kernel,by decide +kernel⟩
theorem ok_Lpot {f:Addr} {fd:FuncData} (F:Fun K "_law_pot" "_law_pot" s_Lpot f fd) (zabs:mg "abs"=none):FnOk P w K mg base CX0 1 f fd ["_law_script"] (spPot K):=by
 refine F.ok sc_Lpot (fun vs H Q E h=> ?_) (fun cdv A outer s H vs Q E hr h=> ?_)
 · obtain ⟨a,ns,rfl,_⟩:=h
   rfl
 · obtain ⟨a,ns,rfl,hS,k⟩:=h
   refine ⟨_,pss_cons (ps_setLc (i:=1) (own:=[("_law_cell",2)]) (by rfl) sc_Lpot.nd rfl rfl (sw_true rfl rfl rfl (by decide +kernel)) (pi_list (pe_slice sl_list (pv 0) po_none (po_some pe_int))) (blkOk_by (own:=[("_law_cell",2)]) (N:=N_Lpot) (sc:=defScope s_Lpot) (by decide +kernel)) (fun _ _ _ _ _=>(pg_name (i:=2) sc_Lpot.nd rfl (Or.inl rfl))) (fun _ _ _ _ _=>pts_nil) (fun _ _ _ _ _=>(pe_callB call_abs (by rfl) zabs (by decide +kernel) (pa_cons (pv 2) pa_nil))))
    (pss_cons (ps_if (pt_not (pt_truth (pv 1) (by intro _;rfl))) (pss_one (ps_set (i:=1) sc_Lpot.nd rfl (Or.inl rfl) (pe_lst (pa_cons pe_int pa_nil)))) pss_nil)
    (pss_one (ps_ret (pe_lst (pa_cons (pv 1) (pa_cons pe_int (pa_cons pe_int (pa_cons pe_int pa_nil)))))))), ?_⟩
   obtain ⟨ms,ems,lms⟩:∃ms:List Int,cutV (ns.map V.int) none (some 63)=ms.map V.int∧ms.length≤63:=by
    refine ⟨(ns.drop (HT.sIx (ns.map V.int).length 0 none)).take (HT.sIx (ns.map V.int).length (ns.map V.int).length (some 63)-HT.sIx (ns.map V.int).length 0 none), ?_, ?_⟩
    · unfold cutV
      rw [List.map_take,List.map_drop]
    · rw [List.length_take]
      have h1:=HT.sIx_nat (ns.map V.int).length (ns.map V.int).length 63
      have h2:HT.sIx (ns.map V.int).length (ns.map V.int).length (some 63)=min 63 (ns.map V.int).length:=h1
      omega
   refine ⟨_,rfl,63,rfl,a,_,rfl,hS,fun q hq=> ?_⟩
   rw [ems]
   refine ⟨q,rfl,⟨_,SqL.of upd_same⟩,fun D hD=> ?_⟩
   have nqD:q≠D:=ne_of_none upd_same hD
   have s1:Same H (upd H q (.lst (ms.map V.int))):=fun b o e=>by rw [upd_ne (ne_of_none e hq)];exact e
   have hD0:H D=none:=s1.free hD
   refine lc_list (K:=K) (a:=q) (xs:=ms.map V.int) (fun i H2=>Same H H2∧H2 q=some (.lst (ms.map V.int))∧∃as:List Int,H2 D=some (.lst (as.map V.int))∧as.length=i∧∀z∈as,0≤z) ?_ ?_ ?_ ?_
   · refine ⟨fun b o e=>by rw [upd_ne (ne_of_none e hD0)];exact s1 b o e,by rw [upd_ne nqD];exact upd_same,[],upd_same,rfl,fun z hz=>by cases hz⟩
   · rintro i H2 _ ⟨_,h2,_⟩
     exact SqL.of h2
   · rintro i x H2 hx ⟨s2,h2,as,hd,hl,hz⟩
     have hil:i<(ms.map V.int).length:=(List.getElem?_eq_some_iff.mp hx).1
     rw [List.length_map] at hil
     obtain ⟨z,rfl⟩:∃z,x=V.int z:=by
      rw [List.getElem?_map] at hx
      cases e:ms[i]? with
      | none=>rw [e] at hx;cases hx
      | some z=>rw [e] at hx;exact ⟨z,(Option.some.inj hx).symm⟩
     refine ⟨rfl, ?_⟩
     unfold tYes
     refine iteT ?_
     refine ⟨_,rfl,z,rfl,as.map V.int,hd, ?_, ?_⟩
     · rw [List.length_map]
       exact small1000 (by omega)
     · refine ⟨fun b o e=>by rw [upd_ne (ne_of_none e hD0)];exact s2 b o e,by rw [upd_ne nqD];exact h2,as++[if z<0 then -z else z],by rw [upd_same,List.map_append];rfl,by rw [List.length_append,hl];rfl,fun y hy=> ?_⟩
       rcases List.mem_append.mp hy with hy | hy
       · exact hz y hy
       · rw [List.mem_singleton.mp hy]
         split<;>omega
   · rintro H2 ⟨s2,h2,as,hd,hl,hz⟩
     rw [List.length_map] at hl
     have fin:∀(cc:Addr) (cs:List Int) (H3:Hp),H cc=none→H3 cc=some (.lst (cs.map V.int))→Same H H3→0<cs.length→cs.length≤1000→(∀z∈cs,0≤z)→
      tRet (tLst (tCons (tVar 1) (tCons (tC (V.int 0)) (tCons (tC (V.int 0)) (tCons (tC (V.int 7)) tNil))))) {nx:=fun _ H'=>Q .non H',rt:=Q} [some (.ref a),some (.ref cc),none] H3:=by
      intro cc cs H3 hcc h3 s3 l0 l1 z0
      refine ⟨_,rfl,(by show 4≤sizeLine;decide),fun p hp=> ?_⟩
      have npc:cc≠p:=ne_of_none h3 hp
      refine k p cc _ (s3.free hp) hcc ⟨cs,0,0,7,upd_same,by rw [upd_ne npc];exact h3,by decide,by omega,l1,z0,by decide,by decide⟩ (fun b o e=>by rw [upd_ne (ne_of_none (s3 b o e) hp)];exact s3 b o e)
     refine ⟨_,rfl,_,.inl ⟨_,SqL.of hd,rfl⟩, ?_⟩
     cases as with
     | nil=>
       refine iteT ?_
       refine ⟨(by show 1≤sizeLine;decide),fun c2 hc2=> ?_⟩
       exact fin c2 [0] _ (s2.free hc2) upd_same (fun b o e=>by rw [upd_ne (ne_of_none (s2 b o e) hc2)];exact s2 b o e) (by decide) (by decide) (by intro z h;rw [List.mem_singleton.mp h];decide)
     | cons z as=>
       refine iteF ?_
       exact fin D (z::as) H2 hD0 hd s2 (by simp) (by omega) hz
end
structure Top (w:World) (K:PySem.W.Frag) (mg:Str→Option Value):Prop where
 d_is_name:DefAt K mg "is_name" "is_name" s_is_name [] [] []
 d_are_columns:DefAt K mg "are_columns" "are_columns" s_are_columns [(.int 6)] [] []
 d_is_part:DefAt K mg "is_part" "is_part" s_is_part [] [] []
 d_Form_init:MethAt K ((csOf w K mg).at_ "Form") "__init__" "__init__" "Form.__init__" s_Form_init [] ["others","refers"] [(.tup []),(.tup [])]
 d_Plan_init:MethAt K ((csOf w K mg).at_ "Plan") "__init__" "__init__" "Plan.__init__" s_Plan_init [] [] []
 d_Plan_tables:MethAt K ((csOf w K mg).at_ "Plan") "tables" "tables" "Plan.tables" s_Plan_tables [] [] []
 d_Plan_form:MethAt K ((csOf w K mg).at_ "Plan") "form" "form" "Plan.form" s_Plan_form [] [] []
 d_Plan_make:MethAt K ((csOf w K mg).at_ "Plan") "make" "make" "Plan.make" s_Plan_make [] ["others","refers"] [(.tup []),(.tup [])]
 d_Plan_rules:MethAt K ((csOf w K mg).at_ "Plan") "rules" "rules" "Plan.rules" s_Plan_rules [] [] []
 d_Plan_follows:MethAt K ((csOf w K mg).at_ "Plan") "follows" "follows" "Plan.follows" s_Plan_follows [] [] []
 d_Plan_empty:MethAt K ((csOf w K mg).at_ "Plan") "empty" "empty" "Plan.empty" s_Plan_empty [] [] []
 d_Lpot:DefAt K mg "_law_pot" "_law_pot" s_Lpot [] [] []
 d_Ltake:DefAt K mg "_law_take" "_law_take" s_Ltake [] [] []
 d_Lsame:DefAt K mg "_law_same" "_law_same" s_Lsame [] [] []
 d_Lnames:DefAt K mg "_law_names" "_law_names" s_Lnames [] [] []
 d_Lsome:DefAt K mg "_law_some" "_law_some" s_Lsome [] [] []
 d_Lform:DefAt K mg "_law_form" "_law_form" s_Lform [] [] []
 d_Lname_fine:DefAt K mg "_law_name_fine" "_law_name_fine" s_Lname_fine [] [] []
 d_Ldue:DefAt K mg "_law_due" "_law_due" s_Ldue [] [] []
 d_Lmade_so:DefAt K mg "_law_made_so" "_law_made_so" s_Lmade_so [] [] []
 o_Form:ClsAt w K mg "Form"
 fn_Form:∀f,PySem.W.findIn K (.ref ((csOf w K mg).at_ "Form")) "__init__"=some (some (.ref f))→PySem.W.isFn K (.ref f)=true
 o_Plan:ClsAt w K mg "Plan"
 fn_Plan:∀f,PySem.W.findIn K (.ref ((csOf w K mg).at_ "Plan")) "__init__"=some (some (.ref f))→PySem.W.isFn K (.ref f)=true
 n_Form_columns:NoAttr K ((csOf w K mg).at_ "Form") "columns"
 n_Form_key:NoAttr K ((csOf w K mg).at_ "Form") "key"
 n_Form_others:NoAttr K ((csOf w K mg).at_ "Form") "others"
 n_Form_refers:NoAttr K ((csOf w K mg).at_ "Form") "refers"
 n_Form_tables:NoAttr K ((csOf w K mg).at_ "Form") "tables"
 n_Plan_above:NoAttr K ((csOf w K mg).at_ "Plan") "above"
 n_Plan_below:NoAttr K ((csOf w K mg).at_ "Plan") "below"
 n_Plan_forms:NoAttr K ((csOf w K mg).at_ "Plan") "forms"
 fm_Plan_tables:∀f,PySem.W.findIn K (.ref ((csOf w K mg).at_ "Plan")) "tables"=some (some (.ref f))→PySem.W.isFn K (.ref f)=true
 fm_Plan_form:∀f,PySem.W.findIn K (.ref ((csOf w K mg).at_ "Plan")) "form"=some (some (.ref f))→PySem.W.isFn K (.ref f)=true
 fm_Plan_make:∀f,PySem.W.findIn K (.ref ((csOf w K mg).at_ "Plan")) "make"=some (some (.ref f))→PySem.W.isFn K (.ref f)=true
 fm_Plan_rules:∀f,PySem.W.findIn K (.ref ((csOf w K mg).at_ "Plan")) "rules"=some (some (.ref f))→PySem.W.isFn K (.ref f)=true
 fm_Plan_follows:∀f,PySem.W.findIn K (.ref ((csOf w K mg).at_ "Plan")) "follows"=some (some (.ref f))→PySem.W.isFn K (.ref f)=true
 fm_Plan_empty:∀f,PySem.W.findIn K (.ref ((csOf w K mg).at_ "Plan")) "empty"=some (some (.ref f))→PySem.W.isFn K (.ref f)=true
 zb_abs:mg "abs"=none
 zb_all:mg "all"=none
 zb_bool:mg "bool"=none
 zb_dict:mg "dict"=none
 zb_int:mg "int"=none
 zb_isinstance:mg "isinstance"=none
 zb_len:mg "len"=none
 zb_list:mg "list"=none
 zb_min:mg "min"=none
 zb_range:mg "range"=none
 zb_set:mg "set"=none
 zb_sorted:mg "sorted"=none
 zb_str:mg "str"=none
 zb_tuple:mg "tuple"=none
 zb_zip:mg "zip"=none
 zc_MOST_TABLES:∃u v,mg "MOST_TABLES"=some u∧RelV v u∧∀H,Rep K H v (.int 6)
 v_FormError:VeiC w K mg "FormError"
 d_BadName_init:MethAt K ((csOf w K mg).at_ "BadName") "__init__" "__init__" "BadName.__init__" s_BadName_init [] [] []
 y_BadName:XCls w K mg "BadName" "name"
 d_NoTable_init:MethAt K ((csOf w K mg).at_ "NoTable") "__init__" "__init__" "NoTable.__init__" s_NoTable_init [] [] []
 y_NoTable:XCls w K mg "NoTable" "name"
 d_Taken_init:MethAt K ((csOf w K mg).at_ "Taken") "__init__" "__init__" "Taken.__init__" s_Taken_init [] [] []
 y_Taken:XCls w K mg "Taken" "name"
 xf_BadName:XfC K ((csOf w K mg).at_ "BadName")
 nf_BadName_name:PySem.W.findIn K (.ref ((csOf w K mg).at_ "BadName")) "name"=some none
 xf_Taken:XfC K ((csOf w K mg).at_ "Taken")
 nf_Taken_name:PySem.W.findIn K (.ref ((csOf w K mg).at_ "Taken")) "name"=some none
 xf_NoTable:XfC K ((csOf w K mg).at_ "NoTable")
 nf_NoTable_name:PySem.W.findIn K (.ref ((csOf w K mg).at_ "NoTable")) "name"=some none
 x_BadColumns:ExcC w K mg "BadColumns"
 x_BadKey:ExcC w K mg "BadKey"
 x_BadRefer:ExcC w K mg "BadRefer"
 x_Full:ExcC w K mg "Full"
 g_BadName:mg "BadName"=some (.ref ((csOf w K mg).at_ "BadName"))
 g_Taken:mg "Taken"=some (.ref ((csOf w K mg).at_ "Taken"))
 g_Full:mg "Full"=some (.ref ((csOf w K mg).at_ "Full"))
 g_BadColumns:mg "BadColumns"=some (.ref ((csOf w K mg).at_ "BadColumns"))
 g_BadKey:mg "BadKey"=some (.ref ((csOf w K mg).at_ "BadKey"))
 g_BadRefer:mg "BadRefer"=some (.ref ((csOf w K mg).at_ "BadRefer"))
 g_NoTable:mg "NoTable"=some (.ref ((csOf w K mg).at_ "NoTable"))
 g_PourError:mg "PourError"=some (.ref ((csOf w K mg).at_ "PourError"))
 cs:CsOk (csOf w K mg)
structure WhyD (K:PySem.W.Frag) (mg:Str→Option Value):Prop where
 ex:∃(fw:Addr) (dVw kVw docw pmw cdw ctw ocw:Value) (anw odw:Option Addr) (oslw:Array (Option Value)),mg "_law_why"=some (.ref fw)∧PySem.W.keepIn K (.ref fw)=true∧K.lookup fw=some ⟨ocw,odw,.func (PySem.W.fnOf "_law_why" "_law_why" (defArgs s_Lwhy) (defBody s_Lwhy) (defScope s_Lwhy) dVw kVw docw pmw anw cdw ctw),oslw⟩∧PySem.W.codeIn K cdw "_law_why"=true∧L2.Binds K (PySem.W.fnOf "_law_why" "_law_why" (defArgs s_Lwhy) (defBody s_Lwhy) (defScope s_Lwhy) dVw kVw docw pmw anw cdw ctw) ["_law_act"] []
structure TopU (K:PySem.W.Frag) (mg:Str→Option Value) (base:Heap) (Ts:List (Addr×Str)):Prop where
 why:WhyD K mg
section
variable {P:Program} {w:World} {K:PySem.W.Frag} {mg:Str→Option Value}
theorem cl_take (T:Top w K mg) (base:Heap):Cl P w K mg base CX0 "_law_take" 1 [] (spP K 2 take3):=by
 obtain ⟨f,fd,F,hm,_⟩:=(OkF.fun_ (P:=P) (w:=w) (base:=base) (CX:=CX0) (lv:=0) (ps:=[]) (sp:=fun _ _ _ _=>False) (by obtain ⟨f,fd,dvs,kvs,rd,rk,F,hm⟩:=T.d_Ltake.ex;exact ⟨f,fd,dvs,kvs,rd,rk,F,hm,fnOk_no fun _ _ _ _ z=>z⟩))
 exact ⟨f,fd,_,[],(ok_Ltake F T.zb_len).imp take_imp,hm,F.kp,F.binds (ps:=["_law_pot_here","_law_many"]) fun _ _ _ _ _ _ us hl=>match us,hl with | [_,_],_=>rfl,.nil⟩
theorem cl_pot (T:Top w K mg) (base:Heap):Cl P w K mg base CX0 "_law_pot" 1 [] (spPot K):=by
 obtain ⟨f,fd,F,hm,_⟩:=(OkF.fun_ (P:=P) (w:=w) (base:=base) (CX:=CX0) (lv:=0) (ps:=[]) (sp:=fun _ _ _ _=>False) (by obtain ⟨f,fd,dvs,kvs,rd,rk,F,hm⟩:=T.d_Lpot.ex;exact ⟨f,fd,dvs,kvs,rd,rk,F,hm,fnOk_no fun _ _ _ _ z=>z⟩))
 exact ⟨f,fd,_,[],ok_Lpot F T.zb_abs,hm,F.kp,F.binds (ps:=["_law_script"]) fun _ _ _ _ _ _ us hl=>match us,hl with | [_],_=>rfl,.nil⟩
theorem ok_BadName_init (T:Top w K mg) (base:Heap):MkX P w K mg base 1 "BadName" "name":=mkX_of T.d_BadName_init (ps:=["self","name"]) (fun _ _ _ _ _ _ us hl=>match us,hl with | [_,_],_=>rfl) (fun fI fd F=>F.ok sc_BadName_init (spX1_len rfl) (fun cdv A outer s H vs Q E hr h=>
 ⟨_,pss_cons (ps_expr (pe_cinit (K:=K) rfl rfl T.v_FormError (by rfl) (pa_cons (pv 0) (pa_cons (pe_joined (.cons pe_str (.cons (pe_fmt (pv 1)) .nil))) pa_nil)) (by decide))) (pss_one (ps_ostK (K:=K) rfl (pv 0) (pv 1))),bodyX1 rfl (by decide) T.y_BadName.oex T.y_BadName.no h⟩))
theorem ok_NoTable_init (T:Top w K mg) (base:Heap):MkX P w K mg base 1 "NoTable" "name":=mkX_of T.d_NoTable_init (ps:=["self","name"]) (fun _ _ _ _ _ _ us hl=>match us,hl with | [_,_],_=>rfl) (fun fI fd F=>F.ok sc_NoTable_init (spX1_len rfl) (fun cdv A outer s H vs Q E hr h=>
 ⟨_,pss_cons (ps_expr (pe_cinit (K:=K) rfl rfl T.v_FormError (by rfl) (pa_cons (pv 0) (pa_cons (pe_joined (.cons pe_str (.cons (pe_fmt (pv 1)) .nil))) pa_nil)) (by decide))) (pss_one (ps_ostK (K:=K) rfl (pv 0) (pv 1))),bodyX1 rfl (by decide) T.y_NoTable.oex T.y_NoTable.no h⟩))
theorem ok_Taken_init (T:Top w K mg) (base:Heap):MkX P w K mg base 1 "Taken" "name":=mkX_of T.d_Taken_init (ps:=["self","name"]) (fun _ _ _ _ _ _ us hl=>match us,hl with | [_,_],_=>rfl) (fun fI fd F=>F.ok sc_Taken_init (spX1_len rfl) (fun cdv A outer s H vs Q E hr h=>
 ⟨_,pss_cons (ps_expr (pe_cinit (K:=K) rfl rfl T.v_FormError (by rfl) (pa_cons (pv 0) (pa_cons (pe_joined (.cons pe_str (.cons (pe_fmt (pv 1)) .nil))) pa_nil)) (by decide))) (pss_one (ps_ostK (K:=K) rfl (pv 0) (pv 1))),bodyX1 rfl (by decide) T.y_Taken.oex T.y_Taken.no h⟩))
theorem ok_is_name (T:Top w K mg) (base:Heap):OkF P w K mg base (L2.CX P w) "is_name" "is_name" s_is_name [] [] [] 1 ["thing"] (sp3 K 1 (is_name (csOf w K mg))):=by
 obtain ⟨f,fd,dvs,kvs,rd,rk,F,hm⟩:=T.d_is_name.ex
 refine ⟨f,fd,dvs,kvs,rd,rk,F,hm,F.ok sc_is_name (sp3_len rfl) (fun cdv A outer s H vs Q E hr h=> ?_)⟩
 refine ⟨_,(pss_cons (ps_if (PW.pt (pw_or (pt_not (pt_val (pe_callB (call_isiK' (K:=K) rfl) (by rfl) T.zb_isinstance (by decide +kernel) (pa_cons (pv 0) (pa_cons (pe_bltn (v:=.ty "str") (by rfl) T.zb_str (by decide +kernel) rfl) pa_nil))))) (pw_or1 (pt_not (pt_chain (op_leP (K:=K) rfl hr.units) (op_leP (K:=K) rfl hr.units) pe_int (pe_callB (call_lenK (K:=K) rfl) (by rfl) T.zb_len (by decide +kernel) (pa_cons (pv 0) pa_nil)) pe_int))))) (pss_one (ps_ret pe_bl)) pss_nil)
  (pss_one (ps_ret (pe_callB (cr_allK (K:=K) rfl rfl) (by rfl) T.zb_all (by decide +kernel) (pa_cons (pe_lc (own:=[("sign",1)]) (g:=(gName 1)) (by rfl) sc_is_name.nd (pi_P (K:=K) rfl (pv 0)) (blkOk_by (own:=[("sign",1)]) (N:=N_is_name) (sc:=defScope s_is_name) (by decide +kernel)) (fun _ _ _ _ _=>(pg_name (i:=1) sc_is_name.nd rfl (Or.inl rfl) (Or.inr rfl))) (fun _ _ _ _ _=>pts_nil) (fun _ _ _ _ _=>(pe_cmpR (op_inP (K:=K) rfl) (pv 1) pe_str (by rfl)))) pa_nil))))), ?_⟩
 exact body3 (x:=is_nameB (csOf w K mg)) (W:=fun cls dd _ H=>E cls dd H) h (fun _ _ _ _ z=>z) (lift_seq (lift_ifs (lift_or (lift_not (lift_tB (lift_cb rl_isi (lift_cons (lift_v 0) (lift_cons (lift_ty _) lift_nil))))) (lift_not (lift_tst (lift_chain rl_leP rl_leP (lift_int _) (lift_cb rl_len (lift_cons (lift_v 0) lift_nil)) (lift_int _))))) (lift_ret (lift_bl _)) lift_next)
  (lift_ret (lift_cb rl_all (lift_cons (lift_lc (vs:=[1]) (lift_iP (lift_v 0)) (lift_name 1 (by decide)) lift_yes (lift_op (rl_inP false) (lift_v 1) (lift_str _)) (fun _ _ _ _ _ z=>z)) lift_nil)))) (fun ds Q3 X _ hf=>by rw [is_name_def] at hf;exact hf)
theorem ok_are_columns (T:Top w K mg) (base:Heap):OkF P w K mg base (L2.CX P w) "are_columns" "are_columns" s_are_columns [(.int 6)] [] [] 2 ["thing","most"] (sp3 K 2 (are_columns (csOf w K mg))):=by
 obtain ⟨v_is_name_1,h_is_name_1,c_is_name_1⟩:=((ok_is_name T base (P:=P) (w:=w)).cl (fun _ _ _ _ _ _ us hl=>match us,hl with | [_],_=>rfl)).ex
 obtain ⟨f,fd,dvs,kvs,rd,rk,F,hm⟩:=T.d_are_columns.ex
 refine ⟨f,fd,dvs,kvs,rd,rk,F,hm,F.ok sc_are_columns (sp3_len rfl) (fun cdv A outer s H vs Q E hr h=> ?_)⟩
 refine ⟨_,(pss_cons (ps_if (PW.pt (pw_or (pt_not (pt_val (pe_callB (call_isiK' (K:=K) rfl) (by rfl) T.zb_isinstance (by decide +kernel) (pa_cons (pv 0) (pa_cons (pe_bltn (v:=.ty "tuple") (by rfl) T.zb_tuple (by decide +kernel) rfl) pa_nil))))) (pw_or1 (pt_not (pt_chain (op_leP (K:=K) rfl hr.units) (op_leP (K:=K) rfl hr.units) pe_int (pe_callB (call_lenK (K:=K) rfl) (by rfl) T.zb_len (by decide +kernel) (pa_cons (pv 0) pa_nil)) (pv 1)))))) (pss_one (ps_ret pe_bl)) pss_nil)
  (pss_one (ps_ret (pe_and (pe_callB (cr_allK (K:=K) rfl rfl) (by rfl) T.zb_all (by decide +kernel) (pa_cons (pe_lc (own:=[("name",2)]) (g:=(gName 2)) (by rfl) sc_are_columns.nd (pi_P (K:=K) rfl (pv 0)) (blkOk_by (own:=[("name",2)]) (N:=N_are_columns) (sc:=defScope s_are_columns) (by decide +kernel)) (fun _ _ _ _ _=>(pg_name (i:=2) sc_are_columns.nd rfl (Or.inl rfl) (Or.inr rfl))) (fun _ _ _ _ _=>pts_nil) (fun _ _ _ _ _=>(pe_cl c_is_name_1 (hr.mono (by omega)) (by rfl) passL (pa_cons (pv 2) pa_nil)))) pa_nil)) (pe_one (pe_cmpR (op_eqP (K:=K) rfl hr.units) (pe_lenSetT (K:=K) rfl rfl (by rfl) T.zb_len (by rfl) T.zb_set (pv 0)) (pe_callB (call_lenK (K:=K) rfl) (by rfl) T.zb_len (by decide +kernel) (pa_cons (pv 0) pa_nil)) (nomark _))))))), ?_⟩
 exact body3 (x:=are_columnsB (csOf w K mg)) (W:=fun cls dd _ H=>E cls dd H) h (fun _ _ _ _ z=>z) (lift_seq (lift_ifs (lift_or (lift_not (lift_tB (lift_cb rl_isi (lift_cons (lift_v 0) (lift_cons (lift_ty _) lift_nil))))) (lift_not (lift_tst (lift_chain rl_leP rl_leP (lift_int _) (lift_cb rl_len (lift_cons (lift_v 0) lift_nil)) (lift_v 1))))) (lift_ret (lift_bl _)) lift_next)
  (lift_ret (lift_andV (lift_cb rl_all (lift_cons (lift_lc (vs:=[2]) (lift_iP (lift_v 0)) (lift_name 2 (by decide)) lift_yes (lift_call0 (lift_cons (lift_v 2) lift_nil) h_is_name_1) (fun _ _ _ _ _ z=>z)) lift_nil)) (lift_op rl_eqP (lift_lenSet (lift_v 0)) (lift_cb rl_len (lift_cons (lift_v 0) lift_nil)))))) (fun ds Q3 X _ hf=>by rw [are_columns_def] at hf;exact hf)
theorem ok_is_part (T:Top w K mg) (base:Heap):OkF P w K mg base (L2.CX P w) "is_part" "is_part" s_is_part [] [] [] 3 ["thing","columns"] (sp3 K 2 (is_part (csOf w K mg))):=by
 obtain ⟨v_are_columns_2,h_are_columns_2,c_are_columns_2⟩:=((ok_are_columns T base (P:=P) (w:=w)).cl1 2 1 (by simp) rfl (fun _ _ _ _ _ _ _ us its h1 h2=>match us,its,h1,h2 with | [_,_],[_],_,_=>⟨_,rfl,rfl⟩)).ex
 obtain ⟨f,fd,dvs,kvs,rd,rk,F,hm⟩:=T.d_is_part.ex
 refine ⟨f,fd,dvs,kvs,rd,rk,F,hm,F.ok sc_is_part (sp3_len rfl) (fun cdv A outer s H vs Q E hr h=> ?_)⟩
 refine ⟨_,(pss_one (ps_ret (pe_and (pe_cl c_are_columns_2 (hr.mono (by omega)) (by rfl) (passes_call (takes_of rfl rfl rfl rfl) (fun _ _ _ _ z=>z)) (pa_cons (pv 0) (pa_cons pe_int pa_nil))) (pe_one (pe_callB (cr_allK (K:=K) rfl rfl) (by rfl) T.zb_all (by decide +kernel) (pa_cons (pe_lc (own:=[("name",2)]) (g:=(gName 2)) (by rfl) sc_is_part.nd (pi_P (K:=K) rfl (pv 0)) (blkOk_by (own:=[("name",2)]) (N:=N_is_part) (sc:=defScope s_is_part) (by decide +kernel)) (fun _ _ _ _ _=>(pg_name (i:=2) sc_is_part.nd rfl (Or.inl rfl) (Or.inr rfl))) (fun _ _ _ _ _=>pts_nil) (fun _ _ _ _ _=>(pe_cmpR (op_inP (K:=K) rfl) (pv 2) (pv 1) (by rfl)))) pa_nil)))))), ?_⟩
 exact body3 (x:=is_partB (csOf w K mg)) (W:=fun cls dd _ H=>E cls dd H) h (fun _ _ _ _ z=>z) (lift_ret (lift_andV (lift_call (fun _ _ _ _ z=>z) (lift_cons (lift_v 0) (lift_cons (lift_int _) lift_nil)) h_are_columns_2) (lift_cb rl_all (lift_cons (lift_lc (vs:=[2]) (lift_iP (lift_v 0)) (lift_name 2 (by decide)) lift_yes (lift_op (rl_inP false) (lift_v 2) (lift_v 1)) (fun _ _ _ _ _ z=>z)) lift_nil)))) (fun ds Q3 X _ hf=>by rw [is_part_def] at hf;exact hf)
theorem ok_Form_init (T:Top w K mg) (base:Heap):OkM P w K mg base (L2.CX P w) ((csOf w K mg).at_ "Form") "__init__" "__init__" "Form.__init__" s_Form_init [] ["others","refers"] [(.tup []),(.tup [])] 4 ["self","columns","key","others","refers"] (spI K 5 ((csOf w K mg).at_ "Form") (Form_init (csOf w K mg))):=by
 obtain ⟨v_are_columns_1,h_are_columns_1,c_are_columns_1⟩:=((ok_are_columns T base (P:=P) (w:=w)).cl1 1 0 (by simp) rfl (fun _ _ _ _ _ _ _ us its h1 h2=>match us,its,h1,h2 with | [_],[_],_,_=>⟨_,rfl,rfl⟩)).ex
 obtain ⟨v_is_name_1,h_is_name_1,c_is_name_1⟩:=((ok_is_name T base (P:=P) (w:=w)).cl (fun _ _ _ _ _ _ us hl=>match us,hl with | [_],_=>rfl)).ex
 obtain ⟨v_is_part_2,h_is_part_2,c_is_part_2⟩:=((ok_is_part T base (P:=P) (w:=w)).cl (fun _ _ _ _ _ _ us hl=>match us,hl with | [_,_],_=>rfl)).ex
 obtain ⟨f,fd,dvs,kvs,rd,rk,F,hm⟩:=T.d_Form_init.ex
 refine ⟨f,fd,dvs,kvs,rd,rk,F,hm,F.ok sc_Form_init (spI_len rfl) (fun cdv A outer s H vs Q E hr h=> ?_)⟩
 refine ⟨_,(pss_cons (ps_if (pt_not (pt_val (pe_cl c_are_columns_1 (hr.mono (by omega)) (by rfl) (passes_call (takes_of rfl rfl rfl rfl) (fun _ _ _ _ z=>z)) (pa_cons (pv 1) pa_nil)))) (pss_one (ps_raise rfl (takes_of rfl rfl rfl rfl) (pmk_own PySem.F.excBase_ValueError T.x_BadColumns.x_ T.x_BadColumns.g T.x_BadColumns.k (raises_own T.x_BadColumns.b T.x_BadColumns.t) (by rfl)))) pss_nil)
  (pss_cons (ps_if (PW.pt (pw_or (pt_not (pt_val (pe_cl c_is_part_2 (hr.mono (by omega)) (by rfl) (passes_call (takes_of rfl rfl rfl rfl) (fun _ _ _ _ z=>z)) (pa_cons (pv 2) (pa_cons (pv 1) pa_nil))))) (pw_or (pt_not (pt_val (pe_callB (call_isiK' (K:=K) rfl) (by rfl) T.zb_isinstance (by decide +kernel) (pa_cons (pv 3) (pa_cons (pe_bltn (v:=.ty "tuple") (by rfl) T.zb_tuple (by decide +kernel) rfl) pa_nil))))) (pw_or1 (pt_cmpR (op_gtP (K:=K) rfl hr.units) (pe_callB (call_lenK (K:=K) rfl) (by rfl) T.zb_len (by decide +kernel) (pa_cons (pv 3) pa_nil)) pe_int (nomark _)))))) (pss_one (ps_raise rfl (takes_of rfl rfl rfl rfl) (pmk_own PySem.F.excBase_ValueError T.x_BadKey.x_ T.x_BadKey.g T.x_BadKey.k (raises_own T.x_BadKey.b T.x_BadKey.t) (by rfl)))) pss_nil)
  (pss_cons (ps_if (pt_not (pt_val (pe_callB (cr_allK (K:=K) rfl rfl) (by rfl) T.zb_all (by decide +kernel) (pa_cons (pe_lc (own:=[("other",6)]) (g:=(gName 6)) (by rfl) sc_Form_init.nd (pi_P (K:=K) rfl (pv 3)) (blkOk_by (own:=[("other",6)]) (N:=N_Form_init) (sc:=defScope s_Form_init) (by decide +kernel)) (fun _ _ _ _ _=>(pg_name (i:=6) sc_Form_init.nd rfl (Or.inl rfl) (Or.inr rfl))) (fun _ _ _ _ _=>pts_nil) (fun _ _ _ _ _=>(pe_cl c_is_part_2 (hr.mono (by omega)) (by rfl) passL (pa_cons (pv 6) (pa_cons (pv 1) pa_nil))))) pa_nil)))) (pss_one (ps_raise rfl (takes_of rfl rfl rfl rfl) (pmk_own PySem.F.excBase_ValueError T.x_BadKey.x_ T.x_BadKey.g T.x_BadKey.k (raises_own T.x_BadKey.b T.x_BadKey.t) (by rfl)))) pss_nil)
  (pss_cons (ps_if (PW.pt (pw_or (pt_not (pt_val (pe_callB (call_isiK' (K:=K) rfl) (by rfl) T.zb_isinstance (by decide +kernel) (pa_cons (pv 4) (pa_cons (pe_bltn (v:=.ty "tuple") (by rfl) T.zb_tuple (by decide +kernel) rfl) pa_nil))))) (pw_or1 (pt_cmpR (op_gtP (K:=K) rfl hr.units) (pe_callB (call_lenK (K:=K) rfl) (by rfl) T.zb_len (by decide +kernel) (pa_cons (pv 4) pa_nil)) pe_int (nomark _))))) (pss_one (ps_raise rfl (takes_of rfl rfl rfl rfl) (pmk_own PySem.F.excBase_ValueError T.x_BadRefer.x_ T.x_BadRefer.g T.x_BadRefer.k (raises_own T.x_BadRefer.b T.x_BadRefer.t) (by rfl)))) pss_nil)
  (pss_cons (ps_for (passes_of rfl) (by rfl) (pi_P (K:=K) rfl (pv 4)) (pg_name (i:=5) sc_Form_init.nd rfl (Or.inl rfl))
  (pss_cons (ps_if (PW.pt (pw_or (pt_not (pt_val (pe_callB (call_isiK' (K:=K) rfl) (by rfl) T.zb_isinstance (by decide +kernel) (pa_cons (pv 5) (pa_cons (pe_bltn (v:=.ty "tuple") (by rfl) T.zb_tuple (by decide +kernel) rfl) pa_nil))))) (pw_or (pt_cmpR (op_neP (K:=K) rfl hr.units) (pe_callB (call_lenK (K:=K) rfl) (by rfl) T.zb_len (by decide +kernel) (pa_cons (pv 5) pa_nil)) pe_int (nomark _)) (pw_or1 (pt_not (pt_val (pe_cl c_is_part_2 (hr.mono (by omega)) (by rfl) (passes_call (takes_of rfl rfl rfl rfl) (fun _ _ _ _ z=>z)) (pa_cons (pe_ix (ix_P (K:=K) rfl) (pv 5) pe_int (fun _ _=>rfl)) (pa_cons (pv 1) pa_nil))))))))) (pss_one (ps_raise rfl (takes_of rfl rfl rfl rfl) (pmk_own PySem.F.excBase_ValueError T.x_BadRefer.x_ T.x_BadRefer.g T.x_BadRefer.k (raises_own T.x_BadRefer.b T.x_BadRefer.t) (by rfl)))) pss_nil)
  (pss_one (ps_if (pt_not (pt_val (pe_cl c_is_name_1 (hr.mono (by omega)) (by rfl) (passes_call (takes_of rfl rfl rfl rfl) (fun _ _ _ _ z=>z)) (pa_cons (pe_ix (ix_P (K:=K) rfl) (pv 5) pe_int (fun _ _=>rfl)) pa_nil)))) (pss_one (ps_raise rfl (takes_of rfl rfl rfl rfl) (pmk_own PySem.F.excBase_ValueError T.x_BadRefer.x_ T.x_BadRefer.g T.x_BadRefer.k (raises_own T.x_BadRefer.b T.x_BadRefer.t) (by rfl)))) pss_nil))))
  (pss_cons (ps_fldK (K:=K) rfl (pv 0) (pv 1) (by rfl))
  (pss_cons (ps_fldK (K:=K) rfl (pv 0) (pv 2) (by rfl))
  (pss_cons (ps_fldK (K:=K) rfl (pv 0) (pv 3) (by rfl))
  (pss_one (ps_fldK (K:=K) rfl (pv 0) (pv 4) (by rfl))))))))))), ?_⟩
 exact bodyI (x3:=Form_initB (csOf w K mg)) (W:=fun cls dd _ H=>E cls dd H) h (by decide) (fun _ _ _ _ z=>z) (lift_seq (lift_ifs (lift_not (lift_tB (lift_call (fun _ _ _ _ z=>z) (lift_cons (lift_v 1) lift_nil) h_are_columns_1))) lift_raise lift_next)
  (lift_seq (lift_ifs (lift_or (lift_not (lift_tB (lift_call (fun _ _ _ _ z=>z) (lift_cons (lift_v 2) (lift_cons (lift_v 1) lift_nil)) h_is_part_2))) (lift_or (lift_not (lift_tB (lift_cb rl_isi (lift_cons (lift_v 3) (lift_cons (lift_ty _) lift_nil))))) (lift_tst (lift_op rl_gtP (lift_cb rl_len (lift_cons (lift_v 3) lift_nil)) (lift_int _))))) lift_raise lift_next)
  (lift_seq (lift_ifs (lift_not (lift_tB (lift_cb rl_all (lift_cons (lift_lc (vs:=[6]) (lift_iP (lift_v 3)) (lift_name 6 (by decide)) lift_yes (lift_call0 (lift_cons (lift_v 6) (lift_cons (lift_v 1) lift_nil)) h_is_part_2) (fun _ _ _ _ _ z=>z)) lift_nil)))) lift_raise lift_next)
  (lift_seq (lift_ifs (lift_or (lift_not (lift_tB (lift_cb rl_isi (lift_cons (lift_v 4) (lift_cons (lift_ty _) lift_nil))))) (lift_tst (lift_op rl_gtP (lift_cb rl_len (lift_cons (lift_v 4) lift_nil)) (lift_int _)))) lift_raise lift_next)
  (lift_seq (lift_for (vs:=[5]) (lift_iP (lift_v 4)) (lift_name 5 (by decide))
  (lift_seq (lift_ifs (lift_or (lift_not (lift_tB (lift_cb rl_isi (lift_cons (lift_v 5) (lift_cons (lift_ty _) lift_nil))))) (lift_or (lift_tst (lift_op rl_neP (lift_cb rl_len (lift_cons (lift_v 5) lift_nil)) (lift_int _))) (lift_not (lift_tB (lift_call (fun _ _ _ _ z=>z) (lift_cons (lift_op rl_ixP (lift_v 5) (lift_int _)) (lift_cons (lift_v 1) lift_nil)) h_is_part_2))))) lift_raise lift_next)
  (lift_ifs (lift_not (lift_tB (lift_call (fun _ _ _ _ z=>z) (lift_cons (lift_op rl_ixP (lift_v 5) (lift_int _)) lift_nil) h_is_name_1))) lift_raise lift_next)))
  (lift_seq (lift_setO (cl:=[(csOf w K mg).at_ "Form"]) (fun D hD=>by cases List.mem_singleton.mp hD;exact ⟨T.o_Form.cl,T.n_Form_columns⟩) (lift_v 1))
  (lift_seq (lift_setO (cl:=[(csOf w K mg).at_ "Form"]) (fun D hD=>by cases List.mem_singleton.mp hD;exact ⟨T.o_Form.cl,T.n_Form_key⟩) (lift_v 2))
  (lift_seq (lift_setO (cl:=[(csOf w K mg).at_ "Form"]) (fun D hD=>by cases List.mem_singleton.mp hD;exact ⟨T.o_Form.cl,T.n_Form_others⟩) (lift_v 3))
  (lift_setO (cl:=[(csOf w K mg).at_ "Form"]) (fun D hD=>by cases List.mem_singleton.mp hD;exact ⟨T.o_Form.cl,T.n_Form_refers⟩) (lift_v 4)))))))))) (fun x ds Q3 X _ hf=>by rw [Form_init_def] at hf;exact hf x)
theorem ok_Plan_init (T:Top w K mg) (base:Heap) {P0:Addr×Str} {Ts0:List (Addr×Str)} (TU:TopU K mg base (P0::Ts0)):OkM P w K mg base (L2.CX P w) ((csOf w K mg).at_ "Plan") "__init__" "__init__" "Plan.__init__" s_Plan_init [] [] [] 1 ["self"] (spU4 K false 1 (Plan_init (csOf w K mg)) (P0::Ts0)):=by
 obtain ⟨f,fd,dvs,kvs,rd,rk,F,hm⟩:=T.d_Plan_init.ex
 refine ⟨f,fd,dvs,kvs,rd,rk,F,hm,F.ok sc_Plan_init (spU4_len rfl) (fun cdv A outer s H vs Q E hr h=> ?_)⟩
 refine ⟨_,(pss_cons (ps_fldK (K:=K) rfl (pv 0) pe_dnewK (by rfl))
  (pss_cons (ps_fldK (K:=K) rfl (pv 0) pe_dnewK (by rfl))
  (pss_one (ps_fldK (K:=K) rfl (pv 0) pe_dnewK (by rfl))))), ?_⟩
 exact bodyU4 (x:=fun p=>Plan_initB (csOf w K mg)) (W:=fun cls dd _ H=>E cls dd H) h (fun _ _ _ _ z=>z) (fun p cc=>(lift_seq4 (lift_setC (cl:=[(csOf w K mg).at_ "Plan"]) (fun D hD=>by cases List.mem_singleton.mp hD;exact ⟨T.o_Plan.cl,T.n_Plan_forms⟩) (lift_pu (lift_v 0)) (lift_newD lift_frNewK))
  (lift_seq4 (lift_setC (cl:=[(csOf w K mg).at_ "Plan"]) (fun D hD=>by cases List.mem_singleton.mp hD;exact ⟨T.o_Plan.cl,T.n_Plan_above⟩) (lift_pu (lift_v 0)) (lift_newD lift_frNewK))
  (lift_setC (cl:=[(csOf w K mg).at_ "Plan"]) (fun D hD=>by cases List.mem_singleton.mp hD;exact ⟨T.o_Plan.cl,T.n_Plan_below⟩) (lift_pu (lift_v 0)) (lift_newD lift_frNewK))))) (fun p ds M Q4 X _ hd hf=>by rw [Plan_init_def] at hf;exact hf)
theorem ok_Plan_tables (T:Top w K mg) (base:Heap):OkM P w K mg base (L2.CX P w) ((csOf w K mg).at_ "Plan") "tables" "tables" "Plan.tables" s_Plan_tables [] [] [] 1 ["self"] (spN K 1 (Plan_tables (csOf w K mg))):=by
 obtain ⟨f,fd,dvs,kvs,rd,rk,F,hm⟩:=T.d_Plan_tables.ex
 refine ⟨f,fd,dvs,kvs,rd,rk,F,hm,F.ok sc_Plan_tables (spN_len rfl) (fun cdv A outer s H vs Q E hr h=> ?_)⟩
 refine ⟨_,(pss_one (ps_ret (pe_callTy (call_listD rfl) (by rfl) T.zb_list (by decide +kernel) (pa_cons (pe_fldK (K:=K) rfl (pv 0) (by rfl)) pa_nil)))), ?_⟩
 exact bodyN (x:=Plan_tablesB (csOf w K mg)) (W:=fun cls dd _ H=>E cls dd H) h (fun _ _ _ _ z=>z) (lift_retO (LiftFr.o (lift_frListD (lift_cons (lift_fld (cl:=[(csOf w K mg).at_ "Plan"]) (fun D hD=>by simp only [List.mem_cons,List.not_mem_nil,or_false] at hD;rcases hD with rfl<;>first | exact ⟨T.o_Plan.cl,T.n_Plan_forms⟩) (lift_v 0)) lift_nil)))) (fun ds Q3 X _ hf=>by rw [Plan_tables_def] at hf;exact hf)
theorem ok_Plan_form (T:Top w K mg) (base:Heap) {P0:Addr×Str} {Ts0:List (Addr×Str)} (TU:TopU K mg base (P0::Ts0)):OkM P w K mg base (L2.CX P w) ((csOf w K mg).at_ "Plan") "form" "form" "Plan.form" s_Plan_form [] [] [] 3 ["self","name"] (spU4 K false 2 (Plan_form (csOf w K mg)) (P0::Ts0)):=by
 obtain ⟨f,fd,dvs,kvs,rd,rk,F,hm⟩:=T.d_Plan_form.ex
 refine ⟨f,fd,dvs,kvs,rd,rk,F,hm,F.ok sc_Plan_form (spU4_len rfl) (fun cdv A outer s H vs Q E hr h=> ?_)⟩
 refine ⟨_,(pss_cons (ps_if (pt_around (pt_cmpR (op_notInDF hr.units65) (pv 1) (pe_fldK (K:=K) rfl (pv 0) (by rfl)) (by rfl))) (pss_one (ps_raise rfl (takes_of rfl rfl rfl rfl) (pmk_X (ok_NoTable_init T base (P:=P)) T.y_NoTable rfl rfl rfl rfl rfl (hr.mono (by omega)) (by rfl) (pa_cons (pv 1) pa_nil)))) pss_nil)
  (pss_one (ps_ret (pe_around (pe_dget (Nat.lt_of_le_of_lt (Nat.add_le_add_left (by decide:1≤64) _) hr.units) (pe_fldK (K:=K) rfl (pv 0) (by rfl)) (pv 1) (fun _ _=>rfl)))))), ?_⟩
 exact bodyU4 (x:=fun p=>Plan_formB (csOf w K mg)) (W:=fun cls dd _ H=>E cls dd H) h (fun _ _ _ _ z=>z) (fun p cc=>(lift_seq4 (lift_ifs4 (lift_vwKB (e:=⟨false,true,[(csOf w K mg).at_ "Plan"]⟩) (n:=4) (is:=[0]) (lift_tst (lift_op (rl_inDF (neg:=true)) (lift_v 1) (lift_fld (cl:=[(csOf w K mg).at_ "Plan"]) (fun D hD=>by simp only [List.mem_cons,List.not_mem_nil,or_false] at hD;rcases hD with rfl<;>first | exact ⟨T.o_Plan.cl,T.n_Plan_forms⟩) (lift_v 0))))) (lift_puS (lift_raiseT (lift_v 1))) lift_next4)
  (lift_ret4 (lift_vwK (e:=⟨false,true,[(csOf w K mg).at_ "Plan"]⟩) (n:=4) (is:=[0]) (lift_dget (lift_fld (cl:=[(csOf w K mg).at_ "Plan"]) (fun D hD=>by simp only [List.mem_cons,List.not_mem_nil,or_false] at hD;rcases hD with rfl<;>first | exact ⟨T.o_Plan.cl,T.n_Plan_forms⟩) (lift_v 0)) (lift_v 1)))))) (fun p ds M Q4 X _ hd hf=>by rw [Plan_form_def] at hf;exact hf)
theorem ok_Plan_make (T:Top w K mg) (base:Heap) {P0:Addr×Str} {Ts0:List (Addr×Str)} (TU:TopU K mg base (P0::Ts0)):OkM P w K mg base (L2.CX P w) ((csOf w K mg).at_ "Plan") "make" "make" "Plan.make" s_Plan_make [] ["others","refers"] [(.tup []),(.tup [])] 6 ["self","name","columns","key","others","refers"] (spU4 K false 6 (Plan_make (csOf w K mg)) (P0::Ts0)):=by
 obtain ⟨v_Form_init_1_key_others_refers,h_Form_init_1_key_others_refers,c_Form_init_1_key_others_refers⟩:=((ok_Form_init T base (P:=P) (w:=w)).mkN0 T.o_Form T.fn_Form 1 ["key","others","refers"] [] [0,1,2,3,4] (by simp) rfl (by decide) (fun _ _ _ _ _ _ us mv ws h1 h2 h3=>match us,mv,ws,h1,h2,h3 with | [_,_],[],[_,_,_],_,_,_=>rfl)).ex
 obtain ⟨v_is_name_1,h_is_name_1,c_is_name_1⟩:=((ok_is_name T base (P:=P) (w:=w)).cl (fun _ _ _ _ _ _ us hl=>match us,hl with | [_],_=>rfl)).ex
 obtain ⟨u_MOST_TABLES,w_MOST_TABLES,zg_MOST_TABLES,zr_MOST_TABLES,zt_MOST_TABLES⟩:=T.zc_MOST_TABLES
 obtain ⟨f,fd,dvs,kvs,rd,rk,F,hm⟩:=T.d_Plan_make.ex
 refine ⟨f,fd,dvs,kvs,rd,rk,F,hm,F.ok sc_Plan_make (spU4_len rfl) (fun cdv A outer s H vs Q E hr h=> ?_)⟩
 refine ⟨_,(pss_cons (ps_if (pt_not (pt_val (pe_cl c_is_name_1 (hr.mono (by omega)) (by rfl) (passes_call (takes_of rfl rfl rfl rfl) (fun _ _ _ _ z=>z)) (pa_cons (pv 1) pa_nil)))) (pss_one (ps_raise rfl (takes_of rfl rfl rfl rfl) (pmk_X (ok_BadName_init T base (P:=P)) T.y_BadName rfl rfl rfl rfl rfl (hr.mono (by omega)) (by rfl) (pa_cons (pv 1) pa_nil)))) pss_nil)
  (pss_cons (ps_if (pt_around (pt_cmpR (op_inDF hr.units65) (pv 1) (pe_fldK (K:=K) rfl (pv 0) (by rfl)) (by rfl))) (pss_one (ps_raise rfl (takes_of rfl rfl rfl rfl) (pmk_X (ok_Taken_init T base (P:=P)) T.y_Taken rfl rfl rfl rfl rfl (hr.mono (by omega)) (by rfl) (pa_cons (pv 1) pa_nil)))) pss_nil)
  (pss_cons (ps_if (pt_around (pt_cmpR (op_geP (K:=K) rfl hr.units) (pe_callB call_lenDK (by rfl) T.zb_len (by decide +kernel) (pa_cons (pe_fldK (K:=K) rfl (pv 0) (by rfl)) pa_nil)) (pe_glob (by rfl) zg_MOST_TABLES zr_MOST_TABLES) (nomark _))) (pss_one (ps_raise rfl (takes_of rfl rfl rfl rfl) (pmk_own PySem.F.excBase_ValueError T.x_Full.x_ T.x_Full.g T.x_Full.k (raises_own T.x_Full.b T.x_Full.t) (by rfl)))) pss_nil)
  (pss_cons (ps_set (i:=6) sc_Plan_make.nd rfl (Or.inl rfl) (pe_mkN c_Form_init_1_key_others_refers (hr.mono (by omega)) (by rfl) (passes_call (takes_of rfl rfl rfl rfl) (fun _ _ _ _ z=>z)) (pa_cons (pv 2) pa_nil) (pk_cons (pv 3) (pk_cons (pv 4) (pk_cons (pv 5) pk_nil)))))
  (pss_cons (ps_for (passes_of rfl) (by rfl) (pi_P (K:=K) rfl (pv 5)) (pg_tupK (K:=K) rfl rfl (pgs_cons (pg_name (i:=7) sc_Plan_make.nd rfl (Or.inl rfl)) (pgs_cons (pg_name (i:=8) sc_Plan_make.nd rfl (Or.inl rfl)) pgs_nil)))
  (pss_cons (ps_if (pt_around (PW.pt (pw_and (pt_cmpR (op_neP (K:=K) rfl hr.units) (pv 8) (pv 1) (nomark _)) (pw_and1 (pt_cmpR (op_notInDF hr.units65) (pv 8) (pe_fldK (K:=K) rfl (pv 0) (by rfl)) (by rfl)))))) (pss_one (ps_raise rfl (takes_of rfl rfl rfl rfl) (pmk_X (ok_NoTable_init T base (P:=P)) T.y_NoTable rfl rfl rfl rfl rfl (hr.mono (by omega)) (by rfl) (pa_cons (pv 8) pa_nil)))) pss_nil)
  (pss_cons (ps_set (i:=9) sc_Plan_make.nd rfl (Or.inl rfl) (pe_around (pe_ifExp (pt_cmpR (op_eqP (K:=K) rfl hr.units) (pv 8) (pv 1) (nomark _)) (pv 3) (pe_fldK (K:=K) rfl (pe_dget (Nat.lt_of_le_of_lt (Nat.add_le_add_left (by decide:1≤64) _) hr.units) (pe_fldK (K:=K) rfl (pv 0) (by rfl)) (pv 8) (fun _ _=>rfl)) (by rfl)))))
  (pss_one (ps_if (pt_cmpR (op_neP (K:=K) rfl hr.units) (pe_callB (call_lenK (K:=K) rfl) (by rfl) T.zb_len (by decide +kernel) (pa_cons (pv 7) pa_nil)) (pe_callB (call_lenK (K:=K) rfl) (by rfl) T.zb_len (by decide +kernel) (pa_cons (pv 9) pa_nil)) (nomark _)) (pss_one (ps_raise rfl (takes_of rfl rfl rfl rfl) (pmk_own PySem.F.excBase_ValueError T.x_BadRefer.x_ T.x_BadRefer.g T.x_BadRefer.k (raises_own T.x_BadRefer.b T.x_BadRefer.t) (by rfl)))) pss_nil)))))
  (pss_one (ps_asg (pv 6) (pg_sub (pe_fldK (K:=K) rfl (pv 0) (by rfl)) (pv 1) (set_dict (Nat.lt_of_le_of_lt (Nat.add_le_add_left (by decide:1≤64) _) hr.units)))))))))), ?_⟩
 exact bodyU4 (x:=fun p=>Plan_makeB (csOf w K mg)) (W:=fun cls dd _ H=>E cls dd H) h (fun _ _ _ _ z=>z) (fun p cc=>(lift_seq4 (lift_ifs4 (lift_pu (lift_not (lift_tB (lift_call (fun _ _ _ _ z=>z) (lift_cons (lift_v 1) lift_nil) h_is_name_1)))) (lift_puS (lift_raiseT (lift_v 1))) lift_next4)
  (lift_seq4 (lift_ifs4 (lift_vwKB (e:=⟨false,true,[(csOf w K mg).at_ "Plan"]⟩) (n:=4) (is:=[0]) (lift_tst (lift_op (rl_inDF (neg:=false)) (lift_v 1) (lift_fld (cl:=[(csOf w K mg).at_ "Plan"]) (fun D hD=>by simp only [List.mem_cons,List.not_mem_nil,or_false] at hD;rcases hD with rfl<;>first | exact ⟨T.o_Plan.cl,T.n_Plan_forms⟩) (lift_v 0))))) (lift_puS (lift_raiseT (lift_v 1))) lift_next4)
  (lift_seq4 (lift_ifs4 (lift_vwKB (e:=⟨false,true,[(csOf w K mg).at_ "Plan"]⟩) (n:=4) (is:=[0]) (lift_tst (lift_op rl_geP (lift_cb rl_lenD (lift_cons (lift_fld (cl:=[(csOf w K mg).at_ "Plan"]) (fun D hD=>by simp only [List.mem_cons,List.not_mem_nil,or_false] at hD;rcases hD with rfl<;>first | exact ⟨T.o_Plan.cl,T.n_Plan_forms⟩) (lift_v 0)) lift_nil)) (lift_k zt_MOST_TABLES)))) (lift_puS lift_raise) lift_next4)
  (lift_seq4 (lift_asg4 (lift_pu (lift_mkN (g:=(fun ds es=>sel [0,1,2,3] (ds++([]++es)))) (fun _ _ _ _ z=>z) (fun _ _ _=>⟨_,rfl⟩) (fun H a vs ds ws es zs r s _ _ ez=>by have ez2:=(List.cons.inj ez).2;subst ez2;exact repL_sel [0,1,2,3] (r.append ((h_Form_init_1_key_others_refers H).append s))) (lift_cons (lift_v 2) lift_nil) (lift_cons (lift_v 3) (lift_cons (lift_v 4) (lift_cons (lift_v 5) lift_nil))))) (lift_name (vs:=[6]) 6 (by decide)))
  (lift_seq4 (lift_for4 (vs:=[7,8]) (lift_iP (lift_v 5)) (lift_gtup (lift_gcons (lift_name 7 (by decide)) (lift_gcons (lift_name 8 (by decide)) lift_gnil)))
  (lift_seq4 (lift_ifs4 (lift_vwKB (e:=⟨false,true,[(csOf w K mg).at_ "Plan"]⟩) (n:=4) (is:=[0]) (lift_and (lift_tst (lift_op rl_neP (lift_v 8) (lift_v 1))) (lift_tst (lift_op (rl_inDF (neg:=true)) (lift_v 8) (lift_fld (cl:=[(csOf w K mg).at_ "Plan"]) (fun D hD=>by simp only [List.mem_cons,List.not_mem_nil,or_false] at hD;rcases hD with rfl<;>first | exact ⟨T.o_Plan.cl,T.n_Plan_forms⟩) (lift_v 0)))))) (lift_puS (lift_raiseT (lift_v 8))) lift_next4)
  (lift_seq4 (lift_asg4 (lift_vwK (e:=⟨false,true,[(csOf w K mg).at_ "Plan"]⟩) (n:=4) (is:=[0]) (lift_if (lift_tst (lift_op rl_eqP (lift_v 8) (lift_v 1))) (lift_v 3) (lift_fld (cl:=[(csOf w K mg).at_ "Form"]) (fun D hD=>by simp only [List.mem_cons,List.not_mem_nil,or_false] at hD;rcases hD with rfl<;>first | exact ⟨T.o_Form.cl,T.n_Form_key⟩) (lift_dget (lift_fld (cl:=[(csOf w K mg).at_ "Plan"]) (fun D hD=>by simp only [List.mem_cons,List.not_mem_nil,or_false] at hD;rcases hD with rfl<;>first | exact ⟨T.o_Plan.cl,T.n_Plan_forms⟩) (lift_v 0)) (lift_v 8))))) (lift_name (vs:=[9]) 9 (by decide)))
  (lift_ifs4 (lift_pu (lift_tst (lift_op rl_neP (lift_cb rl_len (lift_cons (lift_v 7) lift_nil)) (lift_cb rl_len (lift_cons (lift_v 9) lift_nil))))) (lift_puS lift_raise) lift_next4))))
  (lift_put4 (lift_fldC (cl:=[(csOf w K mg).at_ "Plan"]) (fun D hD=>by cases List.mem_singleton.mp hD;exact ⟨T.o_Plan.cl,T.n_Plan_forms⟩) (lift_pu (lift_v 0))) (lift_pu (lift_v 1)) (lift_pu (lift_v 6))))))))) (fun p ds M Q4 X _ hd hf=>by rw [Plan_make_def] at hf;exact hf)
theorem ok_Plan_rules (T:Top w K mg) (base:Heap):OkM P w K mg base (L2.CX P w) ((csOf w K mg).at_ "Plan") "rules" "rules" "Plan.rules" s_Plan_rules [] [] [] 1 ["self"] (sp3 K 1 (Plan_rules (csOf w K mg))):=by
 obtain ⟨f,fd,dvs,kvs,rd,rk,F,hm⟩:=T.d_Plan_rules.ex
 refine ⟨f,fd,dvs,kvs,rd,rk,F,hm,F.ok sc_Plan_rules (sp3_len rfl) (fun cdv A outer s H vs Q E hr h=> ?_)⟩
 refine ⟨_,(pss_one (ps_ret (pe_lc (own:=[("name",1)]) (g:=(gName 1)) (by rfl) sc_Plan_rules.nd (pi_P (K:=K) rfl (pe_callB (call_sortedD rfl) (by rfl) T.zb_sorted (by decide +kernel) (pa_cons (pe_fldK (K:=K) rfl (pv 0) (by rfl)) pa_nil))) (blkOk_by (own:=[("name",1)]) (N:=N_Plan_rules) (sc:=defScope s_Plan_rules) (by decide +kernel)) (fun _ _ _ _ _=>(pg_name (i:=1) sc_Plan_rules.nd rfl (Or.inl rfl) (Or.inr rfl))) (fun _ _ _ _ _=>pts_nil) (fun _ _ _ _ _=>(pe_op (op_addP (K:=K) rfl) (M3.pe_tup (pa_cons (pv 1) pa_nil)) (pe_dget (Nat.lt_of_le_of_lt (Nat.add_le_add_left (by decide:1≤64) _) hr.units) (pe_fldK (K:=K) rfl (pv 0) (by rfl)) (pv 1) (fun _ _=>rfl))))))), ?_⟩
 exact body3 (x:=Plan_rulesB (csOf w K mg)) (W:=fun cls dd _ H=>E cls dd H) h (fun _ _ _ _ z=>z) (lift_ret (lift_lc (vs:=[1]) (lift_iP (lift_ofFr (lift_frSortDk (lift_cons (lift_fld (cl:=[(csOf w K mg).at_ "Plan"]) (fun D hD=>by simp only [List.mem_cons,List.not_mem_nil,or_false] at hD;rcases hD with rfl<;>first | exact ⟨T.o_Plan.cl,T.n_Plan_above⟩) (lift_v 0)) lift_nil)))) (lift_name 1 (by decide)) lift_yes (lift_op rl_addP (lift_tup (lift_cons (lift_v 1) lift_nil)) (lift_dget (lift_fld (cl:=[(csOf w K mg).at_ "Plan"]) (fun D hD=>by simp only [List.mem_cons,List.not_mem_nil,or_false] at hD;rcases hD with rfl<;>first | exact ⟨T.o_Plan.cl,T.n_Plan_above⟩) (lift_v 0)) (lift_v 1))) (fun _ _ _ _ _ z=>z))) (fun ds Q3 X _ hf=>by rw [Plan_rules_def] at hf;exact hf)
theorem ok_Plan_follows (T:Top w K mg) (base:Heap):OkM P w K mg base (L2.CX P w) ((csOf w K mg).at_ "Plan") "follows" "follows" "Plan.follows" s_Plan_follows [] [] [] 1 ["self"] (sp3 K 1 (Plan_follows (csOf w K mg))):=by
 obtain ⟨f,fd,dvs,kvs,rd,rk,F,hm⟩:=T.d_Plan_follows.ex
 refine ⟨f,fd,dvs,kvs,rd,rk,F,hm,F.ok sc_Plan_follows (sp3_len rfl) (fun cdv A outer s H vs Q E hr h=> ?_)⟩
 refine ⟨_,(pss_one (ps_ret (pe_lc (own:=[("name",1)]) (g:=(gName 1)) (by rfl) sc_Plan_follows.nd (pi_P (K:=K) rfl (pe_callB (call_sortedD rfl) (by rfl) T.zb_sorted (by decide +kernel) (pa_cons (pe_fldK (K:=K) rfl (pv 0) (by rfl)) pa_nil))) (blkOk_by (own:=[("name",1)]) (N:=N_Plan_follows) (sc:=defScope s_Plan_follows) (by decide +kernel)) (fun _ _ _ _ _=>(pg_name (i:=1) sc_Plan_follows.nd rfl (Or.inl rfl) (Or.inr rfl))) (fun _ _ _ _ _=>pts_nil) (fun _ _ _ _ _=>(pe_op (op_addP (K:=K) rfl) (M3.pe_tup (pa_cons (pv 1) pa_nil)) (pe_dget (Nat.lt_of_le_of_lt (Nat.add_le_add_left (by decide:1≤64) _) hr.units) (pe_fldK (K:=K) rfl (pv 0) (by rfl)) (pv 1) (fun _ _=>rfl))))))), ?_⟩
 exact body3 (x:=Plan_followsB (csOf w K mg)) (W:=fun cls dd _ H=>E cls dd H) h (fun _ _ _ _ z=>z) (lift_ret (lift_lc (vs:=[1]) (lift_iP (lift_ofFr (lift_frSortDk (lift_cons (lift_fld (cl:=[(csOf w K mg).at_ "Plan"]) (fun D hD=>by simp only [List.mem_cons,List.not_mem_nil,or_false] at hD;rcases hD with rfl<;>first | exact ⟨T.o_Plan.cl,T.n_Plan_below⟩) (lift_v 0)) lift_nil)))) (lift_name 1 (by decide)) lift_yes (lift_op rl_addP (lift_tup (lift_cons (lift_v 1) lift_nil)) (lift_dget (lift_fld (cl:=[(csOf w K mg).at_ "Plan"]) (fun D hD=>by simp only [List.mem_cons,List.not_mem_nil,or_false] at hD;rcases hD with rfl<;>first | exact ⟨T.o_Plan.cl,T.n_Plan_below⟩) (lift_v 0)) (lift_v 1))) (fun _ _ _ _ _ z=>z))) (fun ds Q3 X _ hf=>by rw [Plan_follows_def] at hf;exact hf)
theorem ok_Plan_empty (T:Top w K mg) (base:Heap) {P0:Addr×Str} {Ts0:List (Addr×Str)} (TU:TopU K mg base (P0::Ts0)):OkM P w K mg base (L2.CX P w) ((csOf w K mg).at_ "Plan") "empty" "empty" "Plan.empty" s_Plan_empty [] [] [] 1 ["self"] (spU4 K false 1 (Plan_empty (csOf w K mg)) (P0::Ts0)):=by
 obtain ⟨f,fd,dvs,kvs,rd,rk,F,hm⟩:=T.d_Plan_empty.ex
 refine ⟨f,fd,dvs,kvs,rd,rk,F,hm,F.ok sc_Plan_empty (spU4_len rfl) (fun cdv A outer s H vs Q E hr h=> ?_)⟩
 refine ⟨_,(pss_one (ps_ret (pe_around (pe_dcX (own:=[("name",1)]) (g:=(gName 1)) (E:=fun _ _ _=>False) rfl rfl (takes_of rfl rfl rfl rfl) (fun _ _ _ _ z=>z.elim) (by rfl) sc_Plan_empty.nd (pi_keys (pe_fldK (K:=K) rfl (pv 0) (by rfl))) (blkOk_by (own:=[("name",1)]) (N:=N_Plan_empty) (sc:=defScope s_Plan_empty) (by decide +kernel)) (fun _ _ _ _ _=>(pg_name (i:=1) sc_Plan_empty.nd rfl (Or.inl rfl) (Or.inr rfl))) (fun _ _ _ _ _=>pts_nil) (fun _ _ _ _ _=>(pv 1)) (fun _ _ _ _ _ _ hp=>(pe_lst pa_nil)))))), ?_⟩
 exact bodyU4 (x:=fun p=>Plan_emptyB (csOf w K mg)) (W:=fun cls dd _ H=>E cls dd H) h (fun _ _ _ _ z=>z) (fun p cc=>(lift_ret4 (lift_vwKM (e:=⟨false,true,[(csOf w K mg).at_ "Plan"]⟩) (n:=4) (is:=[0]) (lift_dcC (vs:=[1]) (lift_iD (lift_fld (cl:=[(csOf w K mg).at_ "Plan"]) (fun D hD=>by simp only [List.mem_cons,List.not_mem_nil,or_false] at hD;rcases hD with rfl<;>first | exact ⟨T.o_Plan.cl,T.n_Plan_forms⟩) (lift_v 0))) (lift_name 1 (by decide)) lift_yes (lift_v 1) (lift_newC (lift_frLst lift_nil)) (fun _ _ _ _ _ z=>z))))) (fun p ds M Q4 X _ hd hf=>by rw [Plan_empty_def] at hf;exact hf)
set_option maxHeartbeats 8000000 in
theorem ok_Lsame (T:Top w K mg) (base:Heap) (n:Nat):OkF P w K mg base (L2.CX P w) "_law_same" "_law_same" s_Lsame [] [] [] (0+n) ["_law_found","_law_due_here"] (sp3 K 2 (Lsame (csOf w K mg) n)):=by
 induction n with
 | zero=>exact by rw [Lsame_zero];exact T.d_Lsame.no _
 | succ n ih=>
   obtain ⟨v_Lsame_2,h_Lsame_2,c_Lsame_2⟩:=(ih.cl (fun _ _ _ _ _ _ us hl=>match us,hl with | [_,_],_=>rfl)).ex
   obtain ⟨f,fd,dvs,kvs,rd,rk,F,hm⟩:=T.d_Lsame.ex
   refine ⟨f,fd,dvs,kvs,rd,rk,F,hm,F.ok sc_Lsame (sp3_len rfl) (fun cdv A outer s H vs Q E hr h=> ?_)⟩
   replace hr:Room (0+n) _:=hr
   refine ⟨_,(pss_cons (ps_if (pt_cmpR op_isN (pv 1) pe_non (nomark _)) (pss_one (ps_ret (pe_cmpR op_isN (pv 0) pe_non (nomark _)))) pss_nil)
    (pss_cons (ps_if (pt_val (pe_callB (call_isiK' (K:=K) rfl) (by rfl) T.zb_isinstance (by decide +kernel) (pa_cons (pv 1) (pa_cons (pe_bltn (v:=.ty "bool") (by rfl) T.zb_bool (by decide +kernel) rfl) pa_nil)))) (pss_one (ps_ret (pe_and (pe_callB (call_isiK' (K:=K) rfl) (by rfl) T.zb_isinstance (by decide +kernel) (pa_cons (pv 0) (pa_cons (pe_bltn (v:=.ty "bool") (by rfl) T.zb_bool (by decide +kernel) rfl) pa_nil))) (pe_one (pe_cmpR (op_eqP (K:=K) rfl hr.units) (pv 0) (pv 1) (nomark _)))))) pss_nil)
    (pss_cons (ps_if (pt_val (pe_callB (call_isiK' (K:=K) rfl) (by rfl) T.zb_isinstance (by decide +kernel) (pa_cons (pv 1) (pa_cons (pe_bltn (v:=.ty "int") (by rfl) T.zb_int (by decide +kernel) rfl) pa_nil)))) (pss_one (ps_ret (pe_and (pe_callB (call_isiK' (K:=K) rfl) (by rfl) T.zb_isinstance (by decide +kernel) (pa_cons (pv 0) (pa_cons (pe_bltn (v:=.ty "int") (by rfl) T.zb_int (by decide +kernel) rfl) pa_nil))) (pe_and (pe_not (pe_callB (call_isiK' (K:=K) rfl) (by rfl) T.zb_isinstance (by decide +kernel) (pa_cons (pv 0) (pa_cons (pe_bltn (v:=.ty "bool") (by rfl) T.zb_bool (by decide +kernel) rfl) pa_nil)))) (pe_one (pe_cmpR (op_eqP (K:=K) rfl hr.units) (pv 0) (pv 1) (nomark _))))))) pss_nil)
    (pss_cons (ps_if (pt_val (pe_callB (call_isiK' (K:=K) rfl) (by rfl) T.zb_isinstance (by decide +kernel) (pa_cons (pv 1) (pa_cons (pe_bltn (v:=.ty "str") (by rfl) T.zb_str (by decide +kernel) rfl) pa_nil)))) (pss_one (ps_ret (pe_and (pe_callB (call_isiK' (K:=K) rfl) (by rfl) T.zb_isinstance (by decide +kernel) (pa_cons (pv 0) (pa_cons (pe_bltn (v:=.ty "str") (by rfl) T.zb_str (by decide +kernel) rfl) pa_nil))) (pe_one (pe_cmpR (op_eqP (K:=K) rfl hr.units) (pv 0) (pv 1) (nomark _)))))) pss_nil)
    (pss_cons (ps_if (pt_val (pe_callB (call_isiK' (K:=K) rfl) (by rfl) T.zb_isinstance (by decide +kernel) (pa_cons (pv 1) (pa_cons (pe_bltn (v:=.ty "list") (by rfl) T.zb_list (by decide +kernel) rfl) pa_nil)))) (pss_one (ps_if (PW.pt (pw_or (pt_not (pt_val (pe_callB (call_isiK' (K:=K) rfl) (by rfl) T.zb_isinstance (by decide +kernel) (pa_cons (pv 0) (pa_cons (pe_bltn (v:=.ty "list") (by rfl) T.zb_list (by decide +kernel) rfl) pa_nil))))) (pw_or1 (pt_cmpR (op_neP (K:=K) rfl hr.units) (pe_callB (call_lenK (K:=K) rfl) (by rfl) T.zb_len (by decide +kernel) (pa_cons (pv 0) pa_nil)) (pe_callB (call_lenK (K:=K) rfl) (by rfl) T.zb_len (by decide +kernel) (pa_cons (pv 1) pa_nil)) (nomark _))))) (pss_one (ps_ret pe_bl)) pss_nil)) (pss_one (ps_if (PW.pt (pw_or (pt_not (pt_val (pe_callB (call_isiK' (K:=K) rfl) (by rfl) T.zb_isinstance (by decide +kernel) (pa_cons (pv 0) (pa_cons (pe_bltn (v:=.ty "tuple") (by rfl) T.zb_tuple (by decide +kernel) rfl) pa_nil))))) (pw_or1 (pt_cmpR (op_neP (K:=K) rfl hr.units) (pe_callB (call_lenK (K:=K) rfl) (by rfl) T.zb_len (by decide +kernel) (pa_cons (pv 0) pa_nil)) (pe_callB (call_lenK (K:=K) rfl) (by rfl) T.zb_len (by decide +kernel) (pa_cons (pv 1) pa_nil)) (nomark _))))) (pss_one (ps_ret pe_bl)) pss_nil)))
    (pss_one (ps_ret (pe_callB (cr_allK (K:=K) rfl rfl) (by rfl) T.zb_all (by decide +kernel) (pa_cons (pe_lc (own:=[("_law_one",2),("_law_other",3)]) (g:=(gTup K 2 (gCons (gName 2) (gCons (gName 3) gNil)))) (by rfl) sc_Lsame.nd (pi_zipK (K:=K) rfl (by rfl) T.zb_zip (pa_cons (pv 0) (pa_cons (pv 1) pa_nil))) (blkOk_by (own:=[("_law_one",2),("_law_other",3)]) (N:=N_Lsame) (sc:=defScope s_Lsame) (by decide +kernel)) (fun _ _ _ _ _=>(pg_tupK (K:=K) rfl rfl (pgs_cons (pg_name (i:=2) sc_Lsame.nd rfl (Or.inl rfl) (Or.inr rfl)) (pgs_cons (pg_name (i:=3) sc_Lsame.nd rfl (Or.inl rfl) (Or.inr rfl)) pgs_nil)))) (fun _ _ _ _ _=>pts_nil) (fun _ _ _ _ _=>(pe_cl c_Lsame_2 (hr.mono (by omega)) (by rfl) passL (pa_cons (pv 2) (pa_cons (pv 3) pa_nil))))) pa_nil))))))))), ?_⟩
   exact body3 (x:=LsameB (csOf w K mg) (Lsame (csOf w K mg) n)) (W:=fun cls dd _ H=>E cls dd H) h (fun _ _ _ _ z=>z) (lift_seq (lift_ifs (lift_tst (lift_op rl_isN (lift_v 1) lift_non)) (lift_ret (lift_op rl_isN (lift_v 0) lift_non)) lift_next)
    (lift_seq (lift_ifs (lift_tB (lift_cb rl_isi (lift_cons (lift_v 1) (lift_cons (lift_ty _) lift_nil)))) (lift_ret (lift_andV (lift_cb rl_isi (lift_cons (lift_v 0) (lift_cons (lift_ty _) lift_nil))) (lift_op rl_eqP (lift_v 0) (lift_v 1)))) lift_next)
    (lift_seq (lift_ifs (lift_tB (lift_cb rl_isi (lift_cons (lift_v 1) (lift_cons (lift_ty _) lift_nil)))) (lift_ret (lift_andV (lift_cb rl_isi (lift_cons (lift_v 0) (lift_cons (lift_ty _) lift_nil))) (lift_andV (lift_notV (lift_cb rl_isi (lift_cons (lift_v 0) (lift_cons (lift_ty _) lift_nil)))) (lift_op rl_eqP (lift_v 0) (lift_v 1))))) lift_next)
    (lift_seq (lift_ifs (lift_tB (lift_cb rl_isi (lift_cons (lift_v 1) (lift_cons (lift_ty _) lift_nil)))) (lift_ret (lift_andV (lift_cb rl_isi (lift_cons (lift_v 0) (lift_cons (lift_ty _) lift_nil))) (lift_op rl_eqP (lift_v 0) (lift_v 1)))) lift_next)
    (lift_seq (lift_ifs (lift_tB (lift_cb rl_isi (lift_cons (lift_v 1) (lift_cons (lift_ty _) lift_nil)))) (lift_ifs (lift_or (lift_not (lift_tB (lift_cb rl_isi (lift_cons (lift_v 0) (lift_cons (lift_ty _) lift_nil))))) (lift_tst (lift_op rl_neP (lift_cb rl_len (lift_cons (lift_v 0) lift_nil)) (lift_cb rl_len (lift_cons (lift_v 1) lift_nil))))) (lift_ret (lift_bl _)) lift_next) (lift_ifs (lift_or (lift_not (lift_tB (lift_cb rl_isi (lift_cons (lift_v 0) (lift_cons (lift_ty _) lift_nil))))) (lift_tst (lift_op rl_neP (lift_cb rl_len (lift_cons (lift_v 0) lift_nil)) (lift_cb rl_len (lift_cons (lift_v 1) lift_nil))))) (lift_ret (lift_bl _)) lift_next))
    (lift_ret (lift_cb rl_all (lift_cons (lift_lc (vs:=[2,3]) (lift_iZ (lift_cons (lift_v 0) (lift_cons (lift_v 1) lift_nil))) (lift_gtup (lift_gcons (lift_name 2 (by decide)) (lift_gcons (lift_name 3 (by decide)) lift_gnil))) lift_yes (lift_call0 (lift_cons (lift_v 2) (lift_cons (lift_v 3) lift_nil)) h_Lsame_2) (fun _ _ _ _ _ z=>z)) lift_nil)))))))) (fun ds Q3 X _ hf=>by rw [Lsame_succ] at hf;exact hf)
theorem ok_Lnames (T:Top w K mg) (base:Heap):OkF P w K mg base (L2.CX P w) "_law_names" "_law_names" s_Lnames [] [] [] 2 ["_law_pot_here","_law_many"] (spP K 2 (Lnames (csOf w K mg))):=by
 have c_Ltake_2:=cl_take T base (P:=P) (w:=w)
 have h_Ltake_2:∀H,RepL K H [] []:=fun _=>.nil
 obtain ⟨f,fd,dvs,kvs,rd,rk,F,hm⟩:=T.d_Lnames.ex
 refine ⟨f,fd,dvs,kvs,rd,rk,F,hm,F.ok sc_Lnames (spP_len rfl) (fun cdv A outer s H vs Q E hr h=> ?_)⟩
 refine ⟨_,(pss_cons (ps_set (i:=2) sc_Lnames.nd rfl (Or.inr rfl) pe_str)
  (pss_cons (ps_set (i:=3) sc_Lnames.nd rfl (Or.inr rfl) (pe_ix (ix_P (K:=K) rfl) (pe_lst (pa_cons pe_str (pa_cons pe_str (pa_cons pe_str (pa_cons pe_str (pa_cons pe_str (pa_cons pe_str (pa_cons pe_str (pa_cons pe_str pa_nil))))))))) (pe_cl c_Ltake_2 (hr.mono (by omega)) (by rfl) pass0 (pa_cons (pv 0) (pa_cons pe_int pa_nil))) (fun _ _=>rfl)))
  (pss_cons (ps_set (i:=4) sc_Lnames.nd rfl (Or.inr rfl) (pe_cl c_Ltake_2 (hr.mono (by omega)) (by rfl) pass0 (pa_cons (pv 0) (pa_cons (pe_op (op_addP (K:=K) rfl) (pe_callB (call_lenK (K:=K) rfl) (by rfl) T.zb_len (by decide +kernel) (pa_cons (pv 3) pa_nil)) pe_int) pa_nil))))
  (pss_cons (ps_set (i:=5) sc_Lnames.nd rfl (Or.inr rfl) (pe_cl c_Ltake_2 (hr.mono (by omega)) (by rfl) pass0 (pa_cons (pv 0) (pa_cons pe_int pa_nil))))
  (pss_cons (ps_set (i:=6) sc_Lnames.nd rfl (Or.inr rfl) (pe_ix (ix_P (K:=K) rfl) (pe_lst (pa_cons pe_int (pa_cons pe_int (pa_cons pe_int (pa_cons pe_int (pa_cons pe_int (pa_cons pe_int pa_nil))))))) (pe_cl c_Ltake_2 (hr.mono (by omega)) (by rfl) pass0 (pa_cons (pv 0) (pa_cons pe_int pa_nil))) (fun _ _=>rfl)))
  (pss_one (ps_ret (pe_lc (own:=[("_law_k",7)]) (g:=(gName 7)) (by rfl) sc_Lnames.nd (pi_range1 (by rfl) T.zb_range (pa_cons (pv 1) pa_nil)) (blkOk_by (own:=[("_law_k",7)]) (N:=N_Lnames) (sc:=defScope s_Lnames) (by decide +kernel)) (fun _ _ _ _ _=>(pg_name (i:=7) sc_Lnames.nd rfl (Or.inl rfl) (Or.inr rfl))) (fun _ _ _ _ _=>pts_nil) (fun _ _ _ _ _=>(pe_op (op_addP (K:=K) rfl) (pe_op (op_addP (K:=K) rfl) (pe_slice (sl_P (K:=K) rfl) (pv 3) po_none (po_some (pv 4))) (pe_ix (ix_P (K:=K) rfl) (pv 2) (pe_op op_mod (pe_op (op_addP (K:=K) rfl) (pv 5) (pe_op op_mulP (pv 6) (pv 7))) pe_int) (fun _ _=>rfl))) (pe_slice (sl_P (K:=K) rfl) (pv 3) (po_some (pv 4)) po_none))))))))))), ?_⟩
 exact bodyP (x:=fun p=>LnamesB (csOf w K mg) p) (W:=fun cls dd _ H=>E cls dd H) h (fun _ _ _ _ z=>z) (fun p cc=>(lift_seq (lift_asg (lift_str _) (lift_name (vs:=[2]) 2 (by decide)))
  (lift_seq (lift_asg (lift_op rl_ixP (lift_lst (lift_cons (lift_str _) (lift_cons (lift_str _) (lift_cons (lift_str _) (lift_cons (lift_str _) (lift_cons (lift_str _) (lift_cons (lift_str _) (lift_cons (lift_str _) (lift_cons (lift_str _) lift_nil))))))))) (lift_callP0 (lift_cons (lift_v 0) (lift_cons (lift_int _) lift_nil)) h_Ltake_2)) (lift_name (vs:=[3]) 3 (by decide)))
  (lift_seq (lift_asg (lift_callP0 (lift_cons (lift_v 0) (lift_cons (lift_op rl_addP (lift_cb rl_len (lift_cons (lift_v 3) lift_nil)) (lift_int _)) lift_nil)) h_Ltake_2) (lift_name (vs:=[4]) 4 (by decide)))
  (lift_seq (lift_asg (lift_callP0 (lift_cons (lift_v 0) (lift_cons (lift_int _) lift_nil)) h_Ltake_2) (lift_name (vs:=[5]) 5 (by decide)))
  (lift_seq (lift_asg (lift_op rl_ixP (lift_lst (lift_cons (lift_int _) (lift_cons (lift_int _) (lift_cons (lift_int _) (lift_cons (lift_int _) (lift_cons (lift_int _) (lift_cons (lift_int _) lift_nil))))))) (lift_callP0 (lift_cons (lift_v 0) (lift_cons (lift_int _) lift_nil)) h_Ltake_2)) (lift_name (vs:=[6]) 6 (by decide)))
  (lift_ret (lift_lc (vs:=[7]) (lift_iR (lift_cons (lift_v 1) lift_nil)) (lift_name 7 (by decide)) lift_yes (lift_op rl_addP (lift_op rl_addP (lift_sl rl_slP (lift_v 3) lift_po0 (lift_po (lift_v 4))) (lift_op rl_ixP (lift_v 2) (lift_op rl_mod (lift_op rl_addP (lift_v 5) (lift_op rl_mulP (lift_v 6) (lift_v 7))) (lift_int _)))) (lift_sl rl_slP (lift_v 3) (lift_po (lift_v 4)) lift_po0)) (fun _ _ _ _ _ z=>z))))))))) (fun p ds Q3 X _ hf=>by rw [Lnames_def] at hf;exact hf)
theorem ok_Lsome (T:Top w K mg) (base:Heap):OkF P w K mg base (L2.CX P w) "_law_some" "_law_some" s_Lsome [] [] [] 2 ["_law_pot_here","_law_things","_law_most"] (spP K 3 (Lsome (csOf w K mg))):=by
 have c_Ltake_2:=cl_take T base (P:=P) (w:=w)
 have h_Ltake_2:∀H,RepL K H [] []:=fun _=>.nil
 obtain ⟨f,fd,dvs,kvs,rd,rk,F,hm⟩:=T.d_Lsome.ex
 refine ⟨f,fd,dvs,kvs,rd,rk,F,hm,F.ok sc_Lsome (spP_len rfl) (fun cdv A outer s H vs Q E hr h=> ?_)⟩
 refine ⟨_,(pss_cons (ps_set (i:=3) sc_Lsome.nd rfl (Or.inl rfl) (pe_callTy (call_listK (K:=K) rfl) (by rfl) T.zb_list (by decide +kernel) (pa_cons (pv 1) pa_nil)))
  (pss_cons (ps_set (i:=4) sc_Lsome.nd rfl (Or.inl rfl) (pe_lst pa_nil))
  (pss_cons (ps_for (passes_of rfl) (by rfl) (pi_range1 (by rfl) T.zb_range (pa_cons (pe_callB (call_min2 rfl) (by rfl) T.zb_min (by decide +kernel) (pa_cons (pv 2) (pa_cons (pe_callB (call_lenK (K:=K) rfl) (by rfl) T.zb_len (by decide +kernel) (pa_cons (pv 3) pa_nil)) pa_nil))) pa_nil)) (pg_name (i:=5) sc_Lsome.nd rfl (Or.inl rfl))
  (pss_one (ps_expr (pe_bm PySem.F.plainAttrs_list PySem.F.slot_list_append PySem.F.type_list_append mt_append (pv 4) (pa_cons (pe_bm PySem.F.plainAttrs_list PySem.F.slot_list_pop PySem.F.type_list_pop mt_popAt (pv 3) (pa_cons (pe_cl c_Ltake_2 (hr.mono (by omega)) (by rfl) pass0 (pa_cons (pv 0) (pa_cons (pe_callB (call_lenK (K:=K) rfl) (by rfl) T.zb_len (by decide +kernel) (pa_cons (pv 3) pa_nil)) pa_nil))) pa_nil)) pa_nil)))))
  (pss_one (ps_ret (pe_callTy (call_tupleK (K:=K) rfl) (by rfl) T.zb_tuple (by decide +kernel) (pa_cons (pv 4) pa_nil))))))), ?_⟩
 exact bodyP (x:=fun p=>LsomeB (csOf w K mg) p) (W:=fun cls dd _ H=>E cls dd H) h (fun _ _ _ _ z=>z) (fun p cc=>(lift_seq (lift_ownset (lift_frList (lift_cons (lift_v 1) lift_nil)))
  (lift_seq (lift_ownset (lift_frLst lift_nil))
  (lift_seq (lift_for (vs:=[5]) (lift_iR (lift_cons (lift_cb rl_min2 (lift_cons (lift_v 2) (lift_cons lift_lenO lift_nil))) lift_nil)) (lift_name 5 (by decide))
  (lift_appPop (lift_callP0 (lift_cons (lift_v 0) (lift_cons lift_lenO lift_nil)) h_Ltake_2)))
  (lift_frz (i:=4) (lift_ret (lift_cb rl_tuple (lift_cons (lift_v 4) lift_nil)))))))) (fun p ds Q3 X _ hf=>by rw [Lsome_def] at hf;exact hf)
theorem ok_Lform (T:Top w K mg) (base:Heap):OkF P w K mg base (L2.CX P w) "_law_form" "_law_form" s_Lform [] [] [] 3 ["_law_pot_here","_law_most"] (spP K 2 (Lform (csOf w K mg))):=by
 obtain ⟨v_Lnames_2,h_Lnames_2,c_Lnames_2⟩:=((ok_Lnames T base (P:=P) (w:=w)).cl (fun _ _ _ _ _ _ us hl=>match us,hl with | [_,_],_=>rfl)).ex
 obtain ⟨v_Lsome_3,h_Lsome_3,c_Lsome_3⟩:=((ok_Lsome T base (P:=P) (w:=w)).cl (fun _ _ _ _ _ _ us hl=>match us,hl with | [_,_,_],_=>rfl)).ex
 have c_Ltake_2:=cl_take T base (P:=P) (w:=w)
 have h_Ltake_2:∀H,RepL K H [] []:=fun _=>.nil
 obtain ⟨f,fd,dvs,kvs,rd,rk,F,hm⟩:=T.d_Lform.ex
 refine ⟨f,fd,dvs,kvs,rd,rk,F,hm,F.ok sc_Lform (spP_len rfl) (fun cdv A outer s H vs Q E hr h=> ?_)⟩
 refine ⟨_,(pss_cons (ps_set (i:=2) sc_Lform.nd rfl (Or.inr rfl) (pe_callTy (call_tupleK (K:=K) rfl) (by rfl) T.zb_tuple (by decide +kernel) (pa_cons (pe_cl c_Lnames_2 (hr.mono (by omega)) (by rfl) (passes_call (takes_of rfl rfl rfl rfl) (fun _ _ _ _ z=>z)) (pa_cons (pv 0) (pa_cons (pe_op (op_addP (K:=K) rfl) pe_int (pe_cl c_Ltake_2 (hr.mono (by omega)) (by rfl) pass0 (pa_cons (pv 0) (pa_cons (pv 1) pa_nil)))) pa_nil))) pa_nil)))
  (pss_cons (ps_set (i:=3) sc_Lform.nd rfl (Or.inl rfl) (pe_cl c_Lsome_3 (hr.mono (by omega)) (by rfl) (passes_call (takes_of rfl rfl rfl rfl) (fun _ _ _ _ z=>z)) (pa_cons (pv 0) (pa_cons (pv 2) (pa_cons (pe_ix (ix_P (K:=K) rfl) (pe_lst (pa_cons pe_int (pa_cons pe_int (pa_cons pe_int (pa_cons pe_int pa_nil))))) (pe_cl c_Ltake_2 (hr.mono (by omega)) (by rfl) pass0 (pa_cons (pv 0) (pa_cons pe_int pa_nil))) (fun _ _=>rfl)) pa_nil)))))
  (pss_cons (ps_set (i:=4) sc_Lform.nd rfl (Or.inl rfl) (pe_callTy (call_tupleK (K:=K) rfl) (by rfl) T.zb_tuple (by decide +kernel) (pa_cons (pe_lc (own:=[("_law_k",5)]) (g:=(gName 5)) (by rfl) sc_Lform.nd (pi_range1 (by rfl) T.zb_range (pa_cons (pe_ix (ix_P (K:=K) rfl) (pe_lst (pa_cons pe_int (pa_cons pe_int (pa_cons pe_int (pa_cons pe_int pa_nil))))) (pe_cl c_Ltake_2 (hr.mono (by omega)) (by rfl) pass0 (pa_cons (pv 0) (pa_cons pe_int pa_nil))) (fun _ _=>rfl)) pa_nil)) (blkOk_by (own:=[("_law_k",5)]) (N:=N_Lform) (sc:=defScope s_Lform) (by decide +kernel)) (fun _ _ _ _ _=>(pg_name (i:=5) sc_Lform.nd rfl (Or.inl rfl) (Or.inr rfl))) (fun _ _ _ _ _=>pts_nil) (fun _ _ _ _ _=>(pe_cl c_Lsome_3 (hr.mono (by omega)) (by rfl) passL (pa_cons (pv 0) (pa_cons (pv 2) (pa_cons (pe_op (op_addP (K:=K) rfl) pe_int (pe_cl c_Ltake_2 (hr.mono (by omega)) (by rfl) pass0 (pa_cons (pv 0) (pa_cons pe_int pa_nil)))) pa_nil)))))) pa_nil)))
  (pss_one (ps_ret (M3.pe_tup (pa_cons (pv 2) (pa_cons (pv 3) (pa_cons (pv 4) (pa_cons (M3.pe_tup pa_nil) pa_nil)))))))))), ?_⟩
 exact bodyP (x:=fun p=>LformB (csOf w K mg) p) (W:=fun cls dd _ H=>E cls dd H) h (fun _ _ _ _ z=>z) (fun p cc=>(lift_seq (lift_asg (lift_cb rl_tuple (lift_cons (lift_callP (fun _ _ _ _ z=>z) (lift_cons (lift_v 0) (lift_cons (lift_op rl_addP (lift_int _) (lift_callP0 (lift_cons (lift_v 0) (lift_cons (lift_v 1) lift_nil)) h_Ltake_2)) lift_nil)) h_Lnames_2) lift_nil)) (lift_name (vs:=[2]) 2 (by decide)))
  (lift_seq (lift_asg (lift_callP (fun _ _ _ _ z=>z) (lift_cons (lift_v 0) (lift_cons (lift_v 2) (lift_cons (lift_op rl_ixP (lift_lst (lift_cons (lift_int _) (lift_cons (lift_int _) (lift_cons (lift_int _) (lift_cons (lift_int _) lift_nil))))) (lift_callP0 (lift_cons (lift_v 0) (lift_cons (lift_int _) lift_nil)) h_Ltake_2)) lift_nil))) h_Lsome_3) (lift_name (vs:=[3]) 3 (by decide)))
  (lift_seq (lift_asg (lift_cb rl_tuple (lift_cons (lift_lc (vs:=[5]) (lift_iR (lift_cons (lift_op rl_ixP (lift_lst (lift_cons (lift_int _) (lift_cons (lift_int _) (lift_cons (lift_int _) (lift_cons (lift_int _) lift_nil))))) (lift_callP0 (lift_cons (lift_v 0) (lift_cons (lift_int _) lift_nil)) h_Ltake_2)) lift_nil)) (lift_name 5 (by decide)) lift_yes (lift_callP0 (lift_cons (lift_v 0) (lift_cons (lift_v 2) (lift_cons (lift_op rl_addP (lift_int _) (lift_callP0 (lift_cons (lift_v 0) (lift_cons (lift_int _) lift_nil)) h_Ltake_2)) lift_nil))) h_Lsome_3) (fun _ _ _ _ _ z=>z)) lift_nil)) (lift_name (vs:=[4]) 4 (by decide)))
  (lift_ret (lift_tup (lift_cons (lift_v 2) (lift_cons (lift_v 3) (lift_cons (lift_v 4) (lift_cons (lift_tup lift_nil) lift_nil)))))))))) (fun p ds Q3 X _ hf=>by rw [Lform_def] at hf;exact hf)
theorem ok_Lname_fine (T:Top w K mg) (base:Heap):OkF P w K mg base (L2.CX P w) "_law_name_fine" "_law_name_fine" s_Lname_fine [] [] [] 1 ["_law_name"] (sp3 K 1 (Lname_fine (csOf w K mg))):=by
 obtain ⟨f,fd,dvs,kvs,rd,rk,F,hm⟩:=T.d_Lname_fine.ex
 refine ⟨f,fd,dvs,kvs,rd,rk,F,hm,F.ok sc_Lname_fine (sp3_len rfl) (fun cdv A outer s H vs Q E hr h=> ?_)⟩
 refine ⟨_,(pss_one (ps_ret (pe_and (pe_chain (op_leP (K:=K) rfl hr.units) (op_leP (K:=K) rfl hr.units) pe_int (pe_callB (call_lenK (K:=K) rfl) (by rfl) T.zb_len (by decide +kernel) (pa_cons (pv 0) pa_nil)) pe_int) (pe_one (pe_callB (cr_allK (K:=K) rfl rfl) (by rfl) T.zb_all (by decide +kernel) (pa_cons (pe_lc (own:=[("_law_sign",1)]) (g:=(gName 1)) (by rfl) sc_Lname_fine.nd (pi_P (K:=K) rfl (pv 0)) (blkOk_by (own:=[("_law_sign",1)]) (N:=N_Lname_fine) (sc:=defScope s_Lname_fine) (by decide +kernel)) (fun _ _ _ _ _=>(pg_name (i:=1) sc_Lname_fine.nd rfl (Or.inl rfl) (Or.inr rfl))) (fun _ _ _ _ _=>pts_nil) (fun _ _ _ _ _=>(pe_cmpR (op_inP (K:=K) rfl) (pv 1) pe_str (by rfl)))) pa_nil)))))), ?_⟩
 exact body3 (x:=Lname_fineB (csOf w K mg)) (W:=fun cls dd _ H=>E cls dd H) h (fun _ _ _ _ z=>z) (lift_ret (lift_andV (lift_chain rl_leP rl_leP (lift_int _) (lift_cb rl_len (lift_cons (lift_v 0) lift_nil)) (lift_int _)) (lift_cb rl_all (lift_cons (lift_lc (vs:=[1]) (lift_iP (lift_v 0)) (lift_name 1 (by decide)) lift_yes (lift_op (rl_inP false) (lift_v 1) (lift_str _)) (fun _ _ _ _ _ z=>z)) lift_nil)))) (fun ds Q3 X _ hf=>by rw [Lname_fine_def] at hf;exact hf)
theorem ok_Ldue (T:Top w K mg) (base:Heap):OkF P w K mg base (L2.CX P w) "_law_due" "_law_due" s_Ldue [] [] [] 2 ["_law_model","_law_called","_law_form_here"] (sp3 K 3 (Ldue (csOf w K mg))):=by
 obtain ⟨v_Lname_fine_1,h_Lname_fine_1,c_Lname_fine_1⟩:=((ok_Lname_fine T base (P:=P) (w:=w)).cl (fun _ _ _ _ _ _ us hl=>match us,hl with | [_],_=>rfl)).ex
 obtain ⟨f,fd,dvs,kvs,rd,rk,F,hm⟩:=T.d_Ldue.ex
 refine ⟨f,fd,dvs,kvs,rd,rk,F,hm,F.ok sc_Ldue (sp3_len rfl) (fun cdv A outer s H vs Q E hr h=> ?_)⟩
 refine ⟨_,(pss_cons (ps_if (pt_not (pt_val (pe_cl c_Lname_fine_1 (hr.mono (by omega)) (by rfl) (passes_call (takes_of rfl rfl rfl rfl) (fun _ _ _ _ z=>z)) (pa_cons (pv 1) pa_nil)))) (pss_one (ps_ret (M3.pe_tup (pa_cons pe_str (pa_cons (pv 1) pa_nil))))) pss_nil)
  (pss_cons (ps_if (pt_cmpR (op_inP (K:=K) rfl) (pv 1) (pe_dget (Nat.lt_of_le_of_lt (Nat.add_le_add_left (by decide:1≤64) _) hr.units) (pv 0) pe_str (fun _ _=>rfl)) (by rfl)) (pss_one (ps_ret (M3.pe_tup (pa_cons pe_str (pa_cons (pv 1) pa_nil))))) pss_nil)
  (pss_cons (ps_if (pt_cmpR (op_gtP (K:=K) rfl hr.units) (pe_callB (call_lenK (K:=K) rfl) (by rfl) T.zb_len (by decide +kernel) (pa_cons (pe_dget (Nat.lt_of_le_of_lt (Nat.add_le_add_left (by decide:1≤64) _) hr.units) (pv 0) pe_str (fun _ _=>rfl)) pa_nil)) pe_int (nomark _)) (pss_one (ps_ret (M3.pe_tup (pa_cons pe_str pa_nil)))) pss_nil)
  (pss_cons (ps_if (pt_cmpR (op_ltP (K:=K) rfl hr.units) (pe_lenSetT (K:=K) rfl rfl (by rfl) T.zb_len (by rfl) T.zb_set (pe_ix (ix_P (K:=K) rfl) (pv 2) pe_int (fun _ _=>rfl))) (pe_callB (call_lenK (K:=K) rfl) (by rfl) T.zb_len (by decide +kernel) (pa_cons (pe_ix (ix_P (K:=K) rfl) (pv 2) pe_int (fun _ _=>rfl)) pa_nil)) (nomark _)) (pss_one (ps_ret (M3.pe_tup (pa_cons pe_str pa_nil)))) pss_nil)
  (pss_cons (ps_if (PW.pt (pw_or (pt_cmpR (op_eqP (K:=K) rfl hr.units) (pe_ix (ix_P (K:=K) rfl) (pv 2) pe_int (fun _ _=>rfl)) (M3.pe_tup pa_nil) (nomark _)) (pw_or1 (pt_cmpR (op_ltP (K:=K) rfl hr.units) (pe_lenSetT (K:=K) rfl rfl (by rfl) T.zb_len (by rfl) T.zb_set (pe_ix (ix_P (K:=K) rfl) (pv 2) pe_int (fun _ _=>rfl))) (pe_callB (call_lenK (K:=K) rfl) (by rfl) T.zb_len (by decide +kernel) (pa_cons (pe_ix (ix_P (K:=K) rfl) (pv 2) pe_int (fun _ _=>rfl)) pa_nil)) (nomark _))))) (pss_one (ps_ret (M3.pe_tup (pa_cons pe_str pa_nil)))) pss_nil)
  (pss_cons (ps_for (passes_of rfl) (by rfl) (pi_P (K:=K) rfl (pe_ix (ix_P (K:=K) rfl) (pv 2) pe_int (fun _ _=>rfl))) (pg_tupK (K:=K) rfl rfl (pgs_cons (pg_name (i:=3) sc_Ldue.nd rfl (Or.inl rfl)) (pgs_cons (pg_name (i:=4) sc_Ldue.nd rfl (Or.inl rfl)) pgs_nil)))
  (pss_one (ps_if (pt_not (pt_val (pe_cl c_Lname_fine_1 (hr.mono (by omega)) (by rfl) (passes_call (takes_of rfl rfl rfl rfl) (fun _ _ _ _ z=>z)) (pa_cons (pv 4) pa_nil)))) (pss_one (ps_ret (M3.pe_tup (pa_cons pe_str pa_nil)))) pss_nil)))
  (pss_cons (ps_for (passes_of rfl) (by rfl) (pi_P (K:=K) rfl (pe_ix (ix_P (K:=K) rfl) (pv 2) pe_int (fun _ _=>rfl))) (pg_tupK (K:=K) rfl rfl (pgs_cons (pg_name (i:=3) sc_Ldue.nd rfl (Or.inl rfl)) (pgs_cons (pg_name (i:=4) sc_Ldue.nd rfl (Or.inl rfl)) pgs_nil)))
  (pss_cons (ps_if (PW.pt (pw_and (pt_cmpR (op_neP (K:=K) rfl hr.units) (pv 4) (pv 1) (nomark _)) (pw_and1 (pt_cmpR (op_notInP (K:=K) rfl) (pv 4) (pe_dget (Nat.lt_of_le_of_lt (Nat.add_le_add_left (by decide:1≤64) _) hr.units) (pv 0) pe_str (fun _ _=>rfl)) (by rfl))))) (pss_one (ps_ret (M3.pe_tup (pa_cons pe_str (pa_cons (pv 4) pa_nil))))) pss_nil)
  (pss_one (ps_if (pt_cmpR (op_neP (K:=K) rfl hr.units) (pe_callB (call_lenK (K:=K) rfl) (by rfl) T.zb_len (by decide +kernel) (pa_cons (pv 3) pa_nil)) (pe_callB (call_lenK (K:=K) rfl) (by rfl) T.zb_len (by decide +kernel) (pa_cons (pe_ifExp (pt_cmpR (op_eqP (K:=K) rfl hr.units) (pv 4) (pv 1) (nomark _)) (pe_ix (ix_P (K:=K) rfl) (pv 2) pe_int (fun _ _=>rfl)) (pe_ix (ix_P (K:=K) rfl) (pe_dget (Nat.lt_of_le_of_lt (Nat.add_le_add_left (by decide:1≤64) _) hr.units) (pe_dget (Nat.lt_of_le_of_lt (Nat.add_le_add_left (by decide:1≤64) _) hr.units) (pv 0) pe_str (fun _ _=>rfl)) (pv 4) (fun _ _=>rfl)) pe_int (fun _ _=>rfl))) pa_nil)) (nomark _)) (pss_one (ps_ret (M3.pe_tup (pa_cons pe_str pa_nil)))) pss_nil))))
  (pss_one (ps_ret (M3.pe_tup (pa_cons pe_str pa_nil))))))))))), ?_⟩
 exact body3 (x:=LdueB (csOf w K mg)) (W:=fun cls dd _ H=>E cls dd H) h (fun _ _ _ _ z=>z) (lift_seq (lift_ifs (lift_not (lift_tB (lift_call (fun _ _ _ _ z=>z) (lift_cons (lift_v 1) lift_nil) h_Lname_fine_1))) (lift_ret (lift_tup (lift_cons (lift_str _) (lift_cons (lift_v 1) lift_nil)))) lift_next)
  (lift_seq (lift_ifs (lift_tst (lift_op (rl_inP false) (lift_v 1) (lift_dget (lift_v 0) (lift_str _)))) (lift_ret (lift_tup (lift_cons (lift_str _) (lift_cons (lift_v 1) lift_nil)))) lift_next)
  (lift_seq (lift_ifs (lift_tst (lift_op rl_gtP (lift_cb rl_len (lift_cons (lift_dget (lift_v 0) (lift_str _)) lift_nil)) (lift_int _))) (lift_ret (lift_tup (lift_cons (lift_str _) lift_nil))) lift_next)
  (lift_seq (lift_ifs (lift_tst (lift_op rl_ltP (lift_lenSet (lift_op rl_ixP (lift_v 2) (lift_int _))) (lift_cb rl_len (lift_cons (lift_op rl_ixP (lift_v 2) (lift_int _)) lift_nil)))) (lift_ret (lift_tup (lift_cons (lift_str _) lift_nil))) lift_next)
  (lift_seq (lift_ifs (lift_or (lift_tst (lift_op rl_eqP (lift_op rl_ixP (lift_v 2) (lift_int _)) (lift_tup lift_nil))) (lift_tst (lift_op rl_ltP (lift_lenSet (lift_op rl_ixP (lift_v 2) (lift_int _))) (lift_cb rl_len (lift_cons (lift_op rl_ixP (lift_v 2) (lift_int _)) lift_nil))))) (lift_ret (lift_tup (lift_cons (lift_str _) lift_nil))) lift_next)
  (lift_seq (lift_for (vs:=[3,4]) (lift_iP (lift_op rl_ixP (lift_v 2) (lift_int _))) (lift_gtup (lift_gcons (lift_name 3 (by decide)) (lift_gcons (lift_name 4 (by decide)) lift_gnil)))
  (lift_ifs (lift_not (lift_tB (lift_call (fun _ _ _ _ z=>z) (lift_cons (lift_v 4) lift_nil) h_Lname_fine_1))) (lift_ret (lift_tup (lift_cons (lift_str _) lift_nil))) lift_next))
  (lift_seq (lift_for (vs:=[3,4]) (lift_iP (lift_op rl_ixP (lift_v 2) (lift_int _))) (lift_gtup (lift_gcons (lift_name 3 (by decide)) (lift_gcons (lift_name 4 (by decide)) lift_gnil)))
  (lift_seq (lift_ifs (lift_and (lift_tst (lift_op rl_neP (lift_v 4) (lift_v 1))) (lift_tst (lift_op (rl_inP true) (lift_v 4) (lift_dget (lift_v 0) (lift_str _))))) (lift_ret (lift_tup (lift_cons (lift_str _) (lift_cons (lift_v 4) lift_nil)))) lift_next)
  (lift_ifs (lift_tst (lift_op rl_neP (lift_cb rl_len (lift_cons (lift_v 3) lift_nil)) (lift_cb rl_len (lift_cons (lift_if (lift_tst (lift_op rl_eqP (lift_v 4) (lift_v 1))) (lift_op rl_ixP (lift_v 2) (lift_int _)) (lift_op rl_ixP (lift_dget (lift_dget (lift_v 0) (lift_str _)) (lift_v 4)) (lift_int _))) lift_nil)))) (lift_ret (lift_tup (lift_cons (lift_str _) lift_nil))) lift_next)))
  (lift_ret (lift_tup (lift_cons (lift_str _) lift_nil)))))))))) (fun ds Q3 X _ hf=>by rw [Ldue_def] at hf;exact hf)
theorem ok_Lmade_so (T:Top w K mg) (base:Heap) {P0:Addr×Str} {Ts0:List (Addr×Str)} (TU:TopU K mg base (P0::Ts0)):OkF P w K mg base (L2.CX P w) "_law_made_so" "_law_made_so" s_Lmade_so [] [] [] 13 ["_law_plan","_law_model"] (spU4 K false 2 (Lmade_so (csOf w K mg)) (P0::Ts0)):=by
 obtain ⟨v_Lsame_2,h_Lsame_2,c_Lsame_2⟩:=((ok_Lsame T base (P:=P) (w:=w) 12).cl (fun _ _ _ _ _ _ us hl=>match us,hl with | [_,_],_=>rfl)).ex
 obtain ⟨v_Plan_empty_1,h_Plan_empty_1,c_Plan_empty_1⟩:=((ok_Plan_empty T base TU (P:=P) (w:=w)).clM T.fm_Plan_empty (fun _ _ _ _ _ _ us hl=>match us,hl with | [_],_=>rfl)).ex
 obtain ⟨v_Plan_follows_1,h_Plan_follows_1,c_Plan_follows_1⟩:=((ok_Plan_follows T base (P:=P) (w:=w)).clM T.fm_Plan_follows (fun _ _ _ _ _ _ us hl=>match us,hl with | [_],_=>rfl)).ex
 obtain ⟨v_Plan_form_2,h_Plan_form_2,c_Plan_form_2⟩:=((ok_Plan_form T base TU (P:=P) (w:=w)).clM T.fm_Plan_form (fun _ _ _ _ _ _ us hl=>match us,hl with | [_,_],_=>rfl)).ex
 obtain ⟨v_Plan_rules_1,h_Plan_rules_1,c_Plan_rules_1⟩:=((ok_Plan_rules T base (P:=P) (w:=w)).clM T.fm_Plan_rules (fun _ _ _ _ _ _ us hl=>match us,hl with | [_],_=>rfl)).ex
 obtain ⟨v_Plan_tables_1,h_Plan_tables_1,c_Plan_tables_1⟩:=((ok_Plan_tables T base (P:=P) (w:=w)).clM T.fm_Plan_tables (fun _ _ _ _ _ _ us hl=>match us,hl with | [_],_=>rfl)).ex
 obtain ⟨f,fd,dvs,kvs,rd,rk,F,hm⟩:=T.d_Lmade_so.ex
 refine ⟨f,fd,dvs,kvs,rd,rk,F,hm,F.ok sc_Lmade_so (spU4_len rfl) (fun cdv A outer s H vs Q E hr h=> ?_)⟩
 refine ⟨_,(pss_cons (ps_if (pt_not (pt_around (pt_val (pe_cl c_Lsame_2 (hr.mono (by omega)) (by rfl) (passes_call (takes_of rfl rfl rfl rfl) (fun _ _ _ _ z=>z)) (pa_cons (pe_clM0 c_Plan_tables_1 T.o_Plan.cl (hr.mono (by omega)) (passes_call (takes_of rfl rfl rfl rfl) (fun _ _ _ _ z=>z)) (pv 0) ) (pa_cons (pe_dget (Nat.lt_of_le_of_lt (Nat.add_le_add_left (by decide:1≤64) _) hr.units) (pv 1) pe_str (fun _ _=>rfl)) pa_nil)))))) (pss_one (ps_ret pe_bl)) pss_nil)
  (pss_cons (ps_expr (pe_bm PySem.F.plainAttrs_list PySem.F.slot_list_append PySem.F.type_list_append mt_append (pe_around (pe_clM0 c_Plan_tables_1 T.o_Plan.cl (hr.mono (by omega)) (passes_call (takes_of rfl rfl rfl rfl) (fun _ _ _ _ z=>z)) (pv 0) )) (pa_cons pe_str pa_nil)))
  (pss_cons (ps_for (passes_of rfl) (by rfl) (pi_P (K:=K) rfl (pe_dget (Nat.lt_of_le_of_lt (Nat.add_le_add_left (by decide:1≤64) _) hr.units) (pv 1) pe_str (fun _ _=>rfl))) (pg_name (i:=2) sc_Lmade_so.nd rfl (Or.inl rfl))
  (pss_cons (ps_set (i:=3) sc_Lmade_so.nd rfl (Or.inl rfl) (pe_clM c_Plan_form_2 T.o_Plan.cl (hr.mono (by omega)) (passes_call (takes_of rfl rfl rfl rfl) (fun _ _ _ _ z=>z)) (pv 0) (pa_cons (pv 2) pa_nil)))
  (pss_one (ps_if (pt_not (pt_around (pt_val (pe_cl c_Lsame_2 (hr.mono (by omega)) (by rfl) (passes_call (takes_of rfl rfl rfl rfl) (fun _ _ _ _ z=>z)) (pa_cons (pe_lst (pa_cons (pe_fldK (K:=K) rfl (pv 3) (by rfl)) (pa_cons (pe_fldK (K:=K) rfl (pv 3) (by rfl)) (pa_cons (pe_fldK (K:=K) rfl (pv 3) (by rfl)) (pa_cons (pe_fldK (K:=K) rfl (pv 3) (by rfl)) pa_nil))))) (pa_cons (pe_callTy (call_listK (K:=K) rfl) (by rfl) T.zb_list (by decide +kernel) (pa_cons (pe_dget (Nat.lt_of_le_of_lt (Nat.add_le_add_left (by decide:1≤64) _) hr.units) (pe_dget (Nat.lt_of_le_of_lt (Nat.add_le_add_left (by decide:1≤64) _) hr.units) (pv 1) pe_str (fun _ _=>rfl)) (pv 2) (fun _ _=>rfl)) pa_nil)) pa_nil)))))) (pss_one (ps_ret pe_bl)) pss_nil))))
  (pss_cons (ps_for (passes_of rfl) (by rfl) (pi_P (K:=K) rfl (pe_dget (Nat.lt_of_le_of_lt (Nat.add_le_add_left (by decide:1≤64) _) hr.units) (pv 1) pe_str (fun _ _=>rfl))) (pg_name (i:=2) sc_Lmade_so.nd rfl (Or.inl rfl))
  (pss_one (ps_expr (pe_bm PySem.F.plainAttrs_list PySem.F.slot_list_append PySem.F.type_list_append mt_append (pe_dget (Nat.lt_of_le_of_lt (Nat.add_le_add_left (by decide:1≤64) _) hr.units) (pe_clM0 c_Plan_empty_1 T.o_Plan.cl (hr.mono (by omega)) passL (pv 0) ) (pv 2) (fun _ _=>rfl)) (pa_cons (M3.pe_tup (pa_cons pe_int pa_nil)) pa_nil)))))
  (pss_cons (ps_set (i:=4) sc_Lmade_so.nd rfl (Or.inl rfl) (pe_clM0 c_Plan_empty_1 T.o_Plan.cl (hr.mono (by omega)) passL (pv 0) ))
  (pss_cons (ps_set (i:=5) sc_Lmade_so.nd rfl (Or.inl rfl) (pe_around (pe_callTy (call_dictLN (K:=K) rfl rfl) (by rfl) T.zb_dict (by decide +kernel) (pa_cons (pe_lc (own:=[("_law_name",2)]) (g:=(gName 2)) (by rfl) sc_Lmade_so.nd (pi_P (K:=K) rfl (pe_dget (Nat.lt_of_le_of_lt (Nat.add_le_add_left (by decide:1≤64) _) hr.units) (pv 1) pe_str (fun _ _=>rfl))) (blkOk_by (own:=[("_law_name",2)]) (N:=N_Lmade_so) (sc:=defScope s_Lmade_so) (by decide +kernel)) (fun _ _ _ _ _=>(pg_name (i:=2) sc_Lmade_so.nd rfl (Or.inl rfl) (Or.inr rfl))) (fun _ _ _ _ _=>pts_nil) (fun _ _ _ _ _=>(M3.pe_tup (pa_cons (pv 2) (pa_cons (pe_lst pa_nil) pa_nil))))) pa_nil))))
  (pss_one (ps_fzS (ps_fzS (ps_ret (pe_around (pe_and (pe_callB (call_isiK' (K:=K) rfl) (by rfl) T.zb_isinstance (by decide +kernel) (pa_cons (pv 4) (pa_cons (pe_bltn (v:=.ty "dict") (by rfl) T.zb_dict (by decide +kernel) rfl) pa_nil))) (pe_and (pe_cmpR (op_eqS (K:=K) rfl (M3.Room.units200 hr)) (pv 4) (pv 5) (nomark _)) (pe_and (pe_cmpR (op_eqP (K:=K) rfl hr.units) (pe_clM0 c_Plan_rules_1 T.o_Plan.cl (hr.mono (by omega)) (passes_call (takes_of rfl rfl rfl rfl) (fun _ _ _ _ z=>z)) (pv 0) ) (pe_lst pa_nil) (nomark _)) (pe_one (pe_cmpR (op_eqP (K:=K) rfl hr.units) (pe_clM0 c_Plan_follows_1 T.o_Plan.cl (hr.mono (by omega)) (passes_call (takes_of rfl rfl rfl rfl) (fun _ _ _ _ z=>z)) (pv 0) ) (pe_lst pa_nil) (nomark _))))))))))))))))), ?_⟩
 exact bodyU4 (x:=fun p=>Lmade_soB (csOf w K mg)) (W:=fun cls dd _ H=>E cls dd H) h (fun _ _ _ _ z=>z) (fun p cc=>(lift_seq4 (lift_ifs4 (lift_not4 (lift_vwKB (e:=⟨false,true,[(csOf w K mg).at_ "Plan"]⟩) (n:=4) (is:=[0,1]) (lift_tB (lift_call (fun _ _ _ _ z=>z) (lift_cons (lift_ofL (lift_methN (fun _ _ _ _ z=>z) (lift_v 0) lift_nil h_Plan_tables_1)) (lift_cons (lift_dget (lift_v 1) (lift_str _)) lift_nil)) h_Lsame_2)))) (lift_ret4 (lift_pu (lift_bl _))) lift_next4)
  (lift_seq4 (lift_drop4 (lift_app4 (lift_vwKC (e:=⟨false,true,[(csOf w K mg).at_ "Plan"]⟩) (n:=4) (is:=[0]) (lift_methN (fun _ _ _ _ z=>z) (lift_v 0) lift_nil h_Plan_tables_1)) (lift_pu (lift_str _))))
  (lift_seq4 (lift_for4E (vs:=[2]) (lift_iP4 (lift_dg4 (lift_pu (lift_v 1)) (lift_pu (lift_str _)))) (lift_name 2 (by decide))
  (lift_seq4 (lift_asg4 (lift_methC (fun _ _ _ _ z=>z) (lift_pu (lift_v 0)) (lift_cons4 (lift_pu (lift_v 2)) lift_nil4) h_Plan_form_2) (lift_name (vs:=[3]) 3 (by decide)))
  (lift_ifs4 (lift_not4 (lift_vwKB (e:=⟨false,true,[]⟩) (n:=2) (is:=[1]) (lift_tB (lift_call (fun _ _ _ _ z=>z) (lift_cons (lift_lst (lift_cons (lift_fld (cl:=[(csOf w K mg).at_ "Form"]) (fun D hD=>by simp only [List.mem_cons,List.not_mem_nil,or_false] at hD;rcases hD with rfl<;>first | exact ⟨T.o_Form.cl,T.n_Form_columns⟩) (lift_v 3)) (lift_cons (lift_fld (cl:=[(csOf w K mg).at_ "Form"]) (fun D hD=>by simp only [List.mem_cons,List.not_mem_nil,or_false] at hD;rcases hD with rfl<;>first | exact ⟨T.o_Form.cl,T.n_Form_key⟩) (lift_v 3)) (lift_cons (lift_fld (cl:=[(csOf w K mg).at_ "Form"]) (fun D hD=>by simp only [List.mem_cons,List.not_mem_nil,or_false] at hD;rcases hD with rfl<;>first | exact ⟨T.o_Form.cl,T.n_Form_others⟩) (lift_v 3)) (lift_cons (lift_fld (cl:=[(csOf w K mg).at_ "Form"]) (fun D hD=>by simp only [List.mem_cons,List.not_mem_nil,or_false] at hD;rcases hD with rfl<;>first | exact ⟨T.o_Form.cl,T.n_Form_refers⟩) (lift_v 3)) lift_nil))))) (lift_cons (lift_cb rl_list (lift_cons (lift_dget (lift_dget (lift_v 1) (lift_str _)) (lift_v 2)) lift_nil)) lift_nil)) h_Lsame_2)))) (lift_ret4 (lift_pu (lift_bl _))) lift_next4)))
  (lift_seq4 (lift_for4E (vs:=[2]) (lift_iP4 (lift_dg4 (lift_pu (lift_v 1)) (lift_pu (lift_str _)))) (lift_name 2 (by decide))
  (lift_drop4 (lift_app4 (lift_dg4 (lift_methC0 (lift_pu (lift_v 0)) lift_nil4 h_Plan_empty_1) (lift_pu (lift_v 2))) (lift_pu (lift_tup (lift_cons (lift_int _) lift_nil))))))
  (lift_seq4 (lift_asg4 (lift_methC0 (lift_pu (lift_v 0)) lift_nil4 h_Plan_empty_1) (lift_name (vs:=[4]) 4 (by decide)))
  (lift_seq4 (lift_asg4 (lift_vwKC (e:=⟨false,true,[]⟩) (n:=2) (is:=[1]) (LiftFrK.o (lift_frDictL (lift_cons (lift_lc (vs:=[2]) (lift_iP (lift_dget (lift_v 1) (lift_str _))) (lift_name 2 (by decide)) lift_yes (lift_tup (lift_cons (lift_v 2) (lift_cons (lift_lst lift_nil) lift_nil))) (fun _ _ _ _ _ z=>z)) lift_nil)))) (lift_name (vs:=[5]) 5 (by decide)))
  (lift_gvS (i:=5) (n:=1) (lift_gvS (i:=4) (n:=2) (lift_ret4 (lift_vwK (e:=⟨false,true,[(csOf w K mg).at_ "Plan"]⟩) (n:=4) (is:=[0]) (lift_andV (lift_cb rl_isi (lift_cons (lift_v 4) (lift_cons (lift_ty _) lift_nil))) (lift_andV (lift_op rl_eqSm (lift_v 4) (lift_v 5)) (lift_andV (lift_op rl_eqP (lift_meth (fun _ _ _ _ z=>z) (lift_v 0) lift_nil h_Plan_rules_1) (lift_lst lift_nil)) (lift_op rl_eqP (lift_meth (fun _ _ _ _ z=>z) (lift_v 0) lift_nil h_Plan_follows_1) (lift_lst lift_nil)))))))))))))))) (fun p ds M Q4 X _ hd hf=>by rw [Lmade_so_def] at hf;exact hf)
abbrev QL:Str:=("law"++".<locals>.":Str)++"<lambda>"
set_option maxHeartbeats 8000000 in
theorem ok_law (T:Top w K mg) (base:Heap) (hp:Plain (csOf w K mg)) {P0:Addr×Str} {Ts0:List (Addr×Str)} (TU:TopU K mg base (P0::Ts0)) {f cL PL:Addr} {kV doc pm ct oc:Value} {an od:Option Addr} {osl:Array (Option Value)} (lk:K.lookup f=some ⟨oc,od,.func (PySem.W.fnOf "law" "law" (defArgs s_law) (defBody s_law) (defScope s_law) .none kV doc pm an (.ref cL) ct),osl⟩) (hcd:PySem.W.codeIn K (.ref cL) "law"=true) (TB:LamX.TabB base mg cL PL) (hmT:(PL,QL)∈P0::Ts0) (hu:∀p∈P0::Ts0,p.1=PL→p.2=QL):FnOk P w K mg base CX0 14 f (PySem.W.fnOf "law" "law" (defArgs s_law) (defBody s_law) (defScope s_law) .none kV doc pm an (.ref cL) ct) ["_law_script"] (spLawU K (P0::Ts0)):=by
 obtain ⟨v_Ldue_3,h_Ldue_3,c_Ldue_3⟩:=((ok_Ldue T base (P:=P) (w:=w)).cl (fun _ _ _ _ _ _ us hl=>match us,hl with | [_,_,_],_=>rfl)).ex
 obtain ⟨v_Lform_2,h_Lform_2,c_Lform_2⟩:=((ok_Lform T base (P:=P) (w:=w)).cl (fun _ _ _ _ _ _ us hl=>match us,hl with | [_,_],_=>rfl)).ex
 obtain ⟨v_Lmade_so_2,h_Lmade_so_2,c_Lmade_so_2⟩:=((ok_Lmade_so T base TU (P:=P) (w:=w)).cl (fun _ _ _ _ _ _ us hl=>match us,hl with | [_,_],_=>rfl)).ex
 obtain ⟨v_Lnames_2,h_Lnames_2,c_Lnames_2⟩:=((ok_Lnames T base (P:=P) (w:=w)).cl (fun _ _ _ _ _ _ us hl=>match us,hl with | [_,_],_=>rfl)).ex
 obtain ⟨v_Lsame_2,h_Lsame_2,c_Lsame_2⟩:=((ok_Lsame T base (P:=P) (w:=w) 12).cl (fun _ _ _ _ _ _ us hl=>match us,hl with | [_,_],_=>rfl)).ex
 obtain ⟨v_Lsome_3,h_Lsome_3,c_Lsome_3⟩:=((ok_Lsome T base (P:=P) (w:=w)).cl (fun _ _ _ _ _ _ us hl=>match us,hl with | [_,_,_],_=>rfl)).ex
 have c_Ltake_2:=cl_take T base (P:=P) (w:=w)
 have h_Ltake_2:∀H,RepL K H [] []:=fun _=>.nil
 obtain ⟨v_Plan_form_2,h_Plan_form_2,c_Plan_form_2⟩:=((ok_Plan_form T base TU (P:=P) (w:=w)).clM T.fm_Plan_form (fun _ _ _ _ _ _ us hl=>match us,hl with | [_,_],_=>rfl)).ex
 obtain ⟨v_Plan_init_0,h_Plan_init_0,c_Plan_init_0⟩:=((ok_Plan_init T base TU (P:=P) (w:=w)).mkP T.o_Plan T.fn_Plan (fun _ _ _ _ _ _ us hl=>match us,hl with | [_],_=>rfl)).ex
 obtain ⟨v_Plan_make_3_key_others_refers,h_Plan_make_3_key_others_refers,c_Plan_make_3_key_others_refers⟩:=((ok_Plan_make T base TU (P:=P) (w:=w)).clMN0 T.fm_Plan_make 3 ["key","others","refers"] [] [0,1,2,3,4,5] (by simp) rfl (by decide) (fun _ _ _ _ _ _ us mv ws h1 h2 h3=>match us,mv,ws,h1,h2,h3 with | [_,_,_],[],[_,_,_],_,_,_=>rfl)).ex
 obtain ⟨fw,dVw,kVw,docw,pmw,cdw,ctw,ocw,anw,odw,oslw,m_why,k_why,l_why,cc_why,b_why⟩:=TU.why.ex
 refine fn_of lk hcd sc_law (fun vs H Q E h=> ?_) (fun A outer s H vs Q E hr h=> ?_)
 · obtain ⟨a,ns,rfl,_⟩:=h
   rfl
 obtain ⟨a,ns,rfl,hS,hPL,hQ⟩:=h
 have hcode:(PyProof.Rows.envOfC "law" (defScope s_law) s.heap.objs.size f (Value.ref cL)).code=Value.ref cL:=rfl
 obtain ⟨Ts,eTs⟩:∃Ts:List (Addr×Str),Ts=P0::Ts0:=⟨_,rfl⟩
 rw [←eTs] at hmT hu
 refine ⟨_,(pss_cons (X:=(cxOf CX0 P w K mg base N_law "law" (defScope s_law) f (Value.ref cL) A outer s H E).nox) (ps_set (i:=1) sc_law.nd rfl (Or.inl rfl) (pe_cl (cl_pot T base) (hr.mono (by omega)) (by rfl) pass0 (pa_cons (pv 0) pa_nil))) (pss_cons (ps_set (i:=2) sc_law.nd rfl (Or.inr rfl) (pe_mkC0 c_Plan_init_0 (hr.mono (by omega)) (by rfl) passL ))
  (pss_cons (ps_set (i:=3) sc_law.nd rfl (Or.inl rfl) (pe_disp (pps_cons pe_str (pe_lst pa_nil) (pps_cons pe_str pe_dnewK pps_nil)) (by rfl) (by rfl) (by simp) (by decide)))
  (pss_cons (ps_set (i:=4) sc_law.nd rfl (Or.inl rfl) (pe_cl c_Lnames_2 (hr.mono (by omega)) (by rfl) passL (pa_cons (pv 1) (pa_cons pe_int pa_nil))))
  (pss_cons (ps_for PassesOwn.never (by rfl) (pi_range1 (by rfl) T.zb_range (pa_cons (pe_cl c_Ltake_2 (hr.mono (by omega)) (by rfl) pass0 (pa_cons (pv 1) (pa_cons pe_int pa_nil))) pa_nil)) (pg_name (i:=5) sc_law.nd rfl (Or.inl rfl))
  (pss_cons (ps_set (i:=6) sc_law.nd rfl (Or.inr rfl) (pe_ix (ix_P (K:=K) rfl) (pe_op (op_addP (K:=K) rfl) (pv 4) (pe_lst (pa_cons pe_str (pa_cons pe_str pa_nil)))) (pe_cl c_Ltake_2 (hr.mono (by omega)) (by rfl) pass0 (pa_cons (pv 1) (pa_cons (pe_op (op_addP (K:=K) rfl) pe_int (pe_op op_mulP pe_int (pe_cl c_Ltake_2 (hr.mono (by omega)) (by rfl) pass0 (pa_cons (pv 1) (pa_cons pe_int pa_nil))))) pa_nil))) (fun _ _=>rfl)))
  (pss_cons (ps_asg (pe_cl c_Lform_2 (hr.mono (by omega)) (by rfl) passL (pa_cons (pv 1) (pa_cons pe_int pa_nil))) (pg_tupK (K:=K) rfl rfl (pgs_cons (pg_name (i:=7) sc_law.nd rfl (Or.inr rfl)) (pgs_cons (pg_name (i:=8) sc_law.nd rfl (Or.inr rfl)) (pgs_cons (pg_name (i:=9) sc_law.nd rfl (Or.inr rfl)) (pgs_cons (pg_name (i:=10) sc_law.nd rfl (Or.inr rfl)) pgs_nil))))))
  (pss_cons (ps_for PassesOwn.never (by rfl) (pi_range1 (by rfl) T.zb_range (pa_cons (pe_cl c_Ltake_2 (hr.mono (by omega)) (by rfl) pass0 (pa_cons (pv 1) (pa_cons pe_int pa_nil))) pa_nil)) (pg_name (i:=11) sc_law.nd rfl (Or.inl rfl))
  (pss_cons (ps_set (i:=12) sc_law.nd rfl (Or.inl rfl) (pe_op (op_addP (K:=K) rfl) (pe_dget (Nat.lt_of_le_of_lt (Nat.add_le_add_left (by decide:1≤64) _) hr.units) (pv 3) pe_str (fun _ _=>rfl)) (pe_lst (pa_cons (pv 6) (pa_cons (pe_ix (ix_P (K:=K) rfl) (pv 4) (pe_cl c_Ltake_2 (hr.mono (by omega)) (by rfl) pass0 (pa_cons (pv 1) (pa_cons pe_int pa_nil))) (fun _ _=>rfl)) (pa_cons (pe_ix (ix_P (K:=K) rfl) (pv 4) pe_int (fun _ _=>rfl)) (pa_cons pe_str pa_nil)))))))
  (pss_cons (ps_set (i:=13) sc_law.nd rfl (Or.inl rfl) (pe_ix (ix_P (K:=K) rfl) (pv 12) (pe_cl c_Ltake_2 (hr.mono (by omega)) (by rfl) pass0 (pa_cons (pv 1) (pa_cons (pe_callB (call_lenK (K:=K) rfl) (by rfl) T.zb_len (by decide +kernel) (pa_cons (pv 12) pa_nil)) pa_nil))) (fun _ _=>rfl)))
  (pss_one (ps_set (i:=10) sc_law.nd rfl (Or.inr rfl) (pe_op (op_addP (K:=K) rfl) (pv 10) (M3.pe_tup (pa_cons (M3.pe_tup (pa_cons (pe_cl c_Lsome_3 (hr.mono (by omega)) (by rfl) passL (pa_cons (pv 1) (pa_cons (pv 7) (pa_cons (pe_op (op_addP (K:=K) rfl) pe_int (pe_cl c_Ltake_2 (hr.mono (by omega)) (by rfl) pass0 (pa_cons (pv 1) (pa_cons pe_int pa_nil)))) pa_nil)))) (pa_cons (pv 13) pa_nil))) pa_nil))))))))
  (pss_cons (ps_set (i:=14) sc_law.nd rfl (Or.inl rfl) (pe_cl c_Ltake_2 (hr.mono (by omega)) (by rfl) pass0 (pa_cons (pv 1) (pa_cons pe_int pa_nil))))
  (pss_cons (ps_if (pt_cmpR (op_eqP (K:=K) rfl hr.units) (pv 14) pe_int (nomark _)) (pss_one (ps_set (i:=7) sc_law.nd rfl (Or.inr rfl) (pe_op (op_addP (K:=K) rfl) (pv 7) (pe_slice (sl_P (K:=K) rfl) (pv 7) po_none (po_some pe_int))))) pss_nil)
  (pss_cons (ps_if (pt_cmpR (op_ltP (K:=K) rfl hr.units) (pv 14) pe_int (nomark _)) (pss_one (ps_set (i:=8) sc_law.nd rfl (Or.inr rfl) (pe_ix (ix_P (K:=K) rfl) (pe_lst (pa_cons (M3.pe_tup pa_nil) (pa_cons (pe_op (op_addP (K:=K) rfl) (pv 8) (pe_slice (sl_P (K:=K) rfl) (pv 8) po_none (po_some pe_int))) pa_nil))) (pe_cl c_Ltake_2 (hr.mono (by omega)) (by rfl) pass0 (pa_cons (pv 1) (pa_cons pe_int pa_nil))) (fun _ _=>rfl)))) pss_nil)
  (pss_cons (ps_set (i:=15) sc_law.nd rfl (Or.inl rfl) (M3.pe_tup (pa_cons (pv 7) (pa_cons (pv 8) (pa_cons (pv 9) (pa_cons (pv 10) pa_nil))))))
  (pss_cons (ps_set (i:=16) sc_law.nd rfl (Or.inl rfl) (pe_around (pe_cl c_Ldue_3 (hr.mono (by omega)) (by rfl) passL (pa_cons (pv 3) (pa_cons (pv 6) (pa_cons (pv 15) pa_nil))))))
  (pss_cons (ps_set (i:=17) sc_law.nd rfl (Or.inl rfl) (LamX.pe_lamcall (T:=Ts) (TT:=TTwhyF K 2 (whyT (csOf w K mg)) "none") (k:=6) (by rfl) m_why k_why l_why cc_why b_why sc_Lwhy rfl (Or.inl rfl) (why_givesF (fun s H=>(HdsM.as (i:=1) sc_Lwhy.nd rfl rfl ⟨by rfl,by decide,.inl T.g_BadName⟩ (fun a oe cls d pn hz hf=>pss_one (ps_ret (M3.pe_tup (pa_cons pe_str (pa_cons (pe_xf T.xf_BadName T.nf_BadName_name hz hf (pv 1)) pa_nil))))) (HdsM.as (i:=1) sc_Lwhy.nd rfl rfl ⟨by rfl,by decide,.inl T.g_Taken⟩ (fun a oe cls d pn hz hf=>pss_one (ps_ret (M3.pe_tup (pa_cons pe_str (pa_cons (pe_xf T.xf_Taken T.nf_Taken_name hz hf (pv 1)) pa_nil))))) (HdsM.bare ⟨by rfl,by decide,.inl T.g_Full⟩ (fun a oe cls d pn _ _=>pss_one (ps_ret (M3.pe_tup (pa_cons pe_str pa_nil)))) (HdsM.bare ⟨by rfl,by decide,.inl T.g_BadColumns⟩ (fun a oe cls d pn _ _=>pss_one (ps_ret (M3.pe_tup (pa_cons pe_str pa_nil)))) (HdsM.bare ⟨by rfl,by decide,.inl T.g_BadKey⟩ (fun a oe cls d pn _ _=>pss_one (ps_ret (M3.pe_tup (pa_cons pe_str pa_nil)))) (HdsM.bare ⟨by rfl,by decide,.inl T.g_BadRefer⟩ (fun a oe cls d pn _ _=>pss_one (ps_ret (M3.pe_tup (pa_cons pe_str pa_nil)))) (HdsM.as (i:=1) sc_Lwhy.nd rfl rfl ⟨by rfl,by decide,.inl T.g_NoTable⟩ (fun a oe cls d pn hz hf=>pss_one (ps_ret (M3.pe_tup (pa_cons pe_str (pa_cons (pe_xf T.xf_NoTable T.nf_NoTable_name hz hf (pv 1)) pa_nil))))) (HdsM.bare ⟨by rfl,by decide,.inl T.g_PourError⟩ (fun a oe cls d pn _ _=>pss_one (ps_ret (M3.pe_tup (pa_cons pe_str pa_nil)))) HdsM.nil))))))))) (fun _=>rfl)) TB hcode hmT hu (hr.mono (by omega)) (show LamX.LamS (defScope s_law) _ from LamX.lamS_by (by decide +kernel)) rfl (fun _ _ _ _ _=>rfl) (fun A outer s H E f c' hr=>(pe_clMK c_Plan_make_3_key_others_refers T.o_Plan.cl (hr.mono (by omega)) (passes_call (takes_of rfl rfl rfl rfl) (fun _ _ _ _ z=>z)) (pv 2) (pa_cons (pv 6) (pa_cons (pv 7) pa_nil)) (pk_cons (pv 8) (pk_cons (pv 9) (pk_cons (pv 10) pk_nil)))))))
  (pss_cons (ps_if (pt_not (pt_val (pe_cl c_Lsame_2 (hr.mono (by omega)) (by rfl) passL (pa_cons (pv 17) (pa_cons (pv 16) pa_nil))))) (pss_one (ps_ret pe_bl)) pss_nil)
  (pss_cons (ps_if (pt_cmpR (op_eqP (K:=K) rfl hr.units) (pv 16) (M3.pe_tup (pa_cons pe_str pa_nil)) (nomark _)) (pss_cons (ps_asg (pe_op (op_addP (K:=K) rfl) (pe_dget (Nat.lt_of_le_of_lt (Nat.add_le_add_left (by decide:1≤64) _) hr.units) (pv 3) pe_str (fun _ _=>rfl)) (pe_lst (pa_cons (pv 6) pa_nil))) (pg_sub (pv 3) pe_str (set_dict (Nat.lt_of_le_of_lt (Nat.add_le_add_left (by decide:1≤64) _) hr.units))))
  (pss_one (ps_asg (pv 15) (pg_sub (pe_dget (Nat.lt_of_le_of_lt (Nat.add_le_add_left (by decide:1≤64) _) hr.units) (pv 3) pe_str (fun _ _=>rfl)) (pv 6) (set_dict (Nat.lt_of_le_of_lt (Nat.add_le_add_left (by decide:1≤64) _) hr.units)))))) pss_nil)
  (pss_cons (ps_set (i:=18) sc_law.nd rfl (Or.inr rfl) (pe_ix (ix_P (K:=K) rfl) (pv 4) (pe_cl c_Ltake_2 (hr.mono (by omega)) (by rfl) pass0 (pa_cons (pv 1) (pa_cons pe_int pa_nil))) (fun _ _=>rfl)))
  (pss_cons (ps_set (i:=19) sc_law.nd rfl (Or.inl rfl) (pe_around (pe_ifExp (pt_cmpR (op_inP (K:=K) rfl) (pv 18) (pe_dget (Nat.lt_of_le_of_lt (Nat.add_le_add_left (by decide:1≤64) _) hr.units) (pv 3) pe_str (fun _ _=>rfl)) (by rfl)) (M3.pe_tup (pa_cons pe_str pa_nil)) (M3.pe_tup (pa_cons pe_str (pa_cons (pv 18) pa_nil))))))
  (pss_one (ps_if (PW.pt (pw_or (pt_not (pt_val (pe_cl c_Lsame_2 (hr.mono (by omega)) (by rfl) passL (pa_cons (LamX.pe_lamcall (T:=Ts) (TT:=TTwhyF K 2 (whyT (csOf w K mg)) "none") (k:=6) (by rfl) m_why k_why l_why cc_why b_why sc_Lwhy rfl (Or.inl rfl) (why_givesF (fun s H=>(HdsM.as (i:=1) sc_Lwhy.nd rfl rfl ⟨by rfl,by decide,.inl T.g_BadName⟩ (fun a oe cls d pn hz hf=>pss_one (ps_ret (M3.pe_tup (pa_cons pe_str (pa_cons (pe_xf T.xf_BadName T.nf_BadName_name hz hf (pv 1)) pa_nil))))) (HdsM.as (i:=1) sc_Lwhy.nd rfl rfl ⟨by rfl,by decide,.inl T.g_Taken⟩ (fun a oe cls d pn hz hf=>pss_one (ps_ret (M3.pe_tup (pa_cons pe_str (pa_cons (pe_xf T.xf_Taken T.nf_Taken_name hz hf (pv 1)) pa_nil))))) (HdsM.bare ⟨by rfl,by decide,.inl T.g_Full⟩ (fun a oe cls d pn _ _=>pss_one (ps_ret (M3.pe_tup (pa_cons pe_str pa_nil)))) (HdsM.bare ⟨by rfl,by decide,.inl T.g_BadColumns⟩ (fun a oe cls d pn _ _=>pss_one (ps_ret (M3.pe_tup (pa_cons pe_str pa_nil)))) (HdsM.bare ⟨by rfl,by decide,.inl T.g_BadKey⟩ (fun a oe cls d pn _ _=>pss_one (ps_ret (M3.pe_tup (pa_cons pe_str pa_nil)))) (HdsM.bare ⟨by rfl,by decide,.inl T.g_BadRefer⟩ (fun a oe cls d pn _ _=>pss_one (ps_ret (M3.pe_tup (pa_cons pe_str pa_nil)))) (HdsM.as (i:=1) sc_Lwhy.nd rfl rfl ⟨by rfl,by decide,.inl T.g_NoTable⟩ (fun a oe cls d pn hz hf=>pss_one (ps_ret (M3.pe_tup (pa_cons pe_str (pa_cons (pe_xf T.xf_NoTable T.nf_NoTable_name hz hf (pv 1)) pa_nil))))) (HdsM.bare ⟨by rfl,by decide,.inl T.g_PourError⟩ (fun a oe cls d pn _ _=>pss_one (ps_ret (M3.pe_tup (pa_cons pe_str pa_nil)))) HdsM.nil))))))))) (fun _=>rfl)) TB hcode hmT hu (hr.mono (by omega)) (show LamX.LamS (defScope s_law) _ from LamX.lamS_by (by decide +kernel)) rfl (fun _ _ _ _ _=>rfl) (fun A outer s H E f c' hr=>(pe_clM c_Plan_form_2 T.o_Plan.cl (hr.mono (by omega)) (passes_call (takes_of rfl rfl rfl rfl) (fun _ _ _ _ z=>z)) (pv 2) (pa_cons (pv 18) pa_nil)))) (pa_cons (pv 19) pa_nil))))) (pw_or1 (pt_not (pt_val (pe_cl c_Lmade_so_2 (hr.mono (by omega)) (by rfl) passL (pa_cons (pv 2) (pa_cons (pv 3) pa_nil)))))))) (pss_one (ps_ret pe_bl)) pss_nil))))))))))))))))
  (pss_one (ps_ret pe_bl))))))).nox, ?_⟩
 subst eTs
 refine ⟨_,rfl,a,ns,rfl,hS,fun p cc H1 hp0 hc0 hpt hH=> ?_⟩
 exact law_rest4 (x:=lawB (csOf w K mg) p) (W:=fun _ _ _ _=>False) 18 (lift_seq4 (lift_asg4 (lift_mkC0 (C:=(csOf w K mg).at_ "Plan") lift_nil4 h_Plan_init_0) (lift_name (vs:=[2]) 2 (by decide)))
  (lift_seq4 (lift_asg4 (lift_dispC (.cons (lift_pu (lift_lst lift_nil)) (.cons (lift_newD lift_frNewK) .nil))) (lift_name (vs:=[3]) 3 (by decide)))
  (lift_seq4 (lift_asg4 (lift_pu (lift_callP0 (lift_cons (lift_v 1) (lift_cons (lift_int _) lift_nil)) h_Lnames_2)) (lift_name (vs:=[4]) 4 (by decide)))
  (lift_seq4 (lift_for4 (vs:=[5]) (lift_iR (lift_cons (lift_callP0 (lift_cons (lift_v 1) (lift_cons (lift_int _) lift_nil)) h_Ltake_2) lift_nil)) (lift_name 5 (by decide))
  (lift_seq4 (lift_asg4 (lift_pu (lift_op rl_ixP (lift_op rl_addP (lift_v 4) (lift_lst (lift_cons (lift_str _) (lift_cons (lift_str _) lift_nil)))) (lift_callP0 (lift_cons (lift_v 1) (lift_cons (lift_op rl_addP (lift_int _) (lift_op rl_mulP (lift_int _) (lift_callP0 (lift_cons (lift_v 1) (lift_cons (lift_int _) lift_nil)) h_Ltake_2))) lift_nil)) h_Ltake_2))) (lift_name (vs:=[6]) 6 (by decide)))
  (lift_seq4 (lift_asg4 (vs:=[7,8,9,10]) (lift_pu (lift_callP0 (lift_cons (lift_v 1) (lift_cons (lift_int _) lift_nil)) h_Lform_2)) (lift_gtup (lift_gcons (lift_name 7 (by decide)) (lift_gcons (lift_name 8 (by decide)) (lift_gcons (lift_name 9 (by decide)) (lift_gcons (lift_name 10 (by decide)) lift_gnil))))))
  (lift_seq4 (lift_for4 (vs:=[11]) (lift_iR (lift_cons (lift_callP0 (lift_cons (lift_v 1) (lift_cons (lift_int _) lift_nil)) h_Ltake_2) lift_nil)) (lift_name 11 (by decide))
  (lift_seq4 (lift_asg4 (lift_op4 rl_addP (lift_dg4 (lift_pu (lift_v 3)) (lift_pu (lift_str _))) (lift_pu (lift_lst (lift_cons (lift_v 6) (lift_cons (lift_op rl_ixP (lift_v 4) (lift_callP0 (lift_cons (lift_v 1) (lift_cons (lift_int _) lift_nil)) h_Ltake_2)) (lift_cons (lift_op rl_ixP (lift_v 4) (lift_int _)) (lift_cons (lift_str _) lift_nil))))))) (lift_name (vs:=[12]) 12 (by decide)))
  (lift_seq4 (lift_asg4 (lift_pu (lift_op rl_ixP (lift_v 12) (lift_callP0 (lift_cons (lift_v 1) (lift_cons (lift_cb rl_len (lift_cons (lift_v 12) lift_nil)) lift_nil)) h_Ltake_2))) (lift_name (vs:=[13]) 13 (by decide)))
  (lift_asg4 (lift_pu (lift_op rl_addP (lift_v 10) (lift_tup (lift_cons (lift_tup (lift_cons (lift_callP0 (lift_cons (lift_v 1) (lift_cons (lift_v 7) (lift_cons (lift_op rl_addP (lift_int _) (lift_callP0 (lift_cons (lift_v 1) (lift_cons (lift_int _) lift_nil)) h_Ltake_2)) lift_nil))) h_Lsome_3) (lift_cons (lift_v 13) lift_nil))) lift_nil)))) (lift_name (vs:=[10]) 10 (by decide))))))
  (lift_seq4 (lift_asg4 (lift_pu (lift_callP0 (lift_cons (lift_v 1) (lift_cons (lift_int _) lift_nil)) h_Ltake_2)) (lift_name (vs:=[14]) 14 (by decide)))
  (lift_seq4 (lift_ifs4 (lift_pu (lift_tst (lift_op rl_eqP (lift_v 14) (lift_int _)))) (lift_asg4 (lift_pu (lift_op rl_addP (lift_v 7) (lift_sl rl_slP (lift_v 7) lift_po0 (lift_po (lift_int _))))) (lift_name (vs:=[7]) 7 (by decide))) lift_next4)
  (lift_seq4 (lift_ifs4 (lift_pu (lift_tst (lift_op rl_ltP (lift_v 14) (lift_int _)))) (lift_asg4 (lift_pu (lift_op rl_ixP (lift_lst (lift_cons (lift_tup lift_nil) (lift_cons (lift_op rl_addP (lift_v 8) (lift_sl rl_slP (lift_v 8) lift_po0 (lift_po (lift_int _)))) lift_nil))) (lift_callP0 (lift_cons (lift_v 1) (lift_cons (lift_int _) lift_nil)) h_Ltake_2))) (lift_name (vs:=[8]) 8 (by decide))) lift_next4)
  (lift_seq4 (lift_asg4 (lift_pu (lift_tup (lift_cons (lift_v 7) (lift_cons (lift_v 8) (lift_cons (lift_v 9) (lift_cons (lift_v 10) lift_nil)))))) (lift_name (vs:=[15]) 15 (by decide)))
  (lift_seq4 (lift_asg4 (lift_vwK (e:=⟨false,true,[]⟩) (n:=2) (is:=[3]) (lift_call0 (lift_cons (lift_v 3) (lift_cons (lift_v 6) (lift_cons (lift_v 15) lift_nil))) h_Ldue_3)) (lift_name (vs:=[16]) 16 (by decide)))
  (lift_seq4 (lift_asg4 (lift_lamC (l:=(whyT (csOf w K mg))) (s0:="none") (n:=2) (.inl (by decide)) (fun E=>(lift_methCKX (fun cls dd _ H (z:E cls dd H)=>z) (fun H vs ds ws es r s _ _=>repL_sel _ (r.append ((h_Plan_make_3_key_others_refers H).append s))) (lift_pu (lift_v 2)) (lift_cons4 (lift_pu (lift_v 6)) (lift_cons4 (lift_pu (lift_v 7)) lift_nil4)) (lift_cons4 (lift_pu (lift_v 8)) (lift_cons4 (lift_pu (lift_v 9)) (lift_cons4 (lift_pu (lift_v 10)) lift_nil4)))))) (lift_name (vs:=[17]) 17 (by decide)))
  (lift_seq4 (lift_ifs4 (lift_pu (lift_not (lift_tB (lift_call0 (lift_cons (lift_v 17) (lift_cons (lift_v 16) lift_nil)) h_Lsame_2)))) (lift_ret4 (lift_pu (lift_bl _))) lift_next4)
  (lift_seq4 (lift_ifs4 (lift_pu (lift_tst (lift_op rl_eqP (lift_v 16) (lift_tup (lift_cons (lift_str _) lift_nil))))) (lift_seq4 (lift_put4 (lift_pu (lift_v 3)) (lift_pu (lift_str _)) (lift_op4 rl_addP (lift_dg4 (lift_pu (lift_v 3)) (lift_pu (lift_str _))) (lift_pu (lift_lst (lift_cons (lift_v 6) lift_nil)))))
  (lift_put4 (lift_dg4 (lift_pu (lift_v 3)) (lift_pu (lift_str _))) (lift_pu (lift_v 6)) (lift_pu (lift_v 15)))) lift_next4)
  (lift_seq4 (lift_asg4 (lift_pu (lift_op rl_ixP (lift_v 4) (lift_callP0 (lift_cons (lift_v 1) (lift_cons (lift_int _) lift_nil)) h_Ltake_2))) (lift_name (vs:=[18]) 18 (by decide)))
  (lift_seq4 (lift_asg4 (lift_vwK (e:=⟨false,true,[]⟩) (n:=2) (is:=[3]) (lift_if (lift_tst (lift_op (rl_inP false) (lift_v 18) (lift_dget (lift_v 3) (lift_str _)))) (lift_tup (lift_cons (lift_str _) lift_nil)) (lift_tup (lift_cons (lift_str _) (lift_cons (lift_v 18) lift_nil))))) (lift_name (vs:=[19]) 19 (by decide)))
  (lift_ifs4 (lift_or4 (lift_not4 (lift_tst4 (lift_fn34 (lift_cons4 (lift_lamC (l:=(whyT (csOf w K mg))) (s0:="none") (n:=2) (.inl (by decide)) (fun E=>(lift_methC (fun cls dd _ H (z:E cls dd H)=>z) (lift_pu (lift_v 2)) (lift_cons4 (lift_pu (lift_v 18)) lift_nil4) h_Plan_form_2))) (lift_cons4 (lift_pu (lift_v 19)) lift_nil4)) h_Lsame_2))) (lift_not4 (lift_tst4 (lift_fnU40 (lift_cons4 (lift_pu (lift_v 2)) (lift_cons4 (lift_pu (lift_v 3)) lift_nil4)) h_Lmade_so_2)))) (lift_ret4 (lift_pu (lift_bl _))) lift_next4)))))))))))))))
  (lift_ret4 (lift_pu (lift_bl _))))))) hpt (fun q hq=>LamX.TabS.nil (hH _ _ (hPL q hq))) hQ (hp p)
end
end Law
namespace Law
open PySem L2 M3
theorem comp_map {i:Nat} {te:E3} {σ:List Sl} {X:X3} {h:T→T} {Q:List T→Prop}:∀(ds acc:List T),(∀d∈ds,∀Q':T→Prop,te (σ.set i (.val d)) Q' X=Q' (h d))→acc.length+ds.length≤100000→comp3 (name3 i) yes3 te σ X Q ds acc=Q (acc++ds.map h)
 | [],acc,_,_=>by simp [comp3]
 | d::ds,acc,hd,hl=>by
   have e1:=hd d (List.mem_cons_self ..)
   have e2:=comp_map (i:=i) (te:=te) (σ:=σ) (X:=X) (h:=h) (Q:=Q) ds (acc++[h d]) (fun x hx=>hd x (List.mem_cons_of_mem _ hx)) (by simp at hl ⊢;omega)
   have e3:acc.length<sizeLine:=by
    have:sizeLine=16777216:=by decide
    simp at hl;omega
   show (te (σ.set i (.val d)) (fun y=>acc.length<sizeLine∧comp3 (name3 i) yes3 te σ X Q ds (acc++[y])) X)=_
   rw [e1,e2]
   simp [e3]
@[simp] theorem at_0 (x:T) (xs:List T):atI (x::xs) 0=some x:=atI_nat (j:=0) rfl
@[simp] theorem at_1 (x y:T) (xs:List T):atI (x::y::xs) 1=some y:=atI_nat (j:=1) rfl
@[simp] theorem at_2 (x y z:T) (xs:List T):atI (x::y::z::xs) 2=some z:=atI_nat (j:=2) rfl
@[simp] theorem at_3 (x y z u:T) (xs:List T):atI (x::y::z::u::xs) 3=some u:=atI_nat (j:=3) rfl
theorem sl_small {n:Nat} (h:n≤100000):n≤sizeLine:=Nat.le_trans h (by decide)
abbrev abc:Str:="abcdefghijklmnopqrstuvwxyz"
def fine (z:Str):Bool:=decide (1≤z.length∧z.length≤8)&&z.cps.toList.all fun c=>decide (c∈abc.cps.toList)
theorem letters_comp {i:Nat} {σ:List Sl} {X:X3} {Q:List T→Prop} (z:Str) (hz:z.length≤1000) (hi:i<σ.length):
 comp3 (name3 i) yes3 (op3 (inP false) (v3 i) (k3 (.str abc))) σ X Q (z.cps.toList.map chT) []=Q (z.cps.toList.map fun c=>.bl (decide (c∈abc.cps.toList))):=by
 rw [comp_map (h:=fun d=>match asCh d with | some c=>.bl (decide (c∈abc.cps.toList)) | none=>.non) (z.cps.toList.map chT) []]
 · simp [List.map_map,Function.comp_def]
 · intro d hd Q'
   obtain ⟨c,hc,rfl⟩:=List.mem_map.mp hd
   simp [op3,v3,k3,slot,inP,List.getElem?_set_self hi]
 · have:z.cps.toList.length=z.length:=by rw [Array.length_toList];rfl
   simp only [List.length_nil,List.length_map,this];omega
@[simp] theorem bls_dec {α:Type} {p:α→Bool} {l:List α}:bls (l.map fun c=>T.bl (p c))=some (l.map p):=by
 have:=bls_map (l.map p)
 rwa [List.map_map] at this
theorem is_name_eq (C:Cs) (z:Str) (hz:z.length≤1000) (Q:T→Prop) (X:X3):is_name C [.str z] Q X=Q (.bl (fine z)):=by
 rw [is_name_def]
 show is_nameB C _ _=_
 have hl:z.length≤sizeLine:=sl_small (by omega)
 have lc:=fun (Q:List T→Prop) (X:X3)=>letters_comp (i:=1) (σ:=[Sl.val (.str z),Sl.no]) (X:=X) (Q:=Q) z hz (by simp)
 by_cases h1:1≤z.length
 · have h1':(1:Int)≤(z.length:Int):=by omega
   by_cases h2:z.length≤8
   · have h2':(z.length:Int)≤8:=by omega
     simp [is_nameB,seq3,next3,ret3,ifs3,tst3,or3,not3,v3,k3,nil3,cons3,call3,chain3,len3,all3,isi3,start3,slot,tyn,lenT,isiB,Option.bind,kbs,iterP,itemsP,M3.leP,hl,h1,h2,h1',h2',lc3,noOwn,wipe3,lc,fine,List.all_map,Function.comp_def]
   · have h2':¬(z.length:Int)≤8:=by omega
     simp [is_nameB,seq3,next3,ret3,ifs3,tst3,or3,not3,v3,k3,nil3,cons3,call3,chain3,len3,all3,isi3,start3,slot,tyn,lenT,isiB,Option.bind,kbs,M3.leP,hl,h1,h2,h1',h2',fine]
 · have h1':¬(1:Int)≤(z.length:Int):=by omega
   simp [is_nameB,seq3,next3,ret3,ifs3,tst3,or3,not3,v3,k3,nil3,cons3,call3,chain3,len3,all3,isi3,start3,slot,tyn,lenT,isiB,Option.bind,kbs,M3.leP,hl,h1,h1',fine]
def short (xs:List Str):Prop:=xs.length≤100∧∀x∈xs,x.length≤1000
def texts (xs:List Str):List T:=xs.map T.str
theorem map_comp {i:Nat} {te:E3} {σ:List Sl} {X:X3} {p:Str→Bool} {Q:List T→Prop} (xs:List Str) (hx:short xs) (h:∀x∈xs,∀Q':T→Prop,te (σ.set i (.val (.str x))) Q' X=Q' (.bl (p x))):
 comp3 (name3 i) yes3 te σ X Q (texts xs) []=Q (xs.map fun x=>.bl (p x)):=by
 rw [comp_map (h:=fun d=>match asS d with | some x=>.bl (p x) | none=>.non) (texts xs) []]
 · simp [texts,List.map_map,Function.comp_def]
 · intro d hd Q'
   obtain ⟨x,hx',rfl⟩:=List.mem_map.mp hd
   rw [h x hx']
   rfl
 · have:=hx.1
   simp only [texts,List.length_nil,List.length_map];omega
def cols (m:Int) (xs:List Str):Bool:=decide (1≤(xs.length:Int)∧(xs.length:Int)≤m)&&(xs.all fine&&decide (unlTo xs xs.length=xs.length))
theorem are_columns_eq (C:Cs) (xs:List Str) (hx:short xs) (m:Int) (Q:T→Prop) (X:X3):are_columns C [.tup (texts xs),.int m] Q X=Q (.bl (cols m xs)):=by
 rw [are_columns_def]
 show are_columnsB C _ _=_
 have lt:(texts xs).length=xs.length:=by simp [texts]
 have lc:=fun (Q:List T→Prop)=>map_comp (i:=2) (te:=fn30 1 (is_name C) (cons3 (v3 2) nil3) []) (σ:=[Sl.val (.tup (texts xs)),Sl.val (.int m),Sl.no]) (X:=X) (p:=fine) (Q:=Q) xs hx (fun x hm Q'=>by simp [fn30,cons3,nil3,v3,slot,is_name_eq C x (hx.2 x hm)])
 have l1000:xs.length≤1000:=Nat.le_trans hx.1 (by decide)
 have tx:txs (texts xs)=some xs:=strs_map xs
 by_cases h1:(1:Int)≤(xs.length:Int)
 · by_cases h2:(xs.length:Int)≤m
   · cases hf:xs.all fine with
     | true=>
       have hf':∀x∈xs,fine x=true:=by simpa using hf
       simp [are_columnsB,seq3,next3,ret3,ifs3,tst3,or3,not3,andV3,v3,k3,op3,nil3,cons3,call3,chain3,eqS3,len3,all3,isi3,start3,slot,flatT,scal,tyn,lenT,isiB,Option.bind,kbs,eqP,isSeq,iterP,itemsP,M3.leP,lt,h1,h2,lc3,noOwn,wipe3,lc,cols,lenSet3,items,tx,l1000,hf,List.all_map,Function.comp_def,Int.ofNat_inj]
       intro x hm hz
       rw [hf' x hm] at hz
       cases hz
     | false=>
       have hf':∃x∈xs,fine x=false:=by simpa using hf
       obtain ⟨x,hm,hz⟩:=hf'
       simp [are_columnsB,seq3,next3,ret3,ifs3,tst3,or3,not3,andV3,v3,k3,op3,nil3,cons3,call3,chain3,eqS3,len3,all3,isi3,start3,slot,flatT,scal,tyn,lenT,isiB,Option.bind,kbs,eqP,isSeq,iterP,itemsP,M3.leP,lt,h1,h2,lc3,noOwn,wipe3,lc,cols,hf,List.all_map,Function.comp_def]
       intro h
       rw [h x hm] at hz
       cases hz
   · simp [are_columnsB,seq3,next3,ret3,ifs3,tst3,or3,not3,andV3,v3,k3,op3,nil3,cons3,call3,chain3,eqS3,len3,all3,isi3,start3,slot,flatT,scal,tyn,lenT,isiB,Option.bind,kbs,eqP,isSeq,M3.leP,lt,h1,h2,cols]
 · simp [are_columnsB,seq3,next3,ret3,ifs3,tst3,or3,not3,andV3,v3,k3,op3,nil3,cons3,call3,chain3,eqS3,len3,all3,isi3,start3,slot,flatT,scal,tyn,lenT,isiB,Option.bind,kbs,eqP,isSeq,M3.leP,lt,h1,cols]
theorem in_texts (x:Str) (cs:List Str) (Q:T→Prop):inP false (.str x) (.tup (texts cs)) Q=Q (.bl (decide (x∈cs))):=by
 have hf:∀cs:List Str,flats (texts cs)=some (cs.map V.str):=by
  intro cs
  induction cs with
  | nil=>rfl
  | cons c cs ih=>
    show (flats (texts cs)).map (V.str c::·)=_
    rw [ih]
    rfl
 have hi:∀cs:List Str,inV (.str x) (cs.map V.str)=decide (x∈cs):=by
  intro cs
  induction cs with
  | nil=>rfl
  | cons c cs ih=>
    show (c==x||inV (.str x) (cs.map V.str))=_
    rw [ih]
    by_cases e:x=c
    · subst e;simp
    · have z:(c==x)=false:=beq_eq_false_iff_ne.mpr fun y=>e y.symm
      rw [z]
      simp [e]
 show ob (flats (texts cs)) _=_
 rw [hf]
 show Q (.bl (inV (.str x) (cs.map V.str)))=_
 rw [hi]
def partOf (cs xs:List Str):Bool:=cols 3 xs&&xs.all fun x=>decide (x∈cs)
theorem is_part_eq (C:Cs) (xs cs:List Str) (hx:short xs) (Q:T→Prop) (X:X3):is_part C [.tup (texts xs),.tup (texts cs)] Q X=Q (.bl (partOf cs xs)):=by
 rw [is_part_def]
 show is_partB C _ _=_
 have ac:=fun Q X=>are_columns_eq C xs hx 3 Q X
 have lc:=fun (Q:List T→Prop)=>map_comp (i:=2) (te:=op3 (inP false) (v3 2) (v3 1)) (σ:=[Sl.val (.tup (texts xs)),Sl.val (.tup (texts cs)),Sl.no]) (X:=X) (p:=fun x=>decide (x∈cs)) (Q:=Q) xs hx (fun x hm Q'=>by simp [op3,v3,slot,in_texts])
 cases hf:cols 3 xs with
 | true=>simp [is_partB,ret3,andV3,v3,k3,nil3,cons3,call3,fn3,all3,start3,slot,iterP,itemsP,ac,hf,lc3,noOwn,wipe3,lc,partOf,List.all_map,Function.comp_def]
 | false=>simp [is_partB,ret3,andV3,v3,k3,nil3,cons3,call3,fn3,all3,start3,slot,ac,hf,partOf]
theorem any_comp {α:Type} {i:Nat} {te:E3} {σ:List Sl} {X:X3} {tr:α→T} {p:α→Bool} {Q:List T→Prop}:∀(l:List α) (acc:List T),acc.length+l.length≤100000→(∀a∈l,∀Q':T→Prop,te (σ.set i (.val (tr a))) Q' X=Q' (.bl (p a)))→
 comp3 (name3 i) yes3 te σ X Q (l.map tr) acc=Q (acc++l.map fun a=>.bl (p a))
 | [],acc,_,_=>by simp [comp3]
 | a::l,acc,hl,h=>by
   have e1:=h a (List.mem_cons_self ..)
   have e2:=any_comp (i:=i) (te:=te) (σ:=σ) (X:=X) (tr:=tr) (p:=p) (Q:=Q) l (acc++[.bl (p a)]) (by simp at hl ⊢;omega) (fun x hx=>h x (List.mem_cons_of_mem _ hx))
   have e3:acc.length<sizeLine:=by
    have:sizeLine=16777216:=by decide
    simp at hl;omega
   show (te (σ.set i (.val (tr a))) (fun y=>acc.length<sizeLine∧comp3 (name3 i) yes3 te σ X Q (l.map tr) (acc++[y])) X)=_
   rw [e1,e2]
   simp [e3]
inductive Lk where
 | pair (k:List Str) (n:Str)
 | lone (k:List Str)
def Lk.t:Lk→T
 | .pair k n=>.tup [.tup (texts k),.str n]
 | .lone k=>.tup [.tup (texts k)]
structure Fm where
 cs:List Str
 key:List Str
 more:List (List Str)
 links:List Lk
def keyT (k:List Str):T:=.tup (texts k)
def Fm.t (f:Fm):T:=.tup [keyT f.cs,keyT f.key,.tup (f.more.map keyT),.tup (f.links.map Lk.t)]
def Lk.ok:Lk→Prop
 | .pair k n=>short k∧n.length≤1000
 | .lone k=>short k
structure Fm.Ok (f:Fm):Prop where
 cs:short f.cs
 key:short f.key
 more:f.more.length≤100∧∀k∈f.more,short k
 links:f.links.length≤100∧∀k∈f.links,k.ok
def Lk.holds (cs:List Str):Lk→Bool
 | .pair k n=>partOf cs k&&fine n
 | .lone _=>false
def out (f:Fm):Option Str:=
 if cols 6 f.cs=false then some "BadColumns"
 else if (partOf f.cs f.key&&(decide (f.more.length≤2)&&f.more.all (partOf f.cs)))=false then some "BadKey"
 else if (decide (f.links.length≤2)&&f.links.all (Lk.holds f.cs))=false then some "BadRefer" else none
theorem text1:(1:Nat)≤sizeLine:=by decide
theorem ltk (k:List Str):(texts k).length=k.length:=by simp [texts]
abbrev ist (s:Sl) (cs key:List Str) (more:List (List Str)) (links:List Lk) (e:Sl):List Sl:=[s,.val (keyT cs),.val (keyT key),.val (.tup (more.map keyT)),.val (.tup (links.map Lk.t)),e,.no]
section
variable {C:Cs} {s:Sl} {cs key:List Str} {more:List (List Str)} {links:List Lk} {N:N3}
theorem init_1 (h1:short cs) (h:if cols 6 cs=true then N.nx (ist s cs key more links .no) else N.xn (ist s cs key more links .no) ⟨.ref (C.at_ "BadColumns"),[]⟩):Form_init_1 C N (ist s cs key more links .no):=by
 have ac:=fun Q X=>are_columns_eq C cs h1 6 Q X
 by_cases c:cols 6 cs=true
 · rw [if_pos c] at h
   simpa [Form_init_1,ist,keyT,seq3,next3,ret3,retN3,ifs3,drop3,asg3,name3,tst3,and3,or3,not3,andV3,orV3,notV3,if3,v3,k3,op3,un3,nil3,cons3,call3,tup3,lst3,chain3,fn30,fn3,fnN30,fnN3,fnP30,i2,i2c,i1,isN3,notN3,eqS3,neS3,ixL3,ixT3,len3,all3,any3,abs3,max23,min23,isi3,isB3,truth3,start3,slot,flatT,scal,tyn,M3.isNon,lenT,truT,isiB,Option.bind,take3,kbs,addP,mulP,ixP,slP,eqP,neP,isSeq,iterP,itemsP,no3,part3,sl3,raise3,brk3,cont3,M3.ltP,M3.leP,M3.gtP,M3.geP,ac,c] using h
 · rw [if_neg c] at h
   simpa [Form_init_1,Form_init_1t_1,ist,keyT,seq3,next3,ret3,retN3,ifs3,drop3,asg3,name3,tst3,and3,or3,not3,andV3,orV3,notV3,if3,v3,k3,op3,un3,nil3,cons3,call3,tup3,lst3,chain3,fn30,fn3,fnN30,fnN3,fnP30,i2,i2c,i1,isN3,notN3,eqS3,neS3,ixL3,ixT3,len3,all3,any3,abs3,max23,min23,isi3,isB3,truth3,start3,slot,flatT,scal,tyn,M3.isNon,lenT,truT,isiB,Option.bind,take3,kbs,addP,mulP,ixP,slP,eqP,neP,isSeq,iterP,itemsP,no3,part3,sl3,raise3,brk3,cont3,M3.ltP,M3.leP,M3.gtP,M3.geP,ac,c] using h
theorem init_2 (h2:short key) (h:if (partOf cs key&&decide (more.length≤2))=true then N.nx (ist s cs key more links .no) else N.xn (ist s cs key more links .no) ⟨.ref (C.at_ "BadKey"),[]⟩):Form_init_2 C N (ist s cs key more links .no):=by
 have ac:=fun Q X=>is_part_eq C key cs h2 Q X
 by_cases c:partOf cs key=true
 · by_cases c1:more.length≤2
   · have c1':¬(2:Int)<(more.length:Int):=by omega
     rw [if_pos (by simp [c,c1])] at h
     simpa [Form_init_2,ist,keyT,seq3,next3,ret3,retN3,ifs3,drop3,asg3,name3,tst3,and3,or3,not3,andV3,orV3,notV3,if3,v3,k3,op3,un3,nil3,cons3,call3,tup3,lst3,chain3,fn30,fn3,fnN30,fnN3,fnP30,i2,i2c,i1,isN3,notN3,eqS3,neS3,ixL3,ixT3,len3,all3,any3,abs3,max23,min23,isi3,isB3,truth3,start3,slot,flatT,scal,tyn,M3.isNon,lenT,truT,isiB,Option.bind,take3,kbs,addP,mulP,ixP,slP,eqP,neP,isSeq,iterP,itemsP,no3,part3,sl3,raise3,brk3,cont3,M3.ltP,M3.leP,M3.gtP,M3.geP,ac,c,c1'] using h
   · have c1':(2:Int)<(more.length:Int):=by omega
     rw [if_neg (by simp [c,c1])] at h
     simpa [Form_init_2,Form_init_2t_1,ist,keyT,seq3,next3,ret3,retN3,ifs3,drop3,asg3,name3,tst3,and3,or3,not3,andV3,orV3,notV3,if3,v3,k3,op3,un3,nil3,cons3,call3,tup3,lst3,chain3,fn30,fn3,fnN30,fnN3,fnP30,i2,i2c,i1,isN3,notN3,eqS3,neS3,ixL3,ixT3,len3,all3,any3,abs3,max23,min23,isi3,isB3,truth3,start3,slot,flatT,scal,tyn,M3.isNon,lenT,truT,isiB,Option.bind,take3,kbs,addP,mulP,ixP,slP,eqP,neP,isSeq,iterP,itemsP,no3,part3,sl3,raise3,brk3,cont3,M3.ltP,M3.leP,M3.gtP,M3.geP,ac,c,c1'] using h
 · rw [if_neg (by simp [c])] at h
   simpa [Form_init_2,Form_init_2t_1,ist,keyT,seq3,next3,ret3,retN3,ifs3,drop3,asg3,name3,tst3,and3,or3,not3,andV3,orV3,notV3,if3,v3,k3,op3,un3,nil3,cons3,call3,tup3,lst3,chain3,fn30,fn3,fnN30,fnN3,fnP30,i2,i2c,i1,isN3,notN3,eqS3,neS3,ixL3,ixT3,len3,all3,any3,abs3,max23,min23,isi3,isB3,truth3,start3,slot,flatT,scal,tyn,M3.isNon,lenT,truT,isiB,Option.bind,take3,kbs,addP,mulP,ixP,slP,eqP,neP,isSeq,iterP,itemsP,no3,part3,sl3,raise3,brk3,cont3,M3.ltP,M3.leP,M3.gtP,M3.geP,ac,c] using h
theorem init_3 (h3:more.length≤100∧∀k∈more,short k) (h:if more.all (partOf cs)=true then N.nx (ist s cs key more links .no) else N.xn (ist s cs key more links .no) ⟨.ref (C.at_ "BadKey"),[]⟩):Form_init_3 C N (ist s cs key more links .no):=by
 have lc:=fun (Q:List T→Prop) (X:X3)=>any_comp (i:=6) (te:=fn30 2 (is_part C) (cons3 (v3 6) (cons3 (v3 1) nil3)) []) (σ:=ist s cs key more links .no) (X:=X) (tr:=keyT) (p:=partOf cs) (Q:=Q) more [] (by simp;omega) (fun x hm Q'=>by
  simp [ist,fn30,cons3,nil3,v3,slot,keyT,is_part_eq C x cs (h3.2 x hm)])
 simp only [ist,keyT,List.nil_append] at lc
 have hb:bls (List.map (fun a=>T.bl (partOf cs a)) more)=some (more.map (partOf cs)):=by
  have:=bls_map (more.map (partOf cs))
  simpa [List.map_map,Function.comp_def] using this
 cases hf:more.all (partOf cs) with
 | true=>
   rw [if_pos hf] at h
   have hf':∀x∈more,partOf cs x=true:=by simpa using hf
   simp [Form_init_3,ist,keyT,next3,ifs3,tst3,not3,v3,nil3,cons3,call3,all3,slot,iterP,itemsP,lc3,noOwn,wipe3,lc,List.all_map,Function.comp_def]
   rw [if_neg (by rintro ⟨a,ha,hz⟩;rw [hf' a ha] at hz;cases hz)]
   exact h
 | false=>
   rw [if_neg (by simp [hf])] at h
   have hf':∃x,x∈more∧partOf cs x=false:=by simpa using hf
   simp [Form_init_3,Form_init_3t_1,ist,keyT,next3,ifs3,tst3,not3,v3,nil3,cons3,call3,all3,slot,iterP,itemsP,raise3,lc3,noOwn,wipe3,lc,List.all_map,Function.comp_def]
   rw [if_pos hf']
   exact h
theorem init_4 (h:if links.length≤2 then N.nx (ist s cs key more links .no) else N.xn (ist s cs key more links .no) ⟨.ref (C.at_ "BadRefer"),[]⟩):Form_init_4 C N (ist s cs key more links .no):=by
 by_cases c1:links.length≤2
 · have c1':¬(2:Int)<(links.length:Int):=by omega
   rw [if_pos c1] at h
   simpa [Form_init_4,ist,seq3,next3,ret3,retN3,ifs3,drop3,asg3,name3,tst3,and3,or3,not3,andV3,orV3,notV3,if3,v3,k3,op3,un3,nil3,cons3,call3,tup3,lst3,chain3,fn30,fn3,fnN30,fnN3,fnP30,i2,i2c,i1,isN3,notN3,eqS3,neS3,ixL3,ixT3,len3,all3,any3,abs3,max23,min23,isi3,isB3,truth3,start3,slot,flatT,scal,tyn,M3.isNon,lenT,truT,isiB,Option.bind,take3,kbs,addP,mulP,ixP,slP,eqP,neP,isSeq,iterP,itemsP,no3,part3,sl3,raise3,brk3,cont3,M3.ltP,M3.leP,M3.gtP,M3.geP,c1'] using h
 · have c1':(2:Int)<(links.length:Int):=by omega
   rw [if_neg c1] at h
   simpa [Form_init_4,Form_init_4t_1,ist,seq3,next3,ret3,retN3,ifs3,drop3,asg3,name3,tst3,and3,or3,not3,andV3,orV3,notV3,if3,v3,k3,op3,un3,nil3,cons3,call3,tup3,lst3,chain3,fn30,fn3,fnN30,fnN3,fnP30,i2,i2c,i1,isN3,notN3,eqS3,neS3,ixL3,ixT3,len3,all3,any3,abs3,max23,min23,isi3,isB3,truth3,start3,slot,flatT,scal,tyn,M3.isNon,lenT,truT,isiB,Option.bind,take3,kbs,addP,mulP,ixP,slP,eqP,neP,isSeq,iterP,itemsP,no3,part3,sl3,raise3,brk3,cont3,M3.ltP,M3.leP,M3.gtP,M3.geP,c1'] using h
theorem init_body {b c d g:Sl} (l:Lk) (hk:l.ok) (h:if l.holds cs=true then N.nx [s,.val (keyT cs),b,c,d,.val l.t,g] else N.xn [s,.val (keyT cs),b,c,d,.val l.t,g] ⟨.ref (C.at_ "BadRefer"),[]⟩):Form_init_5b C N [s,.val (keyT cs),b,c,d,.val l.t,g]:=by
 cases l with
 | lone k=>
   have q:N.xn [s,.val (keyT cs),b,c,d,.val (Lk.t (.lone k)),g] ⟨.ref (C.at_ "BadRefer"),[]⟩:=by simpa [Lk.holds] using h
   simpa [Form_init_5b,Form_init_5b_1,Form_init_5b_1t_1,Lk.t,seq3,next3,ret3,retN3,ifs3,drop3,asg3,name3,tst3,and3,or3,not3,andV3,orV3,notV3,if3,v3,k3,op3,un3,nil3,cons3,call3,tup3,lst3,chain3,fn30,fn3,fnN30,fnN3,fnP30,i2,i2c,i1,isN3,notN3,eqS3,neS3,ixL3,ixT3,len3,all3,any3,abs3,max23,min23,isi3,isB3,truth3,start3,slot,flatT,scal,tyn,M3.isNon,lenT,truT,isiB,Option.bind,take3,kbs,addP,mulP,ixP,slP,eqP,neP,isSeq,iterP,itemsP,no3,part3,sl3,raise3,brk3,cont3,M3.ltP,M3.leP,M3.gtP,M3.geP,text1] using q
 | pair k n=>
   have e1:=fun Q X=>is_part_eq C k cs hk.1 Q X
   have e2:=fun Q X=>is_name_eq C n hk.2 Q X
   by_cases h1:partOf cs k=true
   · by_cases h2:fine n=true
     · have r:N.nx [s,.val (keyT cs),b,c,d,.val (Lk.t (.pair k n)),g]:=by simpa [Lk.holds,h1,h2] using h
       simpa [Form_init_5b,Form_init_5b_1,Form_init_5b_2,Lk.t,seq3,next3,ret3,retN3,ifs3,drop3,asg3,name3,tst3,and3,or3,not3,andV3,orV3,notV3,if3,v3,k3,op3,un3,nil3,cons3,call3,tup3,lst3,chain3,fn30,fn3,fnN30,fnN3,fnP30,i2,i2c,i1,isN3,notN3,eqS3,neS3,ixL3,ixT3,len3,all3,any3,abs3,max23,min23,isi3,isB3,truth3,start3,slot,flatT,scal,tyn,M3.isNon,lenT,truT,isiB,Option.bind,take3,kbs,addP,mulP,ixP,slP,eqP,neP,isSeq,iterP,itemsP,no3,part3,sl3,raise3,brk3,cont3,M3.ltP,M3.leP,M3.gtP,M3.geP,keyT,e1,e2,h1,h2] using r
     · have q:N.xn [s,.val (keyT cs),b,c,d,.val (Lk.t (.pair k n)),g] ⟨.ref (C.at_ "BadRefer"),[]⟩:=by simpa [Lk.holds,h1,h2] using h
       simpa [Form_init_5b,Form_init_5b_1,Form_init_5b_2,Form_init_5b_2t_1,Lk.t,seq3,next3,ret3,retN3,ifs3,drop3,asg3,name3,tst3,and3,or3,not3,andV3,orV3,notV3,if3,v3,k3,op3,un3,nil3,cons3,call3,tup3,lst3,chain3,fn30,fn3,fnN30,fnN3,fnP30,i2,i2c,i1,isN3,notN3,eqS3,neS3,ixL3,ixT3,len3,all3,any3,abs3,max23,min23,isi3,isB3,truth3,start3,slot,flatT,scal,tyn,M3.isNon,lenT,truT,isiB,Option.bind,take3,kbs,addP,mulP,ixP,slP,eqP,neP,isSeq,iterP,itemsP,no3,part3,sl3,raise3,brk3,cont3,M3.ltP,M3.leP,M3.gtP,M3.geP,keyT,e1,e2,h1,h2,text1] using q
   · have q:N.xn [s,.val (keyT cs),b,c,d,.val (Lk.t (.pair k n)),g] ⟨.ref (C.at_ "BadRefer"),[]⟩:=by simpa [Lk.holds,h1] using h
     simpa [Form_init_5b,Form_init_5b_1,Form_init_5b_1t_1,Lk.t,seq3,next3,ret3,retN3,ifs3,drop3,asg3,name3,tst3,and3,or3,not3,andV3,orV3,notV3,if3,v3,k3,op3,un3,nil3,cons3,call3,tup3,lst3,chain3,fn30,fn3,fnN30,fnN3,fnP30,i2,i2c,i1,isN3,notN3,eqS3,neS3,ixL3,ixT3,len3,all3,any3,abs3,max23,min23,isi3,isB3,truth3,start3,slot,flatT,scal,tyn,M3.isNon,lenT,truT,isiB,Option.bind,take3,kbs,addP,mulP,ixP,slP,eqP,neP,isSeq,iterP,itemsP,no3,part3,sl3,raise3,brk3,cont3,M3.ltP,M3.leP,M3.gtP,M3.geP,keyT,e1,e2,h1,text1] using q
theorem init_loop {b c d g:Sl}:∀(ls:List Lk) (e:Sl),(∀k∈ls,k.ok)→
 (if ls.all (Lk.holds cs)=true then ∀e,N.nx [s,.val (keyT cs),b,c,d,e,g] else ∀σ,N.xn σ ⟨.ref (C.at_ "BadRefer"),[]⟩)→loop3 (name3 5) (Form_init_5b C) N (ls.map Lk.t) [s,.val (keyT cs),b,c,d,e,g]
 | [],e,_,h=>by
   have h:∀e,N.nx [s,.val (keyT cs),b,c,d,e,g]:=by simpa using h
   exact h e
 | l::ls,e,hl,hq=>by
   refine init_body (N:={nx:=loop3 (name3 5) (Form_init_5b C) N (ls.map Lk.t),ct:=loop3 (name3 5) (Form_init_5b C) N (ls.map Lk.t),bk:=N.nx,rt:=N.rt,xn:=N.xn}) l (hl l (List.mem_cons_self ..)) ?_
   by_cases h1:l.holds cs=true
   · rw [if_pos h1]
     refine init_loop ls _ (fun k hk=>hl k (List.mem_cons_of_mem _ hk)) ?_
     simpa [h1] using hq
   · rw [if_neg h1]
     have hq:∀σ,N.xn σ ⟨.ref (C.at_ "BadRefer"),[]⟩:=by simpa [h1] using hq
     exact hq _
end
theorem ne_f1:¬(("columns":Str)="key"):=by decide
theorem ne_f2:¬(("columns":Str)="others"):=by decide
theorem ne_f3:¬(("columns":Str)="refers"):=by decide
theorem ne_f4:¬(("key":Str)="others"):=by decide
theorem ne_f5:¬(("key":Str)="refers"):=by decide
theorem ne_f6:¬(("others":Str)="refers"):=by decide
def formT (C:Cs) (f:Fm):T:=.ins (C.at_ "Form") [("columns",keyT f.cs),("key",keyT f.key),("others",.tup (f.more.map keyT)),("refers",.tup (f.links.map Lk.t))]
def Fm.args (f:Fm):List T:=[keyT f.cs,keyT f.key,.tup (f.more.map keyT),.tup (f.links.map Lk.t)]
theorem init_eq (C:Cs) (f:Fm) (hf:f.Ok) (Q:T→Prop) (X:X3) (h:match out f with | none=>Q (formT C f) | some n=>X ⟨.ref (C.at_ n),[]⟩):Form_init C f.args Q X:=by
 rw [Form_init_def]
 intro x
 obtain ⟨cs,key,more,links⟩:=f
 have h1:short cs:=hf.cs
 have h2:short key:=hf.key
 have h3:more.length≤100∧∀k∈more,short k:=hf.more
 have h4:links.length≤100∧∀k∈links,k.ok:=hf.links
 show Form_initB C _ (ist (.own (selfT x (C.at_ "Form") [])) cs key more links .no)
 unfold Form_initB
 refine init_1 h1 ?_
 unfold out at h
 simp only at h
 by_cases d1:cols 6 cs=true
 · rw [if_pos d1]
   rw [if_neg (by simp [d1])] at h
   refine init_2 h2 ?_
   by_cases d2:(partOf cs key&&decide (more.length≤2))=true
   · rw [if_pos d2]
     have d2':=Bool.and_eq_true_iff.mp d2
     refine init_3 h3 ?_
     by_cases d5:more.all (partOf cs)=true
     · rw [if_pos d5]
       rw [if_neg (by rw [d2'.1,d2'.2,d5];simp)] at h
       refine init_4 ?_
       by_cases d3:links.length≤2
       · rw [if_pos d3]
         have:∀N:N3,(if links.all (Lk.holds cs)=true then ∀e,N.nx (ist (.own (selfT x (C.at_ "Form") [])) cs key more links e) else ∀σ,N.xn σ ⟨.ref (C.at_ "BadRefer"),[]⟩)→Form_init_5 C N (ist (.own (selfT x (C.at_ "Form") [])) cs key more links .no):=by
          intro N hN
          have:=init_loop (C:=C) (cs:=cs) (N:=N) (s:=.own (selfT x (C.at_ "Form") [])) (b:=.val (keyT key)) (c:=.val (.tup (more.map keyT))) (d:=.val (.tup (links.map Lk.t))) (g:=.no) links .no h4.2 hN
          simpa [Form_init_5,ist,for3,seq3,next3,ret3,retN3,ifs3,drop3,asg3,name3,tst3,and3,or3,not3,andV3,orV3,notV3,if3,v3,k3,op3,un3,nil3,cons3,call3,tup3,lst3,chain3,fn30,fn3,fnN30,fnN3,fnP30,i2,i2c,i1,isN3,notN3,eqS3,neS3,ixL3,ixT3,len3,all3,any3,abs3,max23,min23,isi3,isB3,truth3,start3,slot,flatT,scal,tyn,M3.isNon,lenT,truT,isiB,Option.bind,take3,kbs,addP,mulP,ixP,slP,eqP,neP,isSeq,iterP,itemsP,no3,part3,sl3,raise3,brk3,cont3,M3.ltP,M3.leP,M3.gtP,M3.geP] using this
         refine this _ ?_
         by_cases d4:links.all (Lk.holds cs)=true
         · rw [if_pos d4]
           rw [if_neg (by simp [d3,d4])] at h
           intro e
           simpa [Form_init_6,Form_init_7,Form_init_8,Form_init_9,ist,setO3,selfT,ownI,putF3,formT,seq3,next3,ret3,retN3,ifs3,drop3,asg3,name3,tst3,and3,or3,not3,andV3,orV3,notV3,if3,v3,k3,op3,un3,nil3,cons3,call3,tup3,lst3,chain3,fn30,fn3,fnN30,fnN3,fnP30,i2,i2c,i1,isN3,notN3,eqS3,neS3,ixL3,ixT3,len3,all3,any3,abs3,max23,min23,isi3,isB3,truth3,start3,slot,flatT,scal,tyn,M3.isNon,lenT,truT,isiB,Option.bind,take3,kbs,addP,mulP,ixP,slP,eqP,neP,isSeq,iterP,itemsP,no3,part3,sl3,raise3,brk3,cont3,M3.ltP,M3.leP,M3.gtP,M3.geP,ne_f1,ne_f2,ne_f3,ne_f4,ne_f5,ne_f6] using h
         · rw [if_neg d4]
           rw [if_pos (by simp [d3,Bool.eq_false_iff.mpr d4])] at h
           intro σ
           exact h
       · rw [if_neg d3]
         rw [if_pos (by simp [d3])] at h
         exact h
     · rw [if_neg d5]
       rw [if_pos (by simp [Bool.eq_false_iff.mpr d5])] at h
       exact h
   · rw [if_neg d2]
     rw [if_pos (by have:=Bool.eq_false_iff.mpr d2;revert this;cases partOf cs key<;>cases decide (more.length≤2)<;>simp)] at h
     exact h
 · rw [if_neg d1]
   rw [if_pos (Bool.eq_false_iff.mpr d1)] at h
   exact h
end Law
namespace Law
open PySem L2 M3
theorem comp_all {i:Nat} {te:E3} {σ:List Sl} {X:X3} {Q:List T→Prop} (P:T→Prop):∀(ds acc:List T),acc.length+ds.length≤100000→(∀d∈ds,∀Q':T→Prop,(∀y,P y→Q' y)→te (σ.set i (.val d)) Q' X)→
 (∀ys:List T,ys.length=ds.length→(∀y∈ys,P y)→Q (acc++ys))→comp3 (name3 i) yes3 te σ X Q ds acc
 | [],acc,_,_,h=>by
   have:=h [] rfl (by simp)
   simpa [comp3] using this
 | d::ds,acc,hl,hd,h=>by
   have e3:acc.length<sizeLine:=by
    have:sizeLine=16777216:=by decide
    simp at hl;omega
   refine hd d (List.mem_cons_self ..) _ (fun y hy=>⟨e3, ?_⟩)
   refine comp_all P ds (acc++[y]) (by simp at hl ⊢;omega) (fun x hx=>hd x (List.mem_cons_of_mem _ hx)) (fun ys h1 h2=> ?_)
   have:=h (y::ys) (by simp [h1]) (by
    intro z hz
    rcases List.mem_cons.mp hz with e | e
    · exact e ▸ hy
    · exact h2 z e)
   simpa using this
def tx (m:Nat) (xs:List Str):Prop:=xs.length≤m∧∀x∈xs,x.length≤1000
theorem tx.mono {m n:Nat} {xs:List Str} (h:tx m xs) (l:m≤n):tx n xs:=⟨Nat.le_trans h.1 l,h.2⟩
theorem tx.append {m n:Nat} {xs ys:List Str} (h:tx m xs) (h':tx n ys):tx (m+n) (xs++ys):=⟨by simp only [List.length_append];exact Nat.add_le_add h.1 h'.1,fun x hx=>(List.mem_append.mp hx).elim (h.2 x) (h'.2 x)⟩
theorem texts_append (xs ys:List Str):texts xs++texts ys=texts (xs++ys):=by simp [texts]
theorem cut_map {α β:Type} (f:α→β) (xs:List α) (lo hi:Option Int):cut (xs.map f) lo hi=(cut xs lo hi).map f:=by
 simp [cut,List.map_take,List.map_drop]
theorem cut_texts (xs:List Str) (lo hi:Option Int):cut (texts xs) lo hi=texts (cut xs lo hi):=cut_map _ _ _ _
theorem mem_cut {α:Type} {xs:List α} {lo hi:Option Int} {x:α} (h:x∈cut xs lo hi):x∈xs:=List.mem_of_mem_drop (List.mem_of_mem_take h)
theorem cut_le {α:Type} {xs:List α} {lo hi:Option Int}:(cut xs lo hi).length≤xs.length:=by
 unfold cut
 simp only [List.length_take,List.length_drop]
 omega
theorem tx.cut {m:Nat} {xs:List Str} (h:tx m xs) (lo hi:Option Int):tx m (M3.cut xs lo hi):=⟨Nat.le_trans cut_le h.1,fun x hx=>h.2 x (mem_cut hx)⟩
abbrev sg (x:Str):Prop:=PyData.strOk x=true
theorem sg_iff {x:Str}:sg x↔∀c∈x.cps.toList,c<0x110000:=by
 unfold sg PyData.strOk
 rw [←Array.all_toList,List.all_eq_true]
 exact ⟨fun h c hc=>of_decide_eq_true (h c hc),fun h c hc=>decide_eq_true (h c hc)⟩
theorem sl8:8≤sizeLine:=by decide
theorem sl6:6≤sizeLine:=by decide
abbrev lts (x:Str):Prop:=∀c∈x.cps.toList,97≤c∧c≤122
def nm (b:Str) (a c d:Int) (k:Int):Str:=cutS b none (some a)++⟨#[97+((c+d * k) % 26).toNat]⟩++cutS b (some a) none
def strides:List Int:=[1,3,5,7,9,11]
theorem nm_inj {b:Str} {a c d k k':Int} (hd:d∈strides) (h0:0≤k) (h1:k<26) (h2:0≤k') (h3:k'<26) (h:nm b a c d k=nm b a c d k'):k=k':=by
 have e:=congrArg (fun s:Str=>s.cps.toList) h
 have ap:∀x y:Str,(x++y).cps.toList=x.cps.toList++y.cps.toList:=fun x y=>Array.toList_append
 simp only [nm,ap,List.append_assoc,List.append_cancel_left_eq,List.append_cancel_right_eq,List.cons.injEq,and_true] at e
 have e2:97+((c+d * k) % 26).toNat=97+((c+d * k') % 26).toNat:=by
  simpa using e
 have z0:0≤(c+d * k) % 26:=Int.emod_nonneg _ (by decide)
 have z1:0≤(c+d * k') % 26:=Int.emod_nonneg _ (by decide)
 have e3:(c+d * k) % 26=(c+d * k') % 26:=by omega
 simp only [strides,List.mem_cons,List.not_mem_nil,or_false] at hd
 clear e e2 h ap
 rcases hd with rfl | rfl | rfl | rfl | rfl | rfl<;>omega
theorem at_abc {r:Int} (h0:0≤r) (h1:r<26):atI (Str.cps "abcdefghijklmnopqrstuvwxyz").toList r=some (97+r.toNat):=by
 obtain ⟨j,rfl⟩:∃j:Nat,r=j:=⟨r.toNat,by omega⟩
 have hj:j<26:=by omega
 have:∀i:Fin 26,atI (Str.cps "abcdefghijklmnopqrstuvwxyz").toList ((i.val:Nat):Int)=some (97+((i.val:Nat):Int).toNat):=by decide +kernel
 exact this ⟨j,hj⟩
def nmL (b:Str) (a c d:Int) (n:Nat):List Str:=(List.range n).map fun k:Nat=>nm b a c d (k:Int)
theorem names_raw (C:Cs) (p:Addr) {m:Int} (hm0:0≤m) (hm:m≤26) (Q:T→Prop) (X:X3) (h:∀(b:Str) (a c d:Int),b.length≤7→lts b→b.cps.toList≠[122]→d∈strides→Q (.lst (texts (nmL b a c d m.toNat)))):Lnames C [.ref p,.int m] Q X:=by
 rw [Lnames_def]
 show LnamesB C p _ [.val (.ref p),.val (.int m),.no,.no,.no,.no,.no,.no]
 unfold LnamesB
 refine seq_by (fun σ'=>σ'=[.val (.ref p),.val (.int m),.val (.str abc),.no,.no,.no,.no,.no]) (fun nx hn=>hn _ rfl) ?_
 rintro σ' rfl
 refine seq_by (fun σ'=>∃b:Str,(b.length≤7∧lts b∧b.cps.toList≠[122])∧σ'=[.val (.ref p),.val (.int m),.val (.str abc),.val (.str b),.no,.no,.no,.no]) (fun nx hn=> ?_) ?_
 · simp [asg3,name3,v3,k3,op3,nil3,cons3,lst3,fnP30,slot,take3,ixP,sl8]
   refine draw_all (by rfl) ?_
   intro x hx
   simp at hx
   rcases hx with rfl | rfl | rfl | rfl | rfl | rfl | rfl | rfl
   all_goals exact hn _ ⟨_,by decide +kernel,rfl⟩
 rintro σ' ⟨b,⟨hb,gb,zb⟩,rfl⟩
 have hb':b.length≤sizeLine:=sl_small (by omega)
 refine seq_by (fun σ'=>∃a:Int,σ'=[.val (.ref p),.val (.int m),.val (.str abc),.val (.str b),.val (.int a),.no,.no,.no]) (fun nx hn=> ?_) ?_
 · simp [asg3,name3,v3,k3,op3,nil3,cons3,call3,fnP30,len3,slot,lenT,take3,addP,hb']
   refine ⟨by omega, ?_⟩
   first | exact fun r _ _=>hn _ ⟨_,rfl⟩ | exact ⟨by omega,fun r _ _=>hn _ ⟨_,rfl⟩⟩
 rintro σ' ⟨a,rfl⟩
 refine seq_by (fun σ'=>∃c:Int,σ'=[.val (.ref p),.val (.int m),.val (.str abc),.val (.str b),.val (.int a),.val (.int c),.no,.no]) (fun nx hn=> ?_) ?_
 · simp [asg3,name3,v3,k3,nil3,cons3,fnP30,slot,take3]
   exact fun r _ _=>hn _ ⟨_,rfl⟩
 rintro σ' ⟨c,rfl⟩
 refine seq_by (fun σ'=>∃d:Int,d∈strides∧σ'=[.val (.ref p),.val (.int m),.val (.str abc),.val (.str b),.val (.int a),.val (.int c),.val (.int d),.no]) (fun nx hn=> ?_) ?_
 · simp [asg3,name3,v3,k3,op3,nil3,cons3,lst3,fnP30,slot,take3,ixP,sl6]
   refine draw_all (by rfl) ?_
   intro x hx
   simp at hx
   rcases hx with rfl | rfl | rfl | rfl | rfl | rfl
   all_goals exact hn _ ⟨_,by decide,rfl⟩
 rintro σ' ⟨d,hd,rfl⟩
 have hd':0≤d∧d≤11:=by
  simp only [strides,List.mem_cons,List.not_mem_nil,or_false] at hd
  omega
 refine ⟨by simp [noOwn], ?_⟩
 simp only [v3,nil3,cons3,slot,iterR3]
 refine ⟨by omega,by omega, ?_⟩
 show comp3 _ _ _ [.val (.ref p),.val (.int m),.val (.str abc),.val (.str b),.val (.int a),.val (.int c),.val (.int d),.no] _ _ (rangeT 0 m.toNat) []
 rw [comp_map (h:=fun y=>match y with | .int k=>.str (nm b a c d k) | _=>.non) (rangeT 0 m.toNat) []]
 · have e:(rangeT 0 m.toNat).map (fun y=>match y with | .int k=>.str (nm b a c d k) | _=>.non)=texts (nmL b a c d m.toNat):=by
    simp [rangeT,nmL,texts,List.map_map,Function.comp_def]
   show Q (.lst _)
   simp only [List.nil_append,e]
   exact h b a c d hb gb zb hd
 · intro y hy Q'
   obtain ⟨k,hk,k0,k6⟩:∃k:Int,y= .int k∧0≤k∧k<26:=by
    simp [rangeT] at hy
    obtain ⟨k,hk6,rfl⟩:=hy
    exact ⟨_,rfl,by omega,by omega⟩
   subst hk
   have l1:=cutS_length b none (some a)
   have l2:=cutS_length b (some a) none
   have z0:0≤(c+d * k) % 26:=Int.emod_nonneg _ (by decide)
   have z1:(c+d * k) % 26<26:=Int.emod_lt_of_pos _ (by decide)
   have z2:∀c:Nat,(Str.length ⟨#[c]⟩)=1:=fun _=>rfl
   have cm:CMulW d k:=by
    unfold CMulW
    have z1:=Nat.log2_le_self d.natAbs
    have z2:=Nat.log2_le_self k.natAbs
    omega
   simp [v3,k3,op3,i2c,slot,addP,mulP,ixP,slP,no3,part3,sl3,hb',at_abc z0 z1,cm]
   have q1:(cutS b none (some a)).length+(Str.length ⟨#[97+((c+d * k) % 26).toNat]⟩)≤sizeLine:=by
    refine sl_small ?_
    simp only [z2];omega
   have q2:(cutS b none (some a)++⟨#[97+((c+d * k) % 26).toNat]⟩:Str).length+(cutS b (some a) none).length≤sizeLine:=by
    refine sl_small ?_
    simp only [Str.length_append,z2];omega
   exact ⟨fun h=>h.2.2.2,fun h=>⟨by decide,q1,q2,h⟩⟩
 · simp [rangeT];omega
theorem lts_abc {c:Nat} (h0:97≤c) (h1:c≤122):c∈abc.cps.toList:=by
 have:∀i:Fin 26,97+i.val∈abc.cps.toList:=by decide +kernel
 have:=this ⟨c-97,by omega⟩
 simpa [show 97+(c-97)=c by omega] using this
theorem cutS_list (x:Str) (lo hi:Option Int):(cutS x lo hi).cps.toList=cut x.cps.toList lo hi:=by
 show ((((x.cps.toList.drop (HT.sIx x.length 0 lo)).take (HT.sIx x.length x.length hi-HT.sIx x.length 0 lo)).toArray)).toList=_
 unfold cut
 rw [Array.length_toList]
 rfl
theorem lts_cut {x:Str} (h:lts x) (lo hi:Option Int):lts (cutS x lo hi):=fun c hc=>h c (by
 rw [cutS_list] at hc
 exact mem_cut hc)
theorem cut_parts {α:Type} (xs:List α) (a:Int):(cut xs none (some a)).length+(cut xs (some a) none).length≤xs.length:=by
 unfold cut
 have e:HT.sIx xs.length xs.length (some a)=HT.sIx xs.length 0 (some a):=rfl
 rw [e]
 simp only [List.length_take,List.length_drop]
 have h0:HT.sIx xs.length 0 none=0:=rfl
 have h1:HT.sIx xs.length xs.length none=xs.length:=rfl
 rw [h0,h1]
 omega
theorem len_list (x:Str):x.cps.toList.length=x.length:=by rw [Array.length_toList];rfl
theorem nm_zz {b:Str} {a c d k:Int} (zb:b.cps.toList≠[122]):nm b a c d k≠"zz":=by
 intro e
 have ap:∀x y:Str,(x++y).cps.toList=x.cps.toList++y.cps.toList:=fun x y=>Array.toList_append
 have e:=congrArg (fun s:Str=>s.cps.toList) e
 have z2:(Str.cps "zz").toList=[122,122]:=by decide +kernel
 simp only [nm,ap,z2,cutS_list] at e
 have e1:cut b.cps.toList none (some a)=b.cps.toList.take (HT.sIx b.cps.toList.length b.cps.toList.length (some a)):=by
  unfold cut
  have h0:HT.sIx b.cps.toList.length 0 none=0:=rfl
  rw [h0,List.drop_zero,Nat.sub_zero]
 have e2:cut b.cps.toList (some a) none=b.cps.toList.drop (HT.sIx b.cps.toList.length b.cps.toList.length (some a)):=by
  unfold cut
  have h1:HT.sIx b.cps.toList.length b.cps.toList.length none=b.cps.toList.length:=rfl
  have h2:HT.sIx b.cps.toList.length 0 (some a)=HT.sIx b.cps.toList.length b.cps.toList.length (some a):=rfl
  rw [h1,h2]
  exact List.take_of_length_le (by simp)
 rw [e1,e2] at e
 generalize hj:HT.sIx b.cps.toList.length b.cps.toList.length (some a)=j at e
 have e3:=List.take_append_drop j b.cps.toList
 generalize b.cps.toList.take j=u at e e3
 generalize b.cps.toList.drop j=v at e e3
 apply zb
 rw [←e3]
 cases u with
 | nil=>
   simp at e
   simpa using e.2
 | cons x u=>
   cases u with
   | nil=>simp at e;simp [e.1,e.2.2]
   | cons y u=>simp at e
theorem nm_fine {b:Str} {a c d k:Int} (hb:b.length≤7) (gb:lts b) (zb:b.cps.toList≠[122]):fine (nm b a c d k)=true∧sg (nm b a c d k)∧(nm b a c d k).length≤8∧nm b a c d k≠"zz":=by
 have ap:∀x y:Str,(x++y).cps.toList=x.cps.toList++y.cps.toList:=fun x y=>Array.toList_append
 have z0:0≤(c+d * k) % 26:=Int.emod_nonneg _ (by decide)
 have z1:(c+d * k) % 26<26:=Int.emod_lt_of_pos _ (by decide)
 have hl:lts (nm b a c d k):=by
  intro x hx
  unfold nm at hx
  rw [ap,ap] at hx
  simp only [List.mem_append] at hx
  rcases hx with (hx | hx) | hx
  · exact lts_cut gb _ _ x hx
  · have:x=97+((c+d * k) % 26).toNat:=by simpa using hx
    omega
  · exact lts_cut gb _ _ x hx
 have h8:(nm b a c d k).length≤8:=by
  have e:=cut_parts b.cps.toList a
  rw [←cutS_list, ←cutS_list,len_list,len_list,len_list] at e
  unfold nm
  have o1:(Str.length ⟨#[97+((c+d * k) % 26).toNat]⟩)=1:=rfl
  simp only [Str.length_append,o1]
  omega
 have h1:1≤(nm b a c d k).length:=by
  unfold nm
  have o1:(Str.length ⟨#[97+((c+d * k) % 26).toNat]⟩)=1:=rfl
  simp only [Str.length_append,o1]
  omega
 refine ⟨?_, ?_,h8,nm_zz zb⟩
 · unfold fine
   rw [Bool.and_eq_true]
   refine ⟨decide_eq_true ⟨h1,h8⟩, ?_⟩
   rw [List.all_eq_true]
   intro x hx
   have:=hl x hx
   exact decide_eq_true (lts_abc this.1 this.2)
 · rw [sg_iff]
   intro x hx
   have:=hl x hx
   omega
theorem names_ok (C:Cs) (p:Addr) {m:Int} (hm0:0≤m) (hm:m≤26) (Q:T→Prop) (X:X3) (h:∀ns:List Str,ns.length=m.toNat→ns.Nodup→(∀x∈ns,fine x=true∧sg x∧x.length≤8∧x≠"zz")→Q (.lst (texts ns))):Lnames C [.ref p,.int m] Q X:=by
 refine names_raw C p hm0 hm Q X fun b a c d hb gb zb hd=>h _ (by simp [nmL]) ?_ ?_
 · unfold nmL
   rw [List.nodup_iff_pairwise_ne,List.pairwise_map]
   refine List.Pairwise.imp_of_mem ?_ (List.nodup_iff_pairwise_ne.mp List.nodup_range)
   intro i j hi hj hne e
   have hi:=List.mem_range.mp hi
   have hj:=List.mem_range.mp hj
   have:=nm_inj hd (by omega) (by omega) (by omega) (by omega) e
   omega
 · intro x hx
   obtain ⟨k,_,rfl⟩:=List.mem_map.mp hx
   exact nm_fine hb gb zb
theorem perm_pop {α:Type} {as bs:List α} {j:Nat} (hj:j<as.length):(as.eraseIdx j++(bs++[as[j]])).Perm (as++bs):=by
 have e:=L2.erase_perm as j as[j] (List.getElem?_eq_getElem hj)
 have h1:(as.eraseIdx j++(bs++[as[j]])).Perm ((as.eraseIdx j++bs)++[as[j]]):=by rw [List.append_assoc]
 have h2:((as.eraseIdx j++bs)++[as[j]]).Perm (as[j]::(as.eraseIdx j++bs)):=List.perm_append_singleton ..
 have h3:(as[j]::(as.eraseIdx j++bs)).Perm (as++bs):=e.append_right bs
 exact h1.trans (h2.trans h3)
theorem some_loop (C:Cs) (p:Addr) {cs:T} {xs:List Str} {n:Int} {N:N3} {m:Nat} (hm:xs.length≤100) (h:∀as bs e,(as++bs).Perm xs→bs.length=m→N.nx [.val (.ref p),.val cs,.val (.int n),.own (.lst (texts as)),.own (.lst (texts bs)),e]):
 ∀(ds:List T) (as bs:List Str) (e:Sl),ds.length≤as.length→(as++bs).Perm xs→bs.length+ds.length=m→loop3 (name3 5) (Lsome_3b C p) N ds [.val (.ref p),.val cs,.val (.int n),.own (.lst (texts as)),.own (.lst (texts bs)),e]
 | [],as,bs,e,_,ht,hb=>h as bs e ht (by simpa using hb)
 | d::ds,as,bs,e,hl,ht,hb=>by
   have l0:=ht.length_eq
   have l1:as.length+bs.length≤100:=by simp at l0;omega
   have l2:0<as.length:=by simp at hl;omega
   show Lsome_3b C p _ [.val (.ref p),.val cs,.val (.int n),.own (.lst (texts as)),.own (.lst (texts bs)),.val d]
   unfold Lsome_3b Lsome_3b_1
   have lt:(texts as).length=as.length:=ltk as
   have lt2:(texts bs).length=bs.length:=ltk bs
   simp [appPop3,ownL,v3,nil3,cons3,fnP30,slot,take3,lenO3,lt,lt2]
   refine ⟨l2,by omega,fun r h0 h1=> ?_⟩
   obtain ⟨j,rfl⟩:∃j:Nat,r=(j:Int):=⟨r.toNat,by omega⟩
   have hj:j<as.length:=by omega
   have e1:seqIndex? (j:Int) as.length=some j:=by
    unfold seqIndex?
    have z:¬((j:Int)<0):=by omega
    simp [hj,z]
   have e2:(texts as)[j]? =some (.str as[j]):=by
    unfold texts
    rw [List.getElem?_map,List.getElem?_eq_getElem hj]
    rfl
   have e3:(texts as).eraseIdx j=texts (as.eraseIdx j):=by
    have:∀(l:List Str) (j:Nat),(l.map T.str).eraseIdx j=(l.eraseIdx j).map T.str:=by
     intro l
     induction l with
     | nil=>intro j;simp
     | cons a l ih=>
       intro j
       cases j with
       | zero=>simp
       | succ j=>simp [ih]
    exact this as j
   refine ⟨by omega, ?_⟩
   rw [e1]
   show ob (texts as)[j]? _
   rw [e2]
   refine ⟨Nat.lt_of_le_of_lt (show bs.length≤100 by omega) (by decide), ?_⟩
   rw [e3]
   have e4:texts bs++[T.str as[j]]=texts (bs++[as[j]]):=by simp [texts]
   rw [e4]
   refine some_loop C p hm h ds (as.eraseIdx j) (bs++[as[j]]) (.val d) ?_ ((perm_pop hj).trans ht) ?_
   · rw [List.length_eraseIdx]
     simp at hl
     split<;>omega
   · simp at hb ⊢
     omega
structure Part (cs xs:List Str) (n:Nat):Prop where
 nd:xs.Nodup
 sub:∀x∈xs,x∈cs
 len:xs.length=min n cs.length
theorem some_ok (C:Cs) (p:Addr) {cs:List Str} {n:Int} (hm:cs.length≤100) (hd:cs.Nodup) (hn0:0≤n) (hn:n≤100) (Q:T→Prop) (X:X3) (h:∀xs,Part cs xs n.toNat→Q (keyT xs)):Lsome C [.ref p,keyT cs,.int n] Q X:=by
 rw [Lsome_def]
 show LsomeB C p _ [.val (.ref p),.val (keyT cs),.val (.int n),.no,.no,.no]
 unfold LsomeB
 refine seq_by (fun σ'=>σ'=[.val (.ref p),.val (keyT cs),.val (.int n),.own (.lst (texts cs)),.no,.no]) (fun nx hn=> ?_) ?_
 · have e:=hn _ rfl
   simpa [Lsome_1,ownset3,seq3,next3,ret3,retN3,ifs3,drop3,asg3,name3,tst3,and3,or3,not3,andV3,orV3,notV3,if3,v3,k3,op3,un3,nil3,cons3,call3,tup3,lst3,chain3,fn30,fn3,fnN30,fnN3,fnP30,i2,i2c,i1,isN3,notN3,eqS3,neS3,ixL3,ixT3,len3,all3,any3,abs3,max23,min23,isi3,isB3,truth3,start3,slot,flatT,scal,tyn,M3.isNon,lenT,truT,isiB,Option.bind,take3,kbs,addP,mulP,ixP,slP,eqP,neP,isSeq,iterP,itemsP,no3,part3,sl3,raise3,brk3,cont3,M3.ltP,M3.leP,M3.gtP,M3.geP,list3,items,keyT] using e
 rintro σ' rfl
 refine seq_by (fun σ'=>σ'=[.val (.ref p),.val (keyT cs),.val (.int n),.own (.lst (texts cs)),.own (.lst (texts [])),.no]) (fun nx hn=> ?_) ?_
 · have e:=hn _ rfl
   simpa [Lsome_2,ownset3,seq3,next3,ret3,retN3,ifs3,drop3,asg3,name3,tst3,and3,or3,not3,andV3,orV3,notV3,if3,v3,k3,op3,un3,nil3,cons3,call3,tup3,lst3,chain3,fn30,fn3,fnN30,fnN3,fnP30,i2,i2c,i1,isN3,notN3,eqS3,neS3,ixL3,ixT3,len3,all3,any3,abs3,max23,min23,isi3,isB3,truth3,start3,slot,flatT,scal,tyn,M3.isNon,lenT,truT,isiB,Option.bind,take3,kbs,addP,mulP,ixP,slP,eqP,neP,isSeq,iterP,itemsP,no3,part3,sl3,raise3,brk3,cont3,M3.ltP,M3.leP,M3.gtP,M3.geP,texts] using e
 rintro σ' rfl
 refine seq_by (fun σ'=>∃as bs e,Part cs bs n.toNat∧σ'=[.val (.ref p),.val (keyT cs),.val (.int n),.own (.lst (texts as)),.own (.lst (texts bs)),e]) (fun nx hx=> ?_) ?_
 · unfold Lsome_3
   refine for_by (fun ds=>ds.length=min n.toNat cs.length) (fun Q X hq=> ?_) (fun ds hds=> ?_)
   · have lt:(texts cs).length=cs.length:=ltk cs
     simp [v3,nil3,cons3,call3,min23,slot,iterR3,lenO3,ownL,lt]
     refine ⟨by split<;>omega,by split<;>omega,hq _ ?_⟩
     simp [rangeT]
     split<;>omega
   refine some_loop C p (xs:=cs) (m:=min n.toNat cs.length) hm (fun as bs e hp hb=>hx _ ⟨as,bs,e,⟨?_,fun x hx=> ?_,hb⟩,rfl⟩) ds cs [] .no (by omega) (by simp) (by simpa using hds)
   · exact (List.nodup_append.mp (hp.nodup_iff.mpr hd)).2.1
   · exact hp.mem_iff.mp (List.mem_append_right _ hx)
 rintro σ' ⟨as,bs,e,hb,rfl⟩
 have e:=h bs hb
 simpa [Lsome_4,frz3,thaw,seq3,next3,ret3,retN3,ifs3,drop3,asg3,name3,tst3,and3,or3,not3,andV3,orV3,notV3,if3,v3,k3,op3,un3,nil3,cons3,call3,tup3,lst3,chain3,fn30,fn3,fnN30,fnN3,fnP30,i2,i2c,i1,isN3,notN3,eqS3,neS3,ixL3,ixT3,len3,all3,any3,abs3,max23,min23,isi3,isB3,truth3,start3,slot,flatT,scal,tyn,M3.isNon,lenT,truT,isiB,Option.bind,take3,kbs,addP,mulP,ixP,slP,eqP,neP,isSeq,iterP,itemsP,no3,part3,sl3,raise3,brk3,cont3,M3.ltP,M3.leP,M3.gtP,M3.geP,tuple3,items,keyT] using e
structure GF (f:Fm):Prop where
 ok:f.Ok
 out:out f=none
 c0:1≤f.cs.length
 c1:f.cs.length≤6
 nd:f.cs.Nodup
 sg:∀x∈f.cs,sg x
 key:∀x∈f.key,x∈f.cs
 k3:f.key.length≤3
 k1:1≤f.key.length
 kn:f.key.Nodup
 m2:f.more.length≤2
 mo:∀k∈f.more,(∀x∈k,x∈f.cs)∧k.length≤3∧1≤k.length∧k.Nodup
 fine:∀x∈f.cs,fine x=true∧x.length≤8
 nz:∀x∈f.cs,x≠"zz"
theorem part_of {cs xs:List Str} {n:Nat} (h:Part cs xs n) (hc:∀x∈cs,fine x=true) (h0:1≤cs.length) (hn:1≤n) (h3:n≤3):partOf cs xs=true:=by
 have hl:=h.len
 unfold partOf cols
 simp only [Bool.and_eq_true,List.all_eq_true,decide_eq_true_eq]
 refine ⟨⟨⟨by omega,by omega⟩,fun x hx=>hc x (h.sub x hx), ?_⟩,h.sub⟩
 exact (unlTo_nodup xs).mpr h.nd
theorem gf_mk {cs key:List Str} {more:List (List Str)} (h0:1≤cs.length) (h6:cs.length≤6) (hd:cs.Nodup) (hc:∀x∈cs,fine x=true∧sg x∧x.length≤8∧x≠"zz") {n:Nat} (hn:1≤n) (hn3:n≤3) (hk:Part cs key n) (hm:more.length≤2) (hms:∀k∈more,∃n,1≤n∧n≤3∧Part cs k n):GF ⟨cs,key,more,[]⟩:=by
 have hf:∀x∈cs,fine x=true:=fun x hx=>(hc x hx).1
 have pk:=part_of hk hf h0 hn hn3
 have pm:∀k∈more,partOf cs k=true:=fun k hk'=>by
  obtain ⟨n',h1,h13,h2⟩:=hms k hk'
  exact part_of h2 hf h0 h1 h13
 have sh:∀xs:List Str,(∀x∈xs,x∈cs)→xs.length≤6→short xs:=fun xs hs hl=>⟨Nat.le_trans hl (by decide),fun x hx=>by have:=(hc x (hs x hx)).2.2.1;omega⟩
 have lk:key.length≤3:=by have:=hk.len;omega
 refine ⟨⟨sh cs (fun _ h=>h) h6,sh key hk.sub (by omega),⟨Nat.le_trans hm (by decide),fun k hk'=> ?_⟩,⟨by simp,by simp⟩⟩, ?_,h0,h6,hd,fun x hx=>(hc x hx).2.1,hk.sub,lk,by have:=hk.len;show 1≤key.length;omega,hk.nd,hm,fun k hk'=> ?_,fun x hx=>⟨(hc x hx).1,(hc x hx).2.2.1⟩,fun x hx=>(hc x hx).2.2.2⟩
 · obtain ⟨n',h1,h13,h2⟩:=hms k hk'
   exact sh k h2.sub (by have:=h2.len;omega)
 · have cc:cols 6 cs=true:=by
    unfold cols
    simp only [Bool.and_eq_true,List.all_eq_true,decide_eq_true_eq]
    exact ⟨⟨by omega,by omega⟩,hf,(unlTo_nodup cs).mpr hd⟩
   have ma:more.all (partOf cs)=true:=by rw [List.all_eq_true];exact pm
   unfold out
   simp [cc,pk,ma,hm]
 · obtain ⟨n',h1,h13,h2⟩:=hms k hk'
   have:=h2.len
   exact ⟨h2.sub,by omega,by omega,h2.nd⟩
theorem sl4:4≤sizeLine:=by decide
theorem keys_of {P:List Str→Prop}:∀ {ys:List T},(∀y∈ys,∃k,y=keyT k∧P k)→∃ks:List (List Str),ys=ks.map keyT∧∀k∈ks,P k
 | [],_=>⟨[],rfl,by simp⟩
 | y::ys,h=>by
   obtain ⟨k,rfl,hk⟩:=h _ (List.mem_cons_self ..)
   obtain ⟨ks,rfl,hs⟩:=keys_of (ys:=ys) fun y hy=>h y (List.mem_cons_of_mem _ hy)
   exact ⟨k::ks,rfl,fun x hx=>by
    rcases List.mem_cons.mp hx with e | e
    · exact e ▸ hk
    · exact hs x e⟩
theorem form_ok (C:Cs) (p:Addr) {w:Int} (w1:1≤w) (w6:w≤6) (Q:T→Prop) (X:X3) (h:∀f:Fm,GF f→f.links=[]→(f.cs.length:Int)≤w→Q f.t):Lform C [.ref p,.int w] Q X:=by
 rw [Lform_def]
 show LformB C p _ [.val (.ref p),.val (.int w),.no,.no,.no,.no]
 unfold LformB
 refine seq_by (fun σ'=>∃cs:List Str,(1≤cs.length∧(cs.length:Int)≤w)∧cs.Nodup∧(∀x∈cs,fine x=true∧sg x∧x.length≤8∧x≠"zz")∧σ'=[.val (.ref p),.val (.int w),.val (keyT cs),.no,.no,.no]) (fun nx hn=> ?_) ?_
 · simp [asg3,name3,v3,k3,op3,nil3,cons3,call3,fnP30,slot,take3,addP,fnP3,tuple3,items]
   refine ⟨by omega,by omega,fun r r0 r1=> ?_⟩
   refine names_ok C p (by omega) (by omega) _ _ fun ns hl hd hf=> ?_
   exact hn _ ⟨ns,⟨by omega,by omega⟩,hd,hf,rfl⟩
 rintro σ' ⟨cs,⟨c0,c3⟩,hd,hf,rfl⟩
 refine seq_by (fun σ'=>∃key:List Str,(∃n,1≤n∧n≤3∧Part cs key n)∧σ'=[.val (.ref p),.val (.int w),.val (keyT cs),.val (keyT key),.no,.no]) (fun nx hn=> ?_) ?_
 · simp [asg3,name3,v3,k3,op3,nil3,cons3,lst3,fnP30,slot,take3,ixP,fnP3,sl4]
   refine draw_all (by rfl) ?_
   intro x hx
   simp at hx
   rcases hx with rfl | rfl | rfl
   all_goals exact some_ok C p (by omega) hd (by decide) (by decide) _ _ fun key hk=>hn _ ⟨key,⟨_,by decide,by decide,hk⟩,rfl⟩
 rintro σ' ⟨key,⟨n,hn1,hn3,hk⟩,rfl⟩
 refine seq_by (fun σ'=>∃more:List (List Str),more.length≤2∧(∀k∈more,∃n,1≤n∧n≤3∧Part cs k n)∧σ'=[.val (.ref p),.val (.int w),.val (keyT cs),.val (keyT key),.val (.tup (more.map keyT)),.no]) (fun nx hx=> ?_) ?_
 · simp [asg3,name3,v3,k3,op3,nil3,cons3,call3,lst3,fnP30,slot,take3,ixP,lc3,iterR3,noOwn,sl4]
   refine draw_all (by rfl) ?_
   intro x hx'
   have hr:∃r:Nat,x= .int r∧r≤2:=by
    simp at hx'
    rcases hx' with rfl | rfl | rfl
    · exact ⟨0,rfl,by decide⟩
    · exact ⟨1,rfl,by decide⟩
    · exact ⟨2,rfl,by decide⟩
   obtain ⟨r,rfl,hr⟩:=hr
   show _≤(r:Int)∧(r:Int)<_∧_
   refine ⟨by omega,by omega, ?_⟩
   refine comp_all (fun y=>∃k,y=keyT k∧∃n,1≤n∧n≤3∧Part cs k n) _ _ (by simp [rangeT];omega) ?_ ?_
   · intro y hy Q' hq
     simp [wipe3,v3,k3,op3,nil3,cons3,fnP30,slot,take3,addP]
     exact fun r r0 r1=>some_ok C p (by omega) hd (by omega) (by omega) _ _ fun key hk=>hq _ ⟨key,rfl,(1+r).toNat,by omega,by omega,hk⟩
   · intro ys hl hy
     obtain ⟨ks,rfl,hk⟩:=keys_of hy
     have e:=hx _ ⟨ks,by simp [rangeT] at hl;omega,hk,rfl⟩
     simpa [tuple3,items] using e
 rintro σ' ⟨more,hm,hms,rfl⟩
 have e:=h ⟨cs,key,more,[]⟩ (gf_mk c0 (by omega) hd hf hn1 hn3 hk hm hms) rfl c3
 have s4:4≤sizeLine:=by decide
 simpa [seq3,next3,ret3,retN3,ifs3,drop3,asg3,name3,tst3,and3,or3,not3,andV3,orV3,notV3,if3,v3,k3,op3,un3,nil3,cons3,call3,tup3,lst3,chain3,fn30,fn3,fnN30,fnN3,fnP30,i2,i2c,i1,isN3,notN3,eqS3,neS3,ixL3,ixT3,len3,all3,any3,abs3,max23,min23,isi3,isB3,truth3,start3,slot,flatT,scal,tyn,M3.isNon,lenT,truT,isiB,Option.bind,take3,kbs,addP,mulP,ixP,slP,eqP,neP,isSeq,iterP,itemsP,no3,part3,sl3,raise3,brk3,cont3,M3.ltP,M3.leP,M3.gtP,M3.geP,Fm.t,s4] using e
end Law
namespace Law
open PySem L2 M3
mutual
def sameT:T→T→Bool
 | f,.non=>isNon f
 | f,.bl b=>match f with | .bl a=>decide (a=b) | _=>false
 | f,.int j=>match f with | .int i=>decide (i=j) | _=>false
 | f,.str y=>match f with | .str x=>decide (x=y) | _=>false
 | f,.lst ys=>match f with | .lst xs=>sameL xs ys | _=>false
 | f,.tup ys=>match f with | .tup xs=>sameL xs ys | _=>false
 | _,_=>false
def sameL:List T→List T→Bool
 | [],[]=>true
 | x::xs,y::ys=>sameT x y&&sameL xs ys
 | _,_=>false
end
mutual
def plain:T→Bool
 | .non=>true
 | .bl _=>true
 | .int _=>true
 | .str _=>true
 | .lst xs=>decide (xs.length<100000)&&plainL xs
 | .tup xs=>decide (xs.length<100000)&&plainL xs
 | _=>false
def plainL:List T→Bool
 | []=>true
 | x::xs=>plain x&&plainL xs
end
mutual
def dep:T→Nat
 | .lst xs=>depL xs+1
 | .tup xs=>depL xs+1
 | _=>0
def depL:List T→Nat
 | []=>0
 | x::xs=>max (dep x) (depL xs)
end
@[simp] theorem plain_non:plain .non=true:=by simp [plain]
@[simp] theorem plain_bl (b:Bool):plain (.bl b)=true:=by simp [plain]
@[simp] theorem plain_int (b:Int):plain (.int b)=true:=by simp [plain]
@[simp] theorem plain_str (b:Str):plain (.str b)=true:=by simp [plain]
@[simp] theorem plain_lst (b:List T):plain (.lst b)=(decide (b.length<100000)&&plainL b):=by simp [plain]
@[simp] theorem plain_tup (b:List T):plain (.tup b)=(decide (b.length<100000)&&plainL b):=by simp [plain]
@[simp] theorem plainL_nil:plainL []=true:=by simp [plainL]
@[simp] theorem plainL_cons (x:T) (xs:List T):plainL (x::xs)=(plain x&&plainL xs):=by simp [plainL]
@[simp] theorem dep_non:dep .non=0:=by simp [dep]
@[simp] theorem dep_bl (b:Bool):dep (.bl b)=0:=by simp [dep]
@[simp] theorem dep_int (b:Int):dep (.int b)=0:=by simp [dep]
@[simp] theorem dep_str (b:Str):dep (.str b)=0:=by simp [dep]
@[simp] theorem dep_lst (b:List T):dep (.lst b)=depL b+1:=by simp [dep]
@[simp] theorem dep_tup (b:List T):dep (.tup b)=depL b+1:=by simp [dep]
@[simp] theorem depL_nil:depL []=0:=by simp [depL]
@[simp] theorem depL_cons (x:T) (xs:List T):depL (x::xs)=max (dep x) (depL xs):=by simp [depL]
@[simp] theorem same_bl (a b:Bool):sameT (.bl a) (.bl b)=decide (a=b):=by simp [sameT]
@[simp] theorem same_int (a b:Int):sameT (.int a) (.int b)=decide (a=b):=by simp [sameT]
@[simp] theorem same_str (a b:Str):sameT (.str a) (.str b)=decide (a=b):=by simp [sameT]
@[simp] theorem same_non (a:T):sameT a .non=isNon a:=by simp [sameT]
@[simp] theorem same_lst (a b:List T):sameT (.lst a) (.lst b)=sameL a b:=by simp [sameT]
@[simp] theorem same_tup (a b:List T):sameT (.tup a) (.tup b)=sameL a b:=by simp [sameT]
@[simp] theorem sameL_nil:sameL [] []=true:=by simp [sameL]
@[simp] theorem sameL_cons (x y:T) (xs ys:List T):sameL (x::xs) (y::ys)=(sameT x y&&sameL xs ys):=by simp [sameL]
mutual
theorem sameT_refl:∀t:T,plain t=true→sameT t t=true
 | .non,_=>rfl
 | .bl b,_=>by simp [sameT]
 | .int b,_=>by simp [sameT]
 | .str b,_=>by simp [sameT]
 | .lst xs,h=>by simp only [plain,Bool.and_eq_true] at h;simp only [sameT];exact sameL_refl xs h.2
 | .tup xs,h=>by simp only [plain,Bool.and_eq_true] at h;simp only [sameT];exact sameL_refl xs h.2
 | .ty _,h=>by simp [plain] at h
 | .ref _,h=>by simp [plain] at h
 | .dic _,h=>by simp [plain] at h
 | .ins _ _,h=>by simp [plain] at h
 | .kd _ _,h=>by simp [plain] at h
theorem sameL_refl:∀ts:List T,plainL ts=true→sameL ts ts=true
 | [],_=>rfl
 | t::ts,h=>by
   simp only [plainL,Bool.and_eq_true] at h
   simp only [sameL,Bool.and_eq_true]
   exact ⟨sameT_refl t h.1,sameL_refl ts h.2⟩
end
theorem sameL_len:∀xs ys:List T,sameL xs ys=true→xs.length=ys.length
 | [],[],_=>rfl
 | x::xs,y::ys,h=>by
   simp only [sameL,Bool.and_eq_true] at h
   simp [sameL_len xs ys h.2]
 | [],_::_,h=>by simp [sameL] at h
 | _::_,[],h=>by simp [sameL] at h
def sameBs:List T→List T→List Bool
 | x::xs,y::ys=>sameT x y::sameBs xs ys
 | _,_=>[]
theorem sameBs_all:∀xs ys:List T,xs.length=ys.length→(sameBs xs ys).all id=sameL xs ys
 | [],[],_=>rfl
 | x::xs,y::ys,h=>by
   simp only [sameBs,sameL,List.all_cons,id]
   rw [←sameBs_all xs ys (by simpa using h)]
 | [],_::_,h=>by simp at h
 | _::_,[],h=>by simp at h
abbrev SameOk (r:F3) (n:Nat):Prop:=∀x y Q X,plain x=true→plain y=true→dep y<n→r [x,y] Q X=Q (.bl (sameT x y))
theorem same_comp {r:F3} {n:Nat} (hr:SameOk r n) {a b c d:Sl} {X:X3} {Q:List T→Prop}:∀(xs ys:List T) (acc:List T),plainL xs=true→plainL ys=true→depL ys<n→acc.length+xs.length<sizeLine→xs.length=ys.length→
 comp3 (gtup3 2 (gcons3 (name3 2) (gcons3 (name3 3) gnil3))) yes3 (fn30 2 r (cons3 (v3 2) (cons3 (v3 3) nil3)) []) [a,b,c,d] X Q (pairT xs ys) acc=Q (acc++(sameBs xs ys).map T.bl)
 | [],[],acc,_,_,_,_,_=>by simp [pairT,sameBs,comp3]
 | x::xs,y::ys,acc,h1,h2,h3,h4,h5=>by
   simp only [plainL,Bool.and_eq_true] at h1 h2
   simp only [depL] at h3
   have e1:=hr x y
   have e2:=same_comp hr (a:=a) (b:=b) (c:=c) (d:=d) (X:=X) (Q:=Q) xs ys (acc++[.bl (sameT x y)]) h1.2 h2.2 (by omega) (by simp at h4 ⊢;omega) (by simpa using h5)
   have h6:acc.length<sizeLine:=by simp at h4;omega
   simp [pairT,comp3,gtup3,gcons3,gnil3,name3,yes3,fn30,cons3,nil3,v3,slot,e1 _ _ h1.1 h2.1 (by omega),e2,h6,sameBs]
 | [],_::_,_,_,_,_,_,h=>by simp at h
 | _::_,[],_,_,_,_,_,h=>by simp at h
theorem same_ok (C:Cs):∀n,SameOk (Lsame C n) n
 | 0=>fun x y Q X _ _ h=>by omega
 | n+1=>by
   intro fo du Q X p1 p2 hd
   have ih:=same_ok C n
   rw [Lsame_succ]
   have key:∀(xs ys:List T) (a b c d:Sl) (Q':List T→Prop),plainL xs=true→plainL ys=true→depL ys<n→xs.length<100000→xs.length=ys.length→
    comp3 (gtup3 2 (gcons3 (name3 2) (gcons3 (name3 3) gnil3))) yes3 (fn30 2 (Lsame C n) (cons3 (v3 2) (cons3 (v3 3) nil3)) []) [a,b,c,d] X Q' (pairT xs ys) []=Q' ((sameBs xs ys).map T.bl):=fun xs ys a b c d Q' h1 h2 h3 h4 h5=>by
     rw [same_comp ih xs ys [] h1 h2 h3 (by show 0+xs.length<16777216;omega) h5,List.nil_append]
   have neL:∀xs ys:List T,xs.length≠ys.length→sameL xs ys=false:=fun xs ys h=>by
    cases z:sameL xs ys with
    | false=>rfl
    | true=>exact absurd (sameL_len xs ys z) h
   generalize Lsame C n=r at ih key
   cases du with
   | non=>simp [LsameB,seq3,next3,ret3,ifs3,tst3,or3,not3,andV3,notV3,v3,k3,op3,nil3,cons3,call3,isN3,eqS3,neS3,len3,all3,isi3,start3,slot,flatT,scal,tyn,M3.isNon,lenT,isiB,Option.bind,kbs,eqP,neP,isSeq,sameT]
   | bl b=>cases fo<;>simp [plain] at p1<;>simp [LsameB,seq3,next3,ret3,ifs3,tst3,or3,not3,andV3,notV3,v3,k3,op3,nil3,cons3,call3,isN3,eqS3,neS3,len3,all3,isi3,start3,slot,flatT,scal,tyn,M3.isNon,lenT,isiB,Option.bind,kbs,eqP,neP,isSeq,sameT]
   | int j=>cases fo<;>simp [plain] at p1<;>simp [LsameB,seq3,next3,ret3,ifs3,tst3,or3,not3,andV3,notV3,v3,k3,op3,nil3,cons3,call3,isN3,eqS3,neS3,len3,all3,isi3,start3,slot,flatT,scal,tyn,M3.isNon,lenT,isiB,Option.bind,kbs,eqP,neP,isSeq,sameT]
   | str y=>cases fo<;>simp [plain] at p1<;>simp [LsameB,seq3,next3,ret3,ifs3,tst3,or3,not3,andV3,notV3,v3,k3,op3,nil3,cons3,call3,isN3,eqS3,neS3,len3,all3,isi3,start3,slot,flatT,scal,tyn,M3.isNon,lenT,isiB,Option.bind,kbs,eqP,neP,isSeq,sameT]
   | lst ys=>
     simp only [plain,Bool.and_eq_true,decide_eq_true_eq] at p2
     have hd':depL ys<n:=by simp only [dep] at hd;omega
     cases fo with
     | lst xs=>
       simp only [plain,Bool.and_eq_true,decide_eq_true_eq] at p1
       by_cases hl:xs.length=ys.length
       · simp [LsameB,seq3,next3,ret3,ifs3,tst3,or3,not3,andV3,notV3,v3,k3,op3,nil3,cons3,call3,isN3,eqS3,neS3,len3,all3,isi3,start3,slot,flatT,scal,tyn,M3.isNon,lenT,isiB,Option.bind,kbs,eqP,neP,isSeq,hl,lc3,iterZ3,zipT,noOwn,wipe3,key xs ys _ _ _ _ _ p1.2 p2.2 hd' p1.1 hl,bls_map,sameBs_all xs ys hl]
       · simp [LsameB,seq3,next3,ret3,ifs3,tst3,or3,not3,andV3,notV3,v3,k3,op3,nil3,cons3,call3,isN3,eqS3,neS3,len3,all3,isi3,start3,slot,flatT,scal,tyn,M3.isNon,lenT,isiB,Option.bind,kbs,eqP,neP,isSeq,sameT,hl,neL xs ys hl,Int.ofNat_inj]
     | _=>simp [plain] at p1<;>simp [LsameB,seq3,next3,ret3,ifs3,tst3,or3,not3,andV3,notV3,v3,k3,op3,nil3,cons3,call3,isN3,eqS3,neS3,len3,all3,isi3,start3,slot,flatT,scal,tyn,M3.isNon,lenT,isiB,Option.bind,kbs,eqP,neP,isSeq,sameT]
   | tup ys=>
     simp only [plain,Bool.and_eq_true,decide_eq_true_eq] at p2
     have hd':depL ys<n:=by simp only [dep] at hd;omega
     cases fo with
     | tup xs=>
       simp only [plain,Bool.and_eq_true,decide_eq_true_eq] at p1
       by_cases hl:xs.length=ys.length
       · simp [LsameB,seq3,next3,ret3,ifs3,tst3,or3,not3,andV3,notV3,v3,k3,op3,nil3,cons3,call3,isN3,eqS3,neS3,len3,all3,isi3,start3,slot,flatT,scal,tyn,M3.isNon,lenT,isiB,Option.bind,kbs,eqP,neP,isSeq,hl,lc3,iterZ3,zipT,noOwn,wipe3,key xs ys _ _ _ _ _ p1.2 p2.2 hd' p1.1 hl,bls_map,sameBs_all xs ys hl]
       · simp [LsameB,seq3,next3,ret3,ifs3,tst3,or3,not3,andV3,notV3,v3,k3,op3,nil3,cons3,call3,isN3,eqS3,neS3,len3,all3,isi3,start3,slot,flatT,scal,tyn,M3.isNon,lenT,isiB,Option.bind,kbs,eqP,neP,isSeq,sameT,hl,neL xs ys hl,Int.ofNat_inj]
     | _=>simp [plain] at p1<;>simp [LsameB,seq3,next3,ret3,ifs3,tst3,or3,not3,andV3,notV3,v3,k3,op3,nil3,cons3,call3,isN3,eqS3,neS3,len3,all3,isi3,start3,slot,flatT,scal,tyn,M3.isNon,lenT,isiB,Option.bind,kbs,eqP,neP,isSeq,sameT]
   | _=>simp [plain] at p2
theorem dats_texts (xs:List Str):dats (texts xs)=some (xs.map PyData.str):=by
 induction xs with
 | nil=>rfl
 | cons x xs ih=>
   have:texts (x::xs)= .str x::texts xs:=rfl
   rw [this]
   simp [dats,dat,ih]
theorem lay_texts {xs:List Str} (h:∀x∈xs,sg x):SeqAt.shaped (.tuple (xs.map PyData.str))=true:=by
 have e1:PyData.canLayAll0 (xs.map PyData.str)=true:=by
  induction xs with
  | nil=>rfl
  | cons x xs ih=>
    show (PyData.canLay0 (.str x)&&PyData.canLayAll0 (xs.map PyData.str))=true
    rw [ih fun y hy=>h y (List.mem_cons_of_mem _ hy)]
    have:=h x (List.mem_cons_self ..)
    show (PyData.strOk x&&true)=true
    rw [this]
    rfl
 have e2:PyData.depthAll (xs.map PyData.str)=0:=by
  clear h e1
  induction xs with
  | nil=>rfl
  | cons x xs ih=>
    show max (PyData.depth (.str x)) (PyData.depthAll (xs.map PyData.str))=0
    rw [ih]
    rfl
 unfold SeqAt.shaped
 have e3:(PyData.tuple (xs.map PyData.str)).canLay0=true:=e1
 have e4:(PyData.tuple (xs.map PyData.str)).depth=1:=by show PyData.depthAll (xs.map PyData.str)+1=1;rw [e2]
 rw [e3,e4]
 rfl
theorem out_cases (f:Fm):out f=none∨out f=some "BadColumns"∨out f=some "BadKey"∨out f=some "BadRefer":=by
 unfold out
 split
 · exact .inr (.inl rfl)
 · split
   · exact .inr (.inr (.inl rfl))
   · split
     · exact .inr (.inr (.inr rfl))
     · exact .inl rfl
theorem plain_texts (xs:List Str):plainL (texts xs)=true:=by
 induction xs with
 | nil=>rfl
 | cons x xs ih=>
   show plainL (.str x::texts xs)=true
   simp [ih]
theorem plain_key {xs:List Str} (h:xs.length<100000):plain (keyT xs)=true:=by
 simp [keyT,plain_texts,ltk,h]
theorem dep_texts (xs:List Str):depL (texts xs)=0:=by
 induction xs with
 | nil=>rfl
 | cons x xs ih=>
   show depL (.str x::texts xs)=0
   simp [ih]
theorem dep_key (xs:List Str):dep (keyT xs)=1:=by simp [keyT,dep_texts]
theorem plain_lk {l:Lk} (h:l.ok):plain l.t=true∧dep l.t≤2:=by
 cases l with
 | pair k n=>
   have:=plain_key (xs:=k) (by have:=h.1.1;omega)
   have e:=dep_key k
   simp only [keyT] at this e
   simp [Lk.t,this,e]
 | lone k=>
   have:=plain_key (xs:=k) (by have:=h.1;omega)
   have e:=dep_key k
   simp only [keyT] at this e
   simp [Lk.t,this,e]
theorem plain_all {α:Type} {f:α→T} {m:Nat}:∀ {l:List α},(∀a∈l,plain (f a)=true∧dep (f a)≤m)→plainL (l.map f)=true∧depL (l.map f)≤m
 | [],_=>by simp
 | a::l,h=>by
   have h1:=h a (List.mem_cons_self ..)
   have h2:=plain_all (l:=l) fun x hx=>h x (List.mem_cons_of_mem _ hx)
   simp [h1,h2]
   exact Nat.max_le.mpr ⟨h1.2,h2.2⟩
theorem plain_form {f:Fm} (hf:f.Ok):plainL f.args=true∧depL f.args≤3:=by
 have a1:=plain_key (xs:=f.cs) (by have:=hf.cs.1;omega)
 have a2:=plain_key (xs:=f.key) (by have:=hf.key.1;omega)
 have a3:=plain_all (f:=keyT) (m:=1) (l:=f.more) fun k hk=>⟨plain_key (by have:=(hf.more.2 k hk).1;omega),Nat.le_of_eq (dep_key k)⟩
 have a4:=plain_all (f:=Lk.t) (m:=2) (l:=f.links) fun k hk=>plain_lk (hf.links.2 k hk)
 have b3:=hf.more.1
 have b4:=hf.links.1
 refine ⟨?_, ?_⟩
 · simp [Fm.args,a1,a2,a3,a4]
   omega
 · simp [Fm.args,dep_key]
   have:=a3.2
   have:=a4.2
   omega
def dicS {α:Type} (g:α→T) (ps:List (Str×α)):List (Key×T):=ps.map fun q=>(Sum.inr q.1,g q.2)
def getS {α:Type} (ps:List (Str×α)) (x:Str):Option α:=(ps.find? fun q=>decide (q.1=x)).map (·.2)
def putS {α:Type} (ps:List (Str×α)) (x:Str) (a:α):List (Str×α):=if x∈ps.map (·.1) then ps.map (fun q=>if q.1=x then (q.1,a) else q) else ps++[(x,a)]
section
variable {α:Type} {g:α→T} {ps:List (Str×α)} {x:Str} {a:α}
theorem dicS_len:(dicS g ps).length=ps.length:=by simp [dicS]
theorem dicS_val (ps:List (Str×α)) (x:Str):valT (dicS g ps) (Sum.inr x)=(getS ps x).map g:=by
 unfold valT getS dicS
 rw [List.find?_map]
 have:((fun kv:Key×T=>decide (kv.1=Sum.inr x)) ∘ fun q:Str×α=>((Sum.inr q.1:Key),g q.2))=fun q=>decide (q.1=x):=by
  funext q
  show decide ((Sum.inr q.1:Key)=Sum.inr x)=_
  by_cases e:q.1=x
  · simp [e]
  · have:¬(Sum.inr q.1:Key)=Sum.inr x:=fun z=>e (Sum.inr.inj z)
    simp [e,this]
 rw [this]
 cases ps.find? fun q=>decide (q.1=x)<;>rfl
theorem dicS_any (ps:List (Str×α)) (x:Str):(dicS g ps).any (fun kv=>decide (kv.1=Sum.inr x))=decide (x∈ps.map (·.1)):=by
 induction ps with
 | nil=>rfl
 | cons q ps ih=>
   show (decide ((Sum.inr q.1:Key)=Sum.inr x)||(dicS g ps).any _)=_
   rw [ih]
   by_cases e:q.1=x
   · subst e;simp
   · have e1:¬(Sum.inr q.1:Key)=Sum.inr x:=fun z=>e (Sum.inr.inj z)
     have e2:¬x=q.1:=fun z=>e z.symm
     simp [e1,e2]
theorem dicS_put (ps:List (Str×α)) (x:Str) (a:α):putT (dicS g ps) (Sum.inr x) (g a)=dicS g (putS ps x a):=by
 unfold putT putS
 rw [dicS_any]
 by_cases h:x∈ps.map (·.1)
 · rw [if_pos (decide_eq_true h),if_pos h]
   unfold dicS
   rw [List.map_map,List.map_map]
   apply List.map_congr_left
   intro q _
   show (if (Sum.inr q.1:Key)=Sum.inr x then ((Sum.inr q.1:Key),g a) else (Sum.inr q.1,g q.2))=_
   by_cases e:q.1=x
   · simp [e]
   · have e1:¬(Sum.inr q.1:Key)=Sum.inr x:=fun z=>e (Sum.inr.inj z)
     simp [e,e1]
 · rw [if_neg (by simpa using h),if_neg h]
   simp [dicS]
theorem putS_new (h:x ∉ ps.map (·.1)):putS ps x a=ps++[(x,a)]:=if_neg h
theorem getS_some {ps:List (Str×α)} {x:Str} {a:α} (h:getS ps x=some a):(x,a)∈ps:=by
 unfold getS at h
 cases e:ps.find? fun q=>decide (q.1=x) with
 | none=>rw [e] at h;cases h
 | some q=>
   rw [e] at h
   cases h
   have h1:=List.mem_of_find?_eq_some e
   have h2:=List.find?_some e
   have:q.1=x:=by simpa using h2
   rw [←this]
   exact h1
theorem getS_of {ps:List (Str×α)} {x:Str} (h:x∈ps.map (·.1)):∃a,getS ps x=some a:=by
 unfold getS
 cases e:ps.find? fun q=>decide (q.1=x) with
 | some q=>exact ⟨_,rfl⟩
 | none=>
   rw [List.find?_eq_none] at e
   obtain ⟨q,hq,z⟩:=List.mem_map.mp h
   exact absurd (decide_eq_true z) (by simpa using e q hq)
theorem getS_mem {ps:List (Str×α)} {x:Str} {a:α} (nd:(ps.map (·.1)).Nodup) (h:(x,a)∈ps):getS ps x=some a:=by
 obtain ⟨b,e⟩:=getS_of (List.mem_map.mpr ⟨_,h,rfl⟩:x∈ps.map (·.1))
 have:=getS_some e
 rw [e]
 congr 1
 clear e
 induction ps with
 | nil=>cases h
 | cons q ps ih=>
   rw [List.map_cons,List.nodup_cons] at nd
   rcases List.mem_cons.mp h with z | z
   · rcases List.mem_cons.mp this with y | y
     · rw [←z] at y;exact (Prod.mk.inj y).2
     · exact absurd (List.mem_map.mpr ⟨_,y,rfl⟩:x∈ps.map (·.1)) (by rw [←z] at nd;exact nd.1)
   · rcases List.mem_cons.mp this with y | y
     · exact absurd (List.mem_map.mpr ⟨_,z,rfl⟩:x∈ps.map (·.1)) (by rw [←y] at nd;exact nd.1)
     · exact ih nd.2 z y
end
end Law
set_option maxHeartbeats 1000000
namespace Law
open PySem L2 M3
def formF (f:Fm):List (Str×T):=[("columns",keyT f.cs),("key",keyT f.key),("others",.tup (f.more.map keyT)),("refers",.tup (f.links.map Lk.t))]
theorem formT_eq (C:Cs) (f:Fm):formT C f= .ins (C.at_ "Form") (formF f):=rfl
theorem lk_columns (f:Fm):(formF f).lookup ("columns":Str)=some (keyT f.cs):=rfl
theorem lk_key (f:Fm):(formF f).lookup ("key":Str)=some (keyT f.key):=rfl
theorem lk_others (f:Fm):(formF f).lookup ("others":Str)=some (.tup (f.more.map keyT)):=rfl
theorem lk_refers (f:Fm):(formF f).lookup ("refers":Str)=some (.tup (f.links.map Lk.t)):=rfl
theorem lp4_cons {i:Nat} {tb:S4} {N:N4} {x:T} {xs:List T} {σ:List Sl} {M:Mem}:loop4 (name3 i) tb N (x::xs) σ M=tb {nx:=loop4 (name3 i) tb N xs,ct:=loop4 (name3 i) tb N xs,bk:=N.nx,rt:=N.rt,xn:=N.xn} (σ.set i (.val x)) M:=rfl
theorem sq4_of {t u:S4} {N:N4} {σ:List Sl} {M:Mem} (h:t {nx:=u N,ct:=N.ct,bk:=N.bk,rt:=N.rt,xn:=N.xn} σ M):seq4 t u N σ M:=h
theorem ne_fresh {M:Mem} {a b:Addr} {t:T} (h:mset M b (some t) a=none):a≠b∧M a=none:=by
 have:a≠b:=fun z=>by rw [z,mset_same] at h;cases h
 exact ⟨this,by rwa [mset_ne this] at h⟩
structure Vw (φ:Nat→T→T):Prop where
 z:∀d,φ 0 d=d
 tup:∀n xs,φ (n+1) (.tup xs)= .tup (xs.map (φ n))
 lst:∀n xs,φ (n+1) (.lst xs)= .lst (xs.map (φ n))
 ins:∀n C fs,φ (n+1) (.ins C fs)= .ins C (fs.map fun p=>(p.1,φ n p.2))
 str:∀n x,φ n (.str x)= .str x
 int:∀n i,φ n (.int i)= .int i
 bl:∀n b,φ n (.bl b)= .bl b
 non:∀n,φ n .non= .non
 dic:∀n ts,φ n (.dic ts)= .dic ts
theorem vw_seen (e:See) (M:Mem):Vw (seen e M):=⟨fun d=>by cases d<;>rfl,fun _ _=>rfl,fun _ _=>rfl,fun _ _ _=>rfl,fun n _=>by cases n<;>rfl,fun n _=>by cases n<;>rfl,fun n _=>by cases n<;>rfl,fun n=>by cases n<;>rfl,fun n _=>by cases n<;>rfl⟩
theorem vw_unf (M:Mem):Vw (unf M):=⟨fun d=>by cases d<;>rfl,fun _ _=>rfl,fun _ _=>rfl,fun _ _ _=>rfl,fun n _=>by cases n<;>rfl,fun n _=>by cases n<;>rfl,fun n _=>by cases n<;>rfl,fun n=>by cases n<;>rfl,fun n _=>by cases n<;>rfl⟩
theorem map_same {α:Type} {f:α→α} {xs:List α} (h:∀x∈xs,f x=x):xs.map f=xs:=by
 conv=>rhs;rw [←List.map_id xs]
 exact List.map_congr_left h
section
variable {φ:Nat→T→T} (V:Vw φ)
include V
theorem Vw.texts (n:Nat) (xs:List Str):(texts xs).map (φ n)=texts xs:=map_same fun t ht=>by
 obtain ⟨x,_,rfl⟩:=List.mem_map.mp ht
 exact V.str n x
theorem Vw.tupOf (n:Nat) {xs:List T} (h:∀n,∀x∈xs,φ n x=x):φ n (.tup xs)= .tup xs:=by
 cases n with
 | zero=>exact V.z _
 | succ n=>rw [V.tup,map_same (h n)]
theorem Vw.key (n:Nat) (k:List Str):φ n (keyT k)=keyT k:=V.tupOf n fun n x hx=>by
 obtain ⟨y,_,rfl⟩:=List.mem_map.mp hx
 exact V.str n y
theorem Vw.keys (n:Nat) (ks:List (List Str)):φ n (.tup (ks.map keyT))= .tup (ks.map keyT):=V.tupOf n fun n x hx=>by
 obtain ⟨y,_,rfl⟩:=List.mem_map.mp hx
 exact V.key n y
theorem Vw.lk (n:Nat) (l:Lk):φ n l.t=l.t:=by
 cases l with
 | pair k m=>
   refine V.tupOf n fun n x hx=> ?_
   rcases List.mem_cons.mp hx with e | hx
   · rw [e];exact V.key n k
   · rw [List.mem_singleton.mp hx];exact V.str n m
 | lone k=>
   refine V.tupOf n fun n x hx=> ?_
   rw [List.mem_singleton.mp hx];exact V.key n k
theorem Vw.lks (n:Nat) (ls:List Lk):φ n (.tup (ls.map Lk.t))= .tup (ls.map Lk.t):=V.tupOf n fun n x hx=>by
 obtain ⟨y,_,rfl⟩:=List.mem_map.mp hx
 exact V.lk n y
theorem Vw.form (n:Nat) (C:Cs) (f:Fm):φ n (formT C f)=formT C f:=by
 cases n with
 | zero=>exact V.z _
 | succ n=>
   rw [formT_eq,V.ins]
   unfold formF
   simp only [List.map_cons,List.map_nil,V.key,V.keys,V.lks]
theorem Vw.fm (n:Nat) (f:Fm):φ n f.t=f.t:=V.tupOf n fun n x hx=>by
 simp only [List.mem_cons,List.not_mem_nil,or_false] at hx
 rcases hx with rfl | rfl | rfl | rfl
 · exact V.key n _
 · exact V.key n _
 · exact V.keys n _
 · exact V.lks n _
end
abbrev Tabs:=List (Str×Fm)
abbrev cP (C:Cs):Addr:=C.at_ "Plan"
abbrev eP (C:Cs):See:=⟨false,true,[cP C]⟩
abbrev eD:See:=⟨false,true,[]⟩
def plF (a b c:Addr):List (Str×T):=[("forms",.ref a),("above",.ref b),("below",.ref c)]
def planF (C:Cs) (ts:Tabs):List (Str×T):=[("forms",.dic (dicS (formT C) ts)),("above",.dic []),("below",.dic [])]
def planT (C:Cs) (ts:Tabs):T:=.ins (cP C) (planF C ts)
def nms (ts:Tabs):List Str:=ts.map (·.1)
def mdl (f:Addr) (vs:List Str):List (Key×T):=[(Sum.inr "names",.lst (texts vs)),(Sum.inr "forms",.ref f)]
def mdlF (ts:Tabs):List (Key×T):=[(Sum.inr "names",.lst (texts (nms ts))),(Sum.inr "forms",.dic (dicS Fm.t ts))]
def Sub (M M':Mem):Prop:=∀x t,M x=some t→M' x=some t
theorem Sub.refl (M:Mem):Sub M M:=fun _ _ h=>h
theorem Sub.trans {M M1 M2:Mem} (h:Sub M M1) (g:Sub M1 M2):Sub M M2:=fun x t e=>g x t (h x t e)
theorem Sub.new {M M1:Mem} {p:Addr} {t:Option T} (h:Sub M M1) (hp:M p=none):Sub M (mset M1 p t):=fun x u e=>by
 by_cases z:x=p
 · rw [z,hp] at e;cases e
 · rw [mset_ne z];exact h x u e
theorem Sub.gone {M M1:Mem} {p:Addr} (h:Sub M M1) (hp:M1 p=none):M p=none:=by
 cases e:M p with
 | none=>rfl
 | some t=>rw [h p t e] at hp;cases hp
theorem Sub.join {M M':Mem} (h:∀a,M' a≠none→M a=none):Sub M (mjoin M M'):=fun x t e=>by
 cases e2:M' x with
 | none=>rw [mjoin_none e2];exact e
 | some u=>rw [h x (by rw [e2];intro z;cases z)] at e;cases e
structure Df (o a b c m f:Addr):Prop where
 oa:o≠a
 oB:o≠b
 oc:o≠c
 om:o≠m
 oF:o≠f
 ab:a≠b
 ac:a≠c
 am:a≠m
 aF:a≠f
 bm:b≠m
 bF:b≠f
 cm:c≠m
 cF:c≠f
 mF:m≠f
structure WM (C:Cs) (M:Mem) (o a b c m f:Addr) (ts:Tabs) (vs:List Str) (us:Tabs):Prop where
 mo:M o=some (.ins (cP C) (plF a b c))
 ma:M a=some (.dic (dicS (formT C) ts))
 mb:M b=some (.dic [])
 mc:M c=some (.dic [])
 mm:M m=some (.dic (mdl f vs))
 mf:M f=some (.dic (dicS Fm.t us))
 d:Df o a b c m f
section
variable {C:Cs} {M M':Mem} {o a b c m f:Addr} {ts ts' us us':Tabs} {vs vs':List Str}
theorem WM.sub (w:WM C M o a b c m f ts vs us) (s:Sub M M'):WM C M' o a b c m f ts vs us:=⟨s _ _ w.mo,s _ _ w.ma,s _ _ w.mb,s _ _ w.mc,s _ _ w.mm,s _ _ w.mf,w.d⟩
theorem WM.putA (w:WM C M o a b c m f ts vs us):WM C (mset M a (some (.dic (dicS (formT C) ts')))) o a b c m f ts' vs us:=
 ⟨by rw [mset_ne w.d.oa];exact w.mo,mset_same,by rw [mset_ne w.d.ab.symm];exact w.mb,by rw [mset_ne w.d.ac.symm];exact w.mc,by rw [mset_ne w.d.am.symm];exact w.mm,by rw [mset_ne w.d.aF.symm];exact w.mf,w.d⟩
theorem WM.putM (w:WM C M o a b c m f ts vs us):WM C (mset M m (some (.dic (mdl f vs')))) o a b c m f ts vs' us:=
 ⟨by rw [mset_ne w.d.om];exact w.mo,by rw [mset_ne w.d.am];exact w.ma,by rw [mset_ne w.d.bm];exact w.mb,by rw [mset_ne w.d.cm];exact w.mc,mset_same,by rw [mset_ne w.d.mF.symm];exact w.mf,w.d⟩
theorem WM.putF (w:WM C M o a b c m f ts vs us):WM C (mset M f (some (.dic (dicS Fm.t us')))) o a b c m f ts vs us':=
 ⟨by rw [mset_ne w.d.oF];exact w.mo,by rw [mset_ne w.d.aF];exact w.ma,by rw [mset_ne w.d.bF];exact w.mb,by rw [mset_ne w.d.cF];exact w.mc,by rw [mset_ne w.d.mF];exact w.mm,mset_same,w.d⟩
theorem Vw.formsD {φ:Nat→T→T} (V:Vw φ) (n:Nat) (C:Cs) (ts:Tabs):(dicS (formT C) ts).map (fun p=>(p.1,φ n p.2))=dicS (formT C) ts:=map_same fun p hp=>by
 obtain ⟨r,_,rfl⟩:=List.mem_map.mp hp
 show (_,φ n (formT C r.2))=_
 rw [V.form]
theorem Vw.fmsD {φ:Nat→T→T} (V:Vw φ) (n:Nat) (ts:Tabs):(dicS Fm.t ts).map (fun p=>(p.1,φ n p.2))=dicS Fm.t ts:=map_same fun p hp=>by
 obtain ⟨r,_,rfl⟩:=List.mem_map.mp hp
 show (_,φ n r.2.t)=_
 rw [V.fm]
theorem WM.plan (w:WM C M o a b c m f ts vs us):seen (eP C) M 4 (.ref o)=planT C ts:=by
 have V:=vw_seen (eP C) M
 show seeO (eP C) o (seen (eP C) M 3) (M o)=_
 rw [w.mo]
 show (if cP C∈[cP C] then T.ins (cP C) ((plF a b c).map fun p=>(p.1,seen (eP C) M 3 p.2)) else .ref o)=_
 rw [if_pos (List.mem_singleton_self _)]
 have h1:seen (eP C) M 3 (.ref a)= .dic (dicS (formT C) ts):=by
  show seeO (eP C) a (seen (eP C) M 2) (M a)=_
  rw [w.ma]
  show T.dic ((dicS (formT C) ts).map fun p=>(p.1,seen (eP C) M 2 p.2))=_
  rw [V.formsD]
 have h2:seen (eP C) M 3 (.ref b)= .dic []:=by
  show seeO (eP C) b (seen (eP C) M 2) (M b)=_
  rw [w.mb];rfl
 have h3:seen (eP C) M 3 (.ref c)= .dic []:=by
  show seeO (eP C) c (seen (eP C) M 2) (M c)=_
  rw [w.mc];rfl
 unfold plF planT planF
 simp only [List.map_cons,List.map_nil,h1,h2,h3]
theorem WM.model (w:WM C M o a b c m f ts (nms us) us) (e:See) (he:e.d=true) (n:Nat):seen e M (n+2) (.ref m)= .dic (mdlF us):=by
 have V:=vw_seen e M
 show seeO e m (seen e M (n+1)) (M m)=_
 rw [w.mm]
 show (if e.d=true then T.dic ((mdl f (nms us)).map fun p=>(p.1,seen e M (n+1) p.2)) else .ref m)=_
 rw [if_pos he]
 have h1:seen e M (n+1) (.lst (texts (nms us)))= .lst (texts (nms us)):=by rw [V.lst,V.texts]
 have h2:seen e M (n+1) (.ref f)= .dic (dicS Fm.t us):=by
  show seeO e f (seen e M n) (M f)=_
  rw [w.mf]
  show (if e.d=true then T.dic ((dicS Fm.t us).map fun p=>(p.1,seen e M n p.2)) else .ref f)=_
  rw [if_pos he,V.fmsD]
 unfold mdl mdlF
 simp only [List.map_cons,List.map_nil,h1,h2]
theorem WM.names (w:WM C M o a b c m f ts vs us):cellD M m=some (mdl f vs):=by unfold cellD;rw [w.mm];rfl
theorem WM.cellF (w:WM C M o a b c m f ts vs us):cellD M f=some (dicS Fm.t us):=by unfold cellD;rw [w.mf];rfl
theorem WM.cellA (w:WM C M o a b c m f ts vs us):cellD M a=some (dicS (formT C) ts):=by unfold cellD;rw [w.ma];rfl
theorem WM.cellO (w:WM C M o a b c m f ts vs us):cellI M o=some (cP C,plF a b c):=by unfold cellI;rw [w.mo];rfl
end
theorem val_N {f:Addr} {vs:List Str}:valT (mdl f vs) (Sum.inr "names")=some (.lst (texts vs)):=rfl
theorem val_F {f:Addr} {vs:List Str}:valT (mdl f vs) (Sum.inr "forms")=some (.ref f):=rfl
theorem val_NF {ts:Tabs}:valT (mdlF ts) (Sum.inr "names")=some (.lst (texts (nms ts))):=rfl
theorem val_FF {ts:Tabs}:valT (mdlF ts) (Sum.inr "forms")=some (.dic (dicS Fm.t ts)):=rfl
theorem lkp_forms (C:Cs) (ts:Tabs):(planF C ts).lookup ("forms":Str)=some (.dic (dicS (formT C) ts)):=rfl
theorem lkp_above (C:Cs) (ts:Tabs):(planF C ts).lookup ("above":Str)=some (.dic []):=rfl
theorem lkp_below (C:Cs) (ts:Tabs):(planF C ts).lookup ("below":Str)=some (.dic []):=rfl
theorem lkp_tables (C:Cs) (ts:Tabs):(planF C ts).lookup ("tables":Str)=none:=rfl
theorem lkp_rules (C:Cs) (ts:Tabs):(planF C ts).lookup ("rules":Str)=none:=rfl
theorem lkp_follows (C:Cs) (ts:Tabs):(planF C ts).lookup ("follows":Str)=none:=rfl
theorem lkc_forms (a b c:Addr):(plF a b c).lookup ("forms":Str)=some (.ref a):=rfl
theorem lkc_make (a b c:Addr):(plF a b c).lookup ("make":Str)=none:=rfl
theorem lkc_form (a b c:Addr):(plF a b c).lookup ("form":Str)=none:=rfl
theorem lkc_empty (a b c:Addr):(plF a b c).lookup ("empty":Str)=none:=rfl
theorem keys_dicS {α:Type} (g:α→T) (ps:List (Str×α)):((dicS g ps).map fun kv=>M3.keyT kv.1)=texts (ps.map (·.1)):=by
 unfold dicS texts
 rw [List.map_map,List.map_map]
 rfl
theorem in_dic {α:Type} (g:α→T) (x:Str) (ps:List (Str×α)):(valT (dicS g ps) (Sum.inr x)).isSome=decide (x∈ps.map (·.1)):=by
 rw [dicS_val]
 by_cases h:x∈ps.map (·.1)
 · obtain ⟨g,e⟩:=getS_of h
   rw [e,decide_eq_true h];rfl
 · cases e:getS ps x with
   | none=>rw [decide_eq_false h];rfl
   | some g=>exact absurd (List.mem_map.mpr ⟨_,getS_some e,rfl⟩) h
theorem okS_texts (e:See):∀xs:List Str,okSL e (texts xs)=true
 | []=>rfl
 | x::xs=>by
   show (okS e (.str x)&&okSL e (texts xs))=true
   rw [okS_texts e xs];rfl
theorem okS_key (e:See) (k:List Str):okS e (keyT k)=true:=okS_texts e k
theorem okS_tups {α:Type} (e:See) {g:α→T} (h:∀x,okS e (g x)=true):∀xs:List α,okSL e (xs.map g)=true
 | []=>rfl
 | x::xs=>by
   show (okS e (g x)&&okSL e (xs.map g))=true
   rw [h,okS_tups e h xs];rfl
theorem okS_lk (e:See) (l:Lk):okS e l.t=true:=by
 cases l with
 | pair k m=>
   show (okS e (keyT k)&&(okS e (.str m)&&true))=true
   rw [okS_key];rfl
 | lone k=>
   show (okS e (keyT k)&&true)=true
   rw [okS_key];rfl
theorem okS_form (hc:C.at_ "Form"≠C.at_ "Plan") (f:Fm):okS (eP C) (formT C f)=true:=by
 have h1:decide (C.at_ "Form"∈[cP C])=false:=decide_eq_false fun z=>hc (List.mem_singleton.mp z)
 show (!decide (C.at_ "Form"∈[cP C])&&okSF (eP C) (formF f))=true
 rw [h1]
 show okSF (eP C) (formF f)=true
 show (okS (eP C) (keyT f.cs)&&(okS (eP C) (keyT f.key)&&(okS (eP C) (.tup (f.more.map keyT))&&(okS (eP C) (.tup (f.links.map Lk.t))&&true))))=true
 rw [okS_key,okS_key,show okS (eP C) (.tup (f.more.map keyT))=true from okS_tups (eP C) (okS_key (eP C)) f.more,show okS (eP C) (.tup (f.links.map Lk.t))=true from okS_tups (eP C) (okS_lk (eP C)) f.links]
 rfl
end Law
set_option maxHeartbeats 1000000
namespace Law
open PySem L2 M3
section
variable {C:Cs} {M M':Mem} {o a b c m f:Addr} {ts ts' us us':Tabs} {vs vs':List Str}
theorem tables_eq (C:Cs) (ts:Tabs) (Q:T→Prop) (X:X3):Plan_tables C [planT C ts] Q X=Q (.lst (texts (nms ts))):=by
 rw [Plan_tables_def]
 show Plan_tablesB C _ [.val (planT C ts)]=_
 simp [Plan_tablesB,seq3,next3,ret3,retN3,ifs3,drop3,asg3,name3,tst3,and3,or3,not3,andV3,orV3,notV3,if3,v3,k3,op3,un3,nil3,cons3,call3,tup3,lst3,chain3,fn30,fn3,fnN30,fnN3,fnP30,i2,i2c,i1,isN3,notN3,eqS3,neS3,ixL3,ixT3,len3,all3,any3,abs3,max23,min23,isi3,isB3,truth3,start3,slot,flatT,scal,tyn,M3.isNon,lenT,truT,isiB,Option.bind,take3,kbs,addP,mulP,ixP,slP,isSeq,iterP,itemsP,no3,part3,sl3,raise3,brk3,cont3,M3.ltP,M3.leP,M3.gtP,M3.geP,fld3,asIns,planT,lkp_forms,listD3,asD,keys_dicS,nms]
theorem rules_ok {Q:T→Prop} {X:X3} (h:Q (.lst [])):Plan_rules C [planT C ts] Q X:=by
 rw [Plan_rules_def]
 show Plan_rulesB C _ [.val (planT C ts),.no]
 simp [Plan_rulesB,ret3,lc3,noOwn,iterP,sortDk3,cons3,nil3,fld3,v3,slot,asIns,planT,lkp_above,asD,keysS,wipe3,itemsP,comp3,h]
theorem follows_ok {Q:T→Prop} {X:X3} (h:Q (.lst [])):Plan_follows C [planT C ts] Q X:=by
 rw [Plan_follows_def]
 show Plan_followsB C _ [.val (planT C ts),.no]
 simp [Plan_followsB,ret3,lc3,noOwn,iterP,sortDk3,cons3,nil3,fld3,v3,slot,asIns,planT,lkp_below,asD,keysS,wipe3,itemsP,comp3,h]
abbrev nmX (C:Cs) (n x:Str):Xn:=⟨.ref (C.at_ n),[("name",.str x)]⟩
abbrev plX (C:Cs) (n:Str):Xn:=⟨.ref (C.at_ n),[]⟩
theorem vw_2 (w:WM C M o a b c m f ts vs us) (s:Sl):vwS (eP C) 4 M [0] [.val (.ref o),s]=[.val (planT C ts),s]:=by
 show ([.val (.ref o),s]:List Sl).set 0 (.val (seen (eP C) M 4 (.ref o)))=_
 rw [w.plan]
 rfl
theorem form4_ok (hc:C.at_ "Form"≠C.at_ "Plan") (w:WM C M o a b c m f ts vs us) {x:Str} (hx:x.length≤1000) {Q:T→Mem→Prop} {X:XM} (h1:∀g,getS ts x=some g→Q (formT C g) M) (h2:getS ts x=none→X (nmX C "NoTable" x) M):Plan_form C [.ref o,.str x] M Q X:=by
 rw [Plan_form_def]
 show Plan_formB C _ [.val (.ref o),.val (.str x)] M
 unfold Plan_formB
 refine sq4_of ?_
 simp only [ifs4,vwKB4,vw_2 w]
 cases e:getS ts x with
 | none=>
   have:=h2 e
   have an:allNo [.val (.ref o),.val (.str x)]=true:=rfl
   simpa [an,tst3,op3,v3,slot,fld3,asIns,planT,lkp_forms,inDF3,asD,asK,dicS_val,e,puS,raiseT3,asS,hx] using this
 | some g=>
   have:=h1 g e
   simpa [tst3,op3,v3,slot,fld3,asIns,planT,lkp_forms,inDF3,asD,asK,dicS_val,e,next4,ret4,vwK4,vw_2 w,dget3,okS_form hc] using this
theorem dcomp_new {σ:List Sl} (hσ:σ.length=2) {X:XM} {Q:List (Key×T)→Mem→Prop}:∀(xs:List Str) (acc:List (Str×Addr)) (M1:Mem),(acc.map (·.1)++xs).Nodup→acc.length+xs.length≤1000→(∀r∈acc,M1 r.2=some (.lst []))→(∀y t,M1 y=some t→t= .lst [])→
 (∀(rs:List (Str×Addr)) M2,rs.map (·.1)=acc.map (·.1)++xs→(∀r∈rs,M2 r.2=some (.lst []))→(∀y t,M2 y=some t→t= .lst [])→Q (dicS T.ref rs) M2)→dcomp4 (name3 1) yes3 (v3 1) (newC4 (lst3 nil3)) σ X Q (texts xs) (dicS T.ref acc) M1
 | [],acc,M1,_,_,h1,h2,h=>h acc M1 (by simp) h1 h2
 | x::xs,acc,M1,nd,hl,h1,h2,h=>by
   have hx:x ∉ acc.map (·.1):=fun z=>(List.nodup_append.mp nd).2.2 x z x (List.mem_cons_self ..) rfl
   have sl:acc.length<sizeLine:=Nat.lt_of_le_of_lt (show acc.length≤1000 by omega) (by decide)
   have go:∀p,M1 p=none→dcomp4 (name3 1) yes3 (v3 1) (newC4 (lst3 nil3)) σ X Q (texts xs) (putT (dicS T.ref acc) (Sum.inr x) (.ref p)) (mset M1 p (some (.lst []))):=by
    intro p hp
    have e1:putT (dicS T.ref acc) (Sum.inr x) (.ref p)=dicS T.ref (acc++[(x,p)]):=by
     have:=dicS_put (g:=T.ref) acc x p
     rw [putS_new hx] at this
     exact this
    rw [e1]
    refine dcomp_new hσ xs (acc++[(x,p)]) _ (by simpa using nd) (by simp at hl ⊢;omega) (fun r hr=> ?_) (fun y t e=> ?_) (fun rs M2 hr=>h rs M2 (by simpa using hr))
    · by_cases z:r.2=p
      · rw [z,mset_same]
      · rw [mset_ne z]
        rcases List.mem_append.mp hr with y | y
        · exact h1 r y
        · rw [List.mem_singleton.mp y] at z
          exact absurd rfl z
    · by_cases z:y=p
      · rw [z,mset_same] at e
        cases e;rfl
      · rw [mset_ne z] at e
        exact h2 y t e
   show dcomp4 (name3 1) yes3 (v3 1) (newC4 (lst3 nil3)) σ X Q (T.str x::texts xs) (dicS T.ref acc) M1
   unfold dcomp4
   simp [name3,yes3,v3,slot,List.getElem?_set_self (show 1<σ.length by omega),newC4,lst3,nil3,asL,asK,dicS_len,sl]
   exact fun p hp=>go p hp
theorem empty4_ok (w:WM C M o a b c m f ts vs us) (nd:(nms ts).Nodup) (hl:ts.length≤100) {Q:T→Mem→Prop} {X:XM} (h:∀(rs:List (Str×Addr)) q M',rs.map (·.1)=nms ts→Sub M M'→M q=none→M' q=some (.dic (dicS T.ref rs))→(∀r∈rs,M r.2=none∧M' r.2=some (.lst []))→Q (.ref q) M'):Plan_empty C [.ref o] M Q X:=by
 rw [Plan_empty_def]
 show Plan_emptyB C _ [.val (.ref o),.no] M
 unfold Plan_emptyB
 show vwKM4 _ _ _ _ _ _ _ _
 unfold vwKM4
 rw [vw_2 w]
 unfold dcC4
 have ef:∀(Q:List T→Prop) (X:X3),iterD3 (fld3 [C.at_ "Plan"] "forms" (v3 0)) [.val (planT C ts),.no] Q X=Q (texts (nms ts)):=fun Q X=>by
  simp [iterD3,fld3,v3,slot,asIns,planT,lkp_forms,asD,keys_dicS,nms]
 rw [ef]
 have:=dcomp_new (σ:=wipe3 [.val (planT C ts),.no] [1]) rfl (X:=fun _ _=>False) (Q:=fun ys M1=>∀p,M1 p=none→(fun d M'=>okS (eP C) d=true∧(∀a x,M' a=some x→okC (eP C) x=true)∧((∀a,M' a≠none→M a=none)→Q d (mjoin M M'))) (.ref p) (mset M1 p (some (.dic ys)))) (nms ts) [] (fun _=>none) (by simpa using nd) (by simp [nms];omega) (fun r hr=>by cases hr) (fun y t e=>by cases e) (fun rs M2 hr h1 h2 p hp=>⟨rfl,fun y t e=> ?_,fun hM=> ?_⟩)
 · exact this
 · by_cases z:y=p
   · rw [z,mset_same] at e
     cases e
     have go:∀l:List (Str×Addr),okSL (eP C) ((dicS T.ref l).map (·.2))=true:=fun l=>by
      induction l with
      | nil=>rfl
      | cons r l ih=>show (true&&okSL (eP C) ((dicS T.ref l).map (·.2)))=true;rw [ih];rfl
     exact go rs
   · rw [mset_ne z] at e
     rw [h2 y t e]
     rfl
 · refine h rs p _ (by simpa using hr) (Sub.join hM) (hM p (by rw [mset_same];intro z;cases z)) (mjoin_some mset_same) fun r hr'=> ?_
   have np:r.2≠p:=fun z=>by have:=h1 r hr';rw [z,hp] at this;cases this
   have e:mset M2 p (some (.dic (dicS T.ref rs))) r.2=some (.lst []):=by rw [mset_ne np];exact h1 r hr'
   exact ⟨hM _ (by rw [e];intro z;cases z),mjoin_some e⟩
inductive Rf where
 | pl (n:Str)
 | nm (n x:Str)
def Rf.xn (C:Cs):Rf→Xn
 | .pl n=>plX C n
 | .nm n x=>nmX C n x
def Rf.t:Rf→T
 | .pl n=>.tup [.str n]
 | .nm n x=>.tup [.str n,.str x]
def wide (ts:Tabs) (x:Str) (key:List Str) (n:Str):List Str:=if n=x then key else ((getS ts n).map (·.key)).getD []
def linkR (ts:Tabs) (x:Str) (key:List Str):List Lk→Option Rf
 | []=>none
 | .lone _::r=>linkR ts x key r
 | .pair k n::r=>if n≠x∧n ∉ nms ts then some (.nm "NoTable" n) else if k.length≠(wide ts x key n).length then some (.pl "BadRefer") else linkR ts x key r
def due (ts:Tabs) (x:Str) (f:Fm):Option Rf:=
 if fine x=false then some (.nm "BadName" x) else if x∈nms ts then some (.nm "Taken" x) else if 6≤ts.length then some (.pl "Full") else match out f with
  | some n=>some (.pl n)
  | none=>linkR ts x f.key f.links
abbrev stQ (o:Addr) (x:Str) (f:Fm) (s6 s7 s8 s9:Sl):List Sl:=[.val (.ref o),.val (.str x),.val (keyT f.cs),.val (keyT f.key),.val (.tup (f.more.map keyT)),.val (.tup (f.links.map Lk.t)),s6,s7,s8,s9]
variable {x:Str} {g:Fm} {N:N4} {s6 s7 s8 s9:Sl}
theorem vw_Q (w:WM C M o a b c m f ts vs us):vwS (eP C) 4 M [0] (stQ o x g s6 s7 s8 s9)=[.val (planT C ts),.val (.str x),.val (keyT g.cs),.val (keyT g.key),.val (.tup (g.more.map keyT)),.val (.tup (g.links.map Lk.t)),s6,s7,s8,s9]:=by
 show (stQ o x g s6 s7 s8 s9).set 0 (.val (seen (eP C) M 4 (.ref o)))=_
 rw [w.plan]
 rfl
theorem getS_not {x:Str} (h:x ∉ nms ts):getS ts x=none:=by
 cases e:getS ts x with
 | none=>rfl
 | some q=>exact absurd (List.mem_map.mpr ⟨_,getS_some e,rfl⟩) h
theorem mk1 (hn:allNo [s6,s7,s8,s9]=true) (hx:x.length≤1000) (h:if fine x=true then N.nx (stQ o x g s6 s7 s8 s9) M else N.xn (stQ o x g s6 s7 s8 s9) (nmX C "BadName" x) M):Plan_make_1 C N (stQ o x g s6 s7 s8 s9) M:=by
 have e:=fun Q X=>is_name_eq C x hx Q X
 have an:allNo (stQ o x g s6 s7 s8 s9)=true:=hn
 unfold Plan_make_1
 by_cases z:fine x=true
 · rw [if_pos z] at h
   simpa [ifs4,pu,not3,tst3,fn3,cons3,nil3,v3,slot,e,z,next4] using h
 · rw [if_neg z] at h
   simpa [ifs4,pu,not3,tst3,fn3,cons3,nil3,v3,slot,e,z,an,Plan_make_1t_1,puS,raiseT3,asS,hx] using h
theorem mk2 (hn:allNo [s6,s7,s8,s9]=true) (hx:x.length≤1000) (w:WM C M o a b c m f ts vs us) (h:if x∈nms ts then N.xn (stQ o x g s6 s7 s8 s9) (nmX C "Taken" x) M else N.nx (stQ o x g s6 s7 s8 s9) M):Plan_make_2 C N (stQ o x g s6 s7 s8 s9) M:=by
 have an:allNo (stQ o x g s6 s7 s8 s9)=true:=hn
 unfold Plan_make_2
 simp only [ifs4,vwKB4,vw_Q w]
 by_cases z:x∈nms ts
 · rw [if_pos z] at h
   have:decide (x∈ts.map (·.1))=true:=decide_eq_true z
   simpa [tst3,op3,v3,slot,fld3,asIns,planT,lkp_forms,inDF3,asD,asK,in_dic,this,an,Plan_make_2t_1,puS,raiseT3,asS,hx] using h
 · rw [if_neg z] at h
   have:decide (x∈ts.map (·.1))=false:=decide_eq_false z
   simpa [tst3,op3,v3,slot,fld3,asIns,planT,lkp_forms,inDF3,asD,asK,in_dic,this,next4] using h
theorem mk3 (hn:allNo [s6,s7,s8,s9]=true) (w:WM C M o a b c m f ts vs us) (h:if 6≤ts.length then N.xn (stQ o x g s6 s7 s8 s9) (plX C "Full") M else N.nx (stQ o x g s6 s7 s8 s9) M):Plan_make_3 C N (stQ o x g s6 s7 s8 s9) M:=by
 have an:allNo (stQ o x g s6 s7 s8 s9)=true:=hn
 unfold Plan_make_3
 simp only [ifs4,vwKB4,vw_Q w]
 by_cases z:6≤ts.length
 · rw [if_pos z] at h
   have:(6:Int)≤(ts.length:Int):=by omega
   simpa [tst3,op3,v3,k3,slot,fld3,asIns,planT,lkp_forms,call3,cons3,nil3,lenD3,asD,dicS_len,M3.geP,this,an,Plan_make_3t_1,puS,raise3] using h
 · rw [if_neg z] at h
   have:¬(6:Int)≤(ts.length:Int):=by omega
   simpa [tst3,op3,v3,k3,slot,fld3,asIns,planT,lkp_forms,call3,cons3,nil3,lenD3,asD,dicS_len,M3.geP,this,next4] using h
theorem mk4 (ok:g.Ok) (h:match out g with | none=>N.nx (stQ o x g (.val (formT C g)) s7 s8 s9) M | some n=>N.xn (stQ o x g s6 s7 s8 s9) (plX C n) M):Plan_make_4 C N (stQ o x g s6 s7 s8 s9) M:=by
 have e:=init_eq C g ok (fun t=>N.nx (stQ o x g (.val t) s7 s8 s9) M) (fun y=>N.xn (stQ o x g s6 s7 s8 s9) y M) h
 unfold Plan_make_4
 simpa [asg4,pu,mkN3,cons3,nil3,v3,slot,sel,Fm.args,name3] using e
theorem mk5 (w:WM C M o a b c m f ts vs us) (hk:∀q∈ts,q.2.key.length≤1000) (gk:g.key.length≤1000):∀(ls:List Lk) (s7 s8 s9:Sl),allNo [s9]=true→(∀l∈ls,∃k n,l=Lk.pair k n∧k.length≤1000∧n.length≤1000)→
 (match linkR ts x g.key ls with | none=>∀s7 s8 s9,N.nx (stQ o x g (.val (formT C g)) s7 s8 s9) M | some r=>∀σ,N.xn σ (r.xn C) M)→loop4 (gtup3 2 (gcons3 (name3 7) (gcons3 (name3 8) gnil3))) (Plan_make_5b C) N (ls.map Lk.t) (stQ o x g (.val (formT C g)) s7 s8 s9) M
 | [],s7,s8,s9,_,_,h=>h s7 s8 s9
 | l::ls,s7,s8,s9,h9,hl,h=>by
   obtain ⟨k,n,rfl,k3,n3⟩:=hl l (List.mem_cons_self ..)
   show loop4 _ _ N (T.tup [.tup (texts k),.str n]::ls.map Lk.t) _ M
   have step:Plan_make_5b C {nx:=loop4 (gtup3 2 (gcons3 (name3 7) (gcons3 (name3 8) gnil3))) (Plan_make_5b C) N (ls.map Lk.t),ct:=loop4 (gtup3 2 (gcons3 (name3 7) (gcons3 (name3 8) gnil3))) (Plan_make_5b C) N (ls.map Lk.t),bk:=N.nx,rt:=N.rt,xn:=N.xn} (stQ o x g (.val (formT C g)) (.val (keyT k)) (.val (.str n)) s9) M:=by
    have ih:=fun s9 h9=>mk5 w hk gk ls (.val (keyT k)) (.val (.str n)) s9 h9 (fun l' hl'=>hl l' (List.mem_cons_of_mem _ hl'))
    generalize hB:loop4 (gtup3 2 (gcons3 (name3 7) (gcons3 (name3 8) gnil3))) (Plan_make_5b C) N (ls.map Lk.t)=B at ih ⊢
    refine sq4_of (t:=Plan_make_5b_1 C) ?_
    have an:allNo (stQ o x g (.val (formT C g)) (.val (keyT k)) (.val (.str n)) s9)=true:=h9
    have t1:∀N:N4,(if n≠x∧n ∉ nms ts then N.xn (stQ o x g (.val (formT C g)) (.val (keyT k)) (.val (.str n)) s9) (nmX C "NoTable" n) M else N.nx (stQ o x g (.val (formT C g)) (.val (keyT k)) (.val (.str n)) s9) M)→Plan_make_5b_1 C N (stQ o x g (.val (formT C g)) (.val (keyT k)) (.val (.str n)) s9) M:=by
     intro N hN
     unfold Plan_make_5b_1
     simp only [ifs4,vwKB4,vw_Q w]
     by_cases e:n=x
     · rw [if_neg (by simp [e])] at hN
       simpa [and3,tst3,op3,v3,slot,neP,isSeq,neS3,flatT,scal,e,next4] using hN
     · by_cases e2:n∈nms ts
       · obtain ⟨q,hq⟩:=getS_of e2
         rw [if_neg (by simp [e2])] at hN
         simpa [and3,tst3,op3,v3,slot,neP,isSeq,neS3,flatT,scal,e,next4,fld3,asIns,planT,lkp_forms,inDF3,asD,asK,dicS_val,hq] using hN
       · have hq:=getS_not e2
         rw [if_pos ⟨e,e2⟩] at hN
         simpa [and3,tst3,op3,v3,slot,neP,isSeq,neS3,flatT,scal,e,next4,fld3,asIns,planT,lkp_forms,inDF3,asD,asK,dicS_val,hq,an,Plan_make_5b_1t_1,puS,raiseT3,asS,n3] using hN
    refine t1 _ ?_
    unfold linkR at h
    by_cases c1:n≠x∧n ∉ nms ts
    · rw [if_pos c1] at h ⊢
      exact h _
    rw [if_neg c1] at h ⊢
    dsimp only
    refine sq4_of (t:=Plan_make_5b_2 C) ?_
    have t2:∀N:N4,N.nx (stQ o x g (.val (formT C g)) (.val (keyT k)) (.val (.str n)) (.val (keyT (wide ts x g.key n)))) M→Plan_make_5b_2 C N (stQ o x g (.val (formT C g)) (.val (keyT k)) (.val (.str n)) s9) M:=by
     intro N hN
     unfold Plan_make_5b_2
     simp only [asg4,vwK4,vw_Q w]
     unfold wide at hN
     by_cases e:n=x
     · rw [if_pos e] at hN
       simpa [if3,tst3,op3,v3,slot,eqP,isSeq,eqS3,flatT,scal,e,okS_key,name3] using hN
     · rw [if_neg e] at hN
       have e2:n∈nms ts:=by
        by_cases y:n∈nms ts
        · exact y
        · exact absurd ⟨e,y⟩ c1
       obtain ⟨q,hq⟩:=getS_of e2
       rw [hq] at hN
       simpa [if3,tst3,op3,v3,slot,eqP,isSeq,eqS3,flatT,scal,e,fld3,asIns,planT,lkp_forms,dget3,asD,asK,dicS_val,hq,formT_eq,lk_key,okS_key,name3] using hN
    refine t2 _ ?_
    have wl:(wide ts x g.key n).length≤1000:=by
     unfold wide
     by_cases e:n=x
     · rw [if_pos e];exact gk
     · rw [if_neg e]
       cases hq:getS ts n with
       | none=>simp
       | some q=>exact hk _ (getS_some hq)
    generalize wide ts x g.key n=W at h wl ⊢
    dsimp only
    have lw:(texts W).length=W.length:=by simp [texts]
    have lk:(texts k).length=k.length:=by simp [texts]
    have sz:k.length≤sizeLine:=Nat.le_trans k3 (by decide)
    have sz2:W.length≤sizeLine:=Nat.le_trans wl (by decide)
    have e2:∀i j:Nat,neP (.int (i:Int)) (.int (j:Int))=fun Q=>Q (.bl (decide (i≠j))):=fun i j=>by
     funext Q
     by_cases e:i=j
     · subst e;simp [neP,isSeq,neS3,flatT,scal]
     · have:¬(i:Int)=(j:Int):=by omega
       simp [neP,isSeq,neS3,flatT,scal,e,this]
    unfold Plan_make_5b_3
    by_cases c2:k.length≠W.length
    · rw [if_pos c2] at h
      have an:allNo (stQ o x g (.val (formT C g)) (.val (.tup (texts k))) (.val (.str n)) (.val (.tup (texts W))))=true:=rfl
      have h:=h (stQ o x g (.val (formT C g)) (.val (keyT k)) (.val (.str n)) (.val (keyT W)))
      simpa [ifs4,pu,tst3,op3,call3,cons3,nil3,v3,slot,len3,lenT,keyT,lw,lk,sz,sz2,e2,c2,an,Plan_make_5b_3t_1,puS,raise3,Rf.xn] using h
    · rw [if_neg c2] at h
      have c3:k.length=W.length:=by simpa using c2
      have:=ih (.val (keyT W)) rfl h
      simpa [ifs4,pu,tst3,op3,call3,cons3,nil3,v3,slot,len3,lenT,keyT,lw,lk,sz2,e2,c3,next4] using this
   exact ob_iff.mpr ⟨_,rfl,rfl,step⟩
theorem mk6 (w:WM C M o a b c m f ts vs us) (hx:x ∉ nms ts) (hl:ts.length≤100) (h:N.nx (stQ o x g (.val (formT C g)) s7 s8 s9) (mset M a (some (.dic (dicS (formT C) (ts++[(x,g)])))))):Plan_make_6 C N (stQ o x g (.val (formT C g)) s7 s8 s9) M:=by
 have sl:ts.length<sizeLine:=Nat.lt_of_le_of_lt hl (by decide)
 have e1:putT (dicS (formT C) ts) (Sum.inr x) (formT C g)=dicS (formT C) (ts++[(x,g)]):=by
  have:=dicS_put (g:=formT C) ts x g
  rw [putS_new hx] at this
  exact this
 unfold Plan_make_6
 simpa [put4,pu,v3,slot,fldC4,asR,asK,w.cellO,lkc_forms,w.cellA,dicS_len,sl,e1] using h
theorem make_ok (w:WM C M o a b c m f ts vs us) (hx:x.length≤1000) (hl:ts.length≤100) (ok:g.Ok) (hk:∀q∈ts,q.2.key.length≤1000) (hg:∀l∈g.links,∃k n,l=Lk.pair k n∧k.length≤1000∧n.length≤1000) {Q:T→Mem→Prop} {X:XM}
 (h:match due ts x g with | none=>Q .non (mset M a (some (.dic (dicS (formT C) (ts++[(x,g)]))))) | some r=>X (r.xn C) M):Plan_make C [.ref o,.str x,keyT g.cs,keyT g.key,.tup (g.more.map keyT),.tup (g.links.map Lk.t)] M Q X:=by
 rw [Plan_make_def]
 show Plan_makeB C _ (stQ o x g .no .no .no .no) M
 unfold due at h
 refine sq4_of (t:=Plan_make_1 C) ?_
 refine mk1 rfl hx ?_
 by_cases c1:fine x=false
 · rw [if_neg (by simp [c1])]
   rw [if_pos c1] at h
   exact h
 rw [if_neg c1] at h
 have c1:fine x=true:=by simpa using c1
 rw [if_pos c1]
 dsimp only
 refine sq4_of (t:=Plan_make_2 C) ?_
 refine mk2 rfl hx w ?_
 by_cases c2:x∈nms ts
 · rw [if_pos c2] at h ⊢
   exact h
 rw [if_neg c2] at h ⊢
 dsimp only
 refine sq4_of (t:=Plan_make_3 C) ?_
 refine mk3 rfl w ?_
 by_cases c3:6≤ts.length
 · rw [if_pos c3] at h ⊢
   exact h
 rw [if_neg c3] at h ⊢
 dsimp only
 refine sq4_of (t:=Plan_make_4 C) ?_
 refine mk4 ok ?_
 cases eo:out g with
 | some n=>
   rw [eo] at h
   exact h
 | none=>
   rw [eo] at h
   dsimp only
   refine sq4_of (t:=Plan_make_5 C) ?_
   have t5:∀N:N4,loop4 (gtup3 2 (gcons3 (name3 7) (gcons3 (name3 8) gnil3))) (Plan_make_5b C) N (g.links.map Lk.t) (stQ o x g (.val (formT C g)) .no .no .no) M→Plan_make_5 C N (stQ o x g (.val (formT C g)) .no .no .no) M:=by
    intro N hN
    unfold Plan_make_5
    simpa [for4,iterP,itemsP,v3,slot] using hN
   refine t5 _ ?_
   refine mk5 w hk (Nat.le_trans ok.key.1 (by decide)) g.links _ _ _ rfl hg ?_
   dsimp only at h
   cases el:linkR ts x g.key g.links with
   | some r=>
     rw [el] at h
     exact fun _=>h
   | none=>
     rw [el] at h
     intro s7 s8 s9
     exact mk6 w c2 hl h
end
end Law
set_option maxHeartbeats 1000000
namespace Law
open PySem L2 M3
theorem sq3_of {t u:S3} {N:N3} {σ:List Sl} (h:t {nx:=u N,ct:=N.ct,bk:=N.bk,rt:=N.rt,xn:=N.xn} σ):seq3 t u N σ:=h
theorem name_fine_eq (C:Cs) (z:Str) (hz:z.length≤1000) (Q:T→Prop) (X:X3):Lname_fine C [.str z] Q X=Q (.bl (fine z)):=by
 rw [Lname_fine_def]
 show Lname_fineB C _ [Sl.val (.str z),Sl.no]=_
 have hl:z.length≤sizeLine:=sl_small (by omega)
 have lc:=fun (Q:List T→Prop) (X:X3)=>letters_comp (i:=1) (σ:=[Sl.val (.str z),Sl.no]) (X:=X) (Q:=Q) z hz (by simp)
 by_cases h1:1≤z.length
 · have h1':(1:Int)≤(z.length:Int):=by omega
   by_cases h2:z.length≤8
   · have h2':(z.length:Int)≤8:=by omega
     simp [Lname_fineB,ret3,v3,k3,nil3,cons3,call3,chain3,len3,all3,andV3,slot,lenT,Option.bind,kbs,iterP,itemsP,M3.leP,hl,h1,h2,h1',h2',lc3,noOwn,wipe3,lc,fine,List.all_map,Function.comp_def]
   · have h2':¬(z.length:Int)≤8:=by omega
     simp [Lname_fineB,ret3,v3,k3,nil3,cons3,call3,chain3,len3,all3,andV3,slot,lenT,Option.bind,kbs,M3.leP,hl,h1,h2,h1',h2',fine]
 · have h1':¬(1:Int)≤(z.length:Int):=by omega
   simp [Lname_fineB,ret3,v3,k3,nil3,cons3,call3,chain3,len3,all3,andV3,slot,lenT,Option.bind,kbs,M3.leP,hl,h1,h1',fine]
theorem in_textsL (neg:Bool) (x:Str) (cs:List Str) (Q:T→Prop):inP neg (.str x) (.lst (texts cs)) Q=Q (.bl (if neg=true then !decide (x∈cs) else decide (x∈cs))):=by
 have hf:∀cs:List Str,flats (texts cs)=some (cs.map V.str):=by
  intro cs
  induction cs with
  | nil=>rfl
  | cons c cs ih=>
    show (flats (texts cs)).map (V.str c::·)=_
    rw [ih]
    rfl
 have hi:∀cs:List Str,inV (.str x) (cs.map V.str)=decide (x∈cs):=by
  intro cs
  induction cs with
  | nil=>rfl
  | cons c cs ih=>
    show (c==x||inV (.str x) (cs.map V.str))=_
    rw [ih]
    by_cases e:x=c
    · subst e;simp
    · have z:(c==x)=false:=beq_eq_false_iff_ne.mpr fun y=>e y.symm
      rw [z]
      simp [e]
 show ob (flats (texts cs)) _=_
 rw [hf]
 show Q (.bl (if neg=true then !(inV (.str x) (cs.map V.str)) else inV (.str x) (cs.map V.str)))=_
 rw [hi]
structure DF (g:Fm):Prop where
 cf:∀x∈g.cs,fine x=true∧sg x∧x.length≤8
 c1:1≤g.cs.length
 c6:g.cs.length≤6
 kk:∀x∈g.key,x∈g.cs
 kl:g.key.length≤100
 k3:g.key.Nodup→g.key.length≤3
 m2:g.more.length≤2
 mo:∀k∈g.more,partOf g.cs k=true∧k.length≤3
 l2:g.links.length≤2
 lo:∀l∈g.links,∃k n,l=Lk.pair k n∧partOf g.cs k=true∧k.length≤3∧sg n∧n.length≤8
def lkN:Lk→Bool
 | .pair _ n=>fine n
 | .lone _=>false
theorem DF.part {g:Fm} (d:DF g) {k:List Str} (h:partOf g.cs k=true):∀x∈k,x∈g.cs:=by
 unfold partOf at h
 simp only [Bool.and_eq_true,List.all_eq_true,decide_eq_true_eq] at h
 exact h.2
theorem DF.short {g:Fm} (d:DF g) {k:List Str} (h:∀x∈k,x∈g.cs) (h3:k.length≤100):short k:=⟨h3,fun x hx=>by have:=(d.cf x (h x hx)).2.2;omega⟩
theorem DF.ok {g:Fm} (d:DF g):g.Ok:=by
 refine ⟨d.short (fun _ h=>h) (Nat.le_trans d.c6 (by decide)),d.short d.kk d.kl,⟨Nat.le_trans d.m2 (by decide),fun k hk=>d.short (d.part (d.mo k hk).1) (Nat.le_trans (d.mo k hk).2 (by decide))⟩,⟨Nat.le_trans d.l2 (by decide),fun l hl=> ?_⟩⟩
 obtain ⟨k,n,rfl,hp,k3,_,n8⟩:=d.lo l hl
 exact ⟨d.short (d.part hp) (Nat.le_trans k3 (by decide)),by omega⟩
theorem DF.pairs {g:Fm} (d:DF g):∀l∈g.links,∃k n,l=Lk.pair k n∧k.length≤1000∧n.length≤1000:=fun l hl=>by
 obtain ⟨k,n,e,_,k3,_,n8⟩:=d.lo l hl
 exact ⟨k,n,e,by omega,by omega⟩
def badK (g:Fm):Prop:=g.key=[]∨¬g.key.Nodup
instance (g:Fm):Decidable (badK g):=by unfold badK;infer_instance
theorem out_D {g:Fm} (d:DF g):out g=(if g.cs.Nodup then (if badK g then some ("BadKey":Str) else if g.links.all lkN=true then none else some ("BadRefer":Str)) else some ("BadColumns":Str):Option Str):=by
 have c6:(1:Int)≤(g.cs.length:Int)∧(g.cs.length:Int)≤6:=by have:=d.c1;have:=d.c6;omega
 have cf:g.cs.all fine=true:=List.all_eq_true.mpr fun x hx=>(d.cf x hx).1
 have mo:(decide (g.more.length≤2)&&g.more.all (partOf g.cs))=true:=by
  rw [decide_eq_true d.m2,Bool.true_and,List.all_eq_true]
  exact fun k hk=>(d.mo k hk).1
 have lo:(decide (g.links.length≤2)&&g.links.all (Lk.holds g.cs))=g.links.all lkN:=by
  rw [decide_eq_true d.l2,Bool.true_and]
  have:∀ls:List Lk,(∀l∈ls,∃k n,l=Lk.pair k n∧partOf g.cs k=true)→ls.all (Lk.holds g.cs)=ls.all lkN:=by
   intro ls h
   induction ls with
   | nil=>rfl
   | cons l ls ih=>
     obtain ⟨k,n,rfl,hp⟩:=h l (List.mem_cons_self ..)
     rw [List.all_cons,List.all_cons,ih fun l' h'=>h l' (List.mem_cons_of_mem _ h')]
     show ((partOf g.cs k&&fine n)&&_)=(fine n&&_)
     rw [hp,Bool.true_and]
  exact this _ fun l hl=>by obtain ⟨k,n,e,hp,_⟩:=d.lo l hl;exact ⟨k,n,e,hp⟩
 unfold out
 rw [lo]
 by_cases n1:g.cs.Nodup
 · have cc:cols 6 g.cs=true:=by
    unfold cols
    rw [cf,decide_eq_true c6,decide_eq_true ((unlTo_nodup g.cs).mpr n1)];rfl
   rw [if_neg (by rw [cc];simp),if_pos n1]
   have kp:partOf g.cs g.key=decide (¬badK g):=by
    unfold partOf
    have e1:(g.key.all fun x=>decide (x∈g.cs))=true:=List.all_eq_true.mpr fun x hx=>decide_eq_true (d.kk x hx)
    rw [e1,Bool.and_true]
    unfold cols
    have e2:g.key.all fine=true:=List.all_eq_true.mpr fun x hx=>(d.cf x (d.kk x hx)).1
    rw [e2,Bool.true_and]
    by_cases b:badK g
    · rw [decide_eq_false (p:=¬badK g) (fun z=>z b)]
      rcases b with b | b
      · rw [b];rfl
      · rw [decide_eq_false fun z=>b ((unlTo_nodup g.key).mp z),Bool.and_false]
    · rw [decide_eq_true (p:=¬badK g) b]
      have nk:g.key.Nodup:=by
       by_cases y:g.key.Nodup
       · exact y
       · exact absurd (Or.inr y) b
      have l1:1≤g.key.length:=by
       cases e:g.key with
       | nil=>exact absurd (Or.inl e) b
       | cons x xs=>simp
      have l3:=d.k3 nk
      rw [decide_eq_true ((unlTo_nodup g.key).mpr nk),decide_eq_true (show (1:Int)≤(g.key.length:Int)∧(g.key.length:Int)≤3 by omega)]
      rfl
   rw [kp,mo,Bool.and_true]
   by_cases b:badK g
   · rw [if_pos (decide_eq_false fun z=>z b),if_pos b]
   · rw [if_neg (by simpa using b),if_neg b]
     cases g.links.all lkN<;>simp
 · have cc:cols 6 g.cs=false:=by
    unfold cols
    rw [decide_eq_false fun z=>n1 ((unlTo_nodup g.cs).mp z),Bool.and_false,Bool.and_false]
   rw [if_pos cc,if_neg n1]
def whyO:Option Rf→T
 | none=>.tup [.str "none"]
 | some r=>r.t
abbrev stD (ts:Tabs) (x:Str) (g:Fm) (s3 s4:Sl):List Sl:=[.val (.dic (mdlF ts)),.val (.str x),.val g.t,s3,s4]
section
variable {C:Cs} {ts:Tabs} {x:Str} {g:Fm} {s3 s4:Sl} {N:N3}
theorem r_ix (a b c d:T):(∀Q:T→Prop,ixP (.tup [a,b,c,d]) (.int 0) Q=Q a)∧(∀Q:T→Prop,ixP (.tup [a,b,c,d]) (.int 1) Q=Q b)∧(∀Q:T→Prop,ixP (.tup [a,b,c,d]) (.int 3) Q=Q d):=⟨fun Q=>by rfl,fun Q=>by rfl,fun Q=>by rfl⟩
theorem du1 (hx:x.length≤1000) (h:if fine x=true then N.nx (stD ts x g s3 s4) else N.rt (.tup [.str "BadName",.str x])):Ldue_1 C N (stD ts x g s3 s4):=by
 have e:=fun Q X=>name_fine_eq C x hx Q X
 have s2:2≤sizeLine:=by decide
 unfold Ldue_1
 by_cases z:fine x=true
 · rw [if_pos z] at h
   simpa [ifs3,not3,tst3,fn3,cons3,nil3,v3,slot,e,z,next3] using h
 · rw [if_neg z] at h
   simpa [ifs3,not3,tst3,fn3,cons3,nil3,v3,slot,e,z,Ldue_1t_1,ret3,tup3,k3,s2] using h
theorem du2 (h:if x∈nms ts then N.rt (.tup [.str "Taken",.str x]) else N.nx (stD ts x g s3 s4)):Ldue_2 C N (stD ts x g s3 s4):=by
 have s2:2≤sizeLine:=by decide
 have e:=fun Q=>in_textsL false x (nms ts) Q
 unfold Ldue_2
 by_cases z:x∈nms ts
 · rw [if_pos z] at h
   simpa [ifs3,tst3,op3,dget3,cons3,nil3,v3,k3,slot,asD,asK,val_NF,e,z,Ldue_2t_1,ret3,tup3,s2] using h
 · rw [if_neg z] at h
   simpa [ifs3,tst3,op3,dget3,cons3,nil3,v3,k3,slot,asD,asK,val_NF,e,z,next3] using h
theorem du3 (hl:ts.length≤100) (h:if 6≤ts.length then N.rt (.tup [.str "Full"]) else N.nx (stD ts x g s3 s4)):Ldue_3 C N (stD ts x g s3 s4):=by
 have s1:1≤sizeLine:=by decide
 have ln:(texts (nms ts)).length=ts.length:=by simp [texts,nms]
 have sl:ts.length≤sizeLine:=Nat.le_trans hl (by decide)
 unfold Ldue_3
 by_cases z:6≤ts.length
 · rw [if_pos z] at h
   have:(5:Int)<(ts.length:Int):=by omega
   simpa [ifs3,tst3,op3,dget3,call3,len3,lenT,cons3,nil3,v3,k3,slot,asD,asK,val_NF,ln,sl,M3.gtP,this,Ldue_3t_1,ret3,tup3,s1] using h
 · rw [if_neg z] at h
   have:¬(5:Int)<(ts.length:Int):=by omega
   simpa [ifs3,tst3,op3,dget3,call3,len3,lenT,cons3,nil3,v3,k3,slot,asD,asK,val_NF,ln,sl,M3.gtP,this,next3] using h
theorem txs_texts (xs:List Str):txs (texts xs)=some xs:=strs_map xs
theorem lset_lt {xs:List Str}:unlTo xs xs.length<xs.length↔¬xs.Nodup:=by
 have h1:=unlTo_le xs xs.length
 have h2:=unlTo_nodup xs
 constructor
 · intro h z
   have:=h2.mpr z
   omega
 · intro h
   have:unlTo xs xs.length≠xs.length:=fun z=>h (h2.mp z)
   omega
theorem itK (xs:List Str):items (keyT xs)=some (texts xs):=rfl
theorem lenK (xs:List Str):lenT (keyT xs)=some (texts xs).length:=rfl
theorem du4 (d:DF g) (h:if g.cs.Nodup then N.nx (stD ts x g s3 s4) else N.rt (.tup [.str "BadColumns"])):Ldue_4 C N (stD ts x g s3 s4):=by
 have s1:1≤sizeLine:=by decide
 have lt:(texts g.cs).length=g.cs.length:=by simp [texts]
 have c6:=d.c6
 have l1000:g.cs.length≤1000:=by omega
 have sl:g.cs.length≤sizeLine:=Nat.le_trans l1000 (by decide)
 have ri:=(r_ix (keyT g.cs) (keyT g.key) (.tup (g.more.map keyT)) (.tup (g.links.map Lk.t))).1
 unfold Ldue_4
 by_cases z:g.cs.Nodup
 · rw [if_pos z] at h
   have:¬unlTo g.cs g.cs.length<g.cs.length:=fun y=>lset_lt.mp y z
   simpa [ifs3,tst3,op3,lenSet3,call3,len3,lenK,cons3,nil3,v3,k3,slot,Fm.t,ri,itK,txs_texts,lt,l1000,sl,M3.ltP,this,next3] using h
 · rw [if_neg z] at h
   have:unlTo g.cs g.cs.length<g.cs.length:=lset_lt.mpr z
   simpa [ifs3,tst3,op3,lenSet3,call3,len3,lenK,cons3,nil3,v3,k3,slot,Fm.t,ri,itK,txs_texts,lt,l1000,sl,M3.ltP,this,Ldue_4t_1,ret3,tup3,s1] using h
theorem eq_nil {xs:List Str} (h:∀x∈xs,sg x) (Q:T→Prop):eqP (keyT xs) (.tup []) Q=Q (.bl (decide (xs=[]))):=by
 have e:eqP (keyT xs) (.tup []) Q=eqD3 (keyT xs) (.tup []) Q:=by simp [eqP,isSeq,keyT]
 rw [e]
 have d1:dat (keyT xs)=some (.tuple (xs.map PyData.str)):=by
  show (dats (texts xs)).map PyData.tuple=_
  rw [dats_texts]
  rfl
 have d2:dat (.tup [])=some (.tuple []):=rfl
 have s2:SeqAt.shaped (.tuple [])=true:=by decide +kernel
 unfold eqD3
 rw [d1,d2]
 show (SeqAt.shaped _=true∧SeqAt.shaped (.tuple [])=true∧Q (.bl (PyData.eqv (.tuple (xs.map PyData.str)) (.tuple []))))=_
 simp only [lay_texts h,s2,true_and]
 cases xs<;>rfl
theorem du5 (d:DF g) (h:if badK g then N.rt (.tup [.str "BadKey"]) else N.nx (stD ts x g s3 s4)):Ldue_5 C N (stD ts x g s3 s4):=by
 have s1:1≤sizeLine:=by decide
 have s0:0≤sizeLine:=Nat.zero_le _
 have lt:(texts g.key).length=g.key.length:=by simp [texts]
 have kl:=d.kl
 have l1000:g.key.length≤1000:=by omega
 have sl:g.key.length≤sizeLine:=Nat.le_trans l1000 (by decide)
 have ri:=(r_ix (keyT g.cs) (keyT g.key) (.tup (g.more.map keyT)) (.tup (g.links.map Lk.t))).2.1
 have en:=fun Q=>eq_nil (xs:=g.key) (fun y hy=>(d.cf y (d.kk y hy)).2.1) Q
 have t1:∀(Q:Bool→Prop) X,tst3 (op3 eqP (op3 ixP (v3 2) (k3 (.int 1))) (tup3 nil3)) (stD ts x g s3 s4) Q X=Q (decide (g.key=[])):=fun Q X=>by
  simp [tst3,op3,v3,k3,slot,Fm.t,ri,tup3,nil3,s0,en]
 have t2:∀(Q:Bool→Prop) X,tst3 (op3 M3.ltP (lenSet3 (op3 ixP (v3 2) (k3 (.int 1)))) (call3 len3 (cons3 (op3 ixP (v3 2) (k3 (.int 1))) nil3))) (stD ts x g s3 s4) Q X=Q (decide (¬g.key.Nodup)):=fun Q X=>by
  have e:decide (unlTo g.key g.key.length<g.key.length)=decide (¬g.key.Nodup):=decide_eq_decide.mpr lset_lt
  simp [tst3,op3,lenSet3,call3,len3,lenK,cons3,nil3,v3,k3,slot,Fm.t,ri,itK,txs_texts,lt,l1000,sl,M3.ltP]
  rw [e]
  simp
 unfold Ldue_5
 simp only [ifs3,or3,t1,t2]
 by_cases z:badK g
 · rw [if_pos z] at h
   have fin:Ldue_5t_1 C N (stD ts x g s3 s4):=by simpa [Ldue_5t_1,ret3,tup3,cons3,nil3,k3,s1] using h
   rcases z with z | z
   · rw [if_pos (decide_eq_true z)];exact fin
   · by_cases y:g.key=[]
     · rw [if_pos (decide_eq_true y)];exact fin
     · rw [if_neg (by simpa using y),if_pos (decide_eq_true z)];exact fin
 · rw [if_neg z] at h
   have y1:¬g.key=[]:=fun y=>z (.inl y)
   have y2:¬ ¬g.key.Nodup:=fun y=>z (.inr y)
   rw [if_neg (by simpa using y1),if_neg (by simpa using y2)]
   exact h
theorem du6:∀(ls:List Lk) (s3 s4:Sl),(∀l∈ls,∃k n,l=Lk.pair k n∧k.length≤1000∧n.length≤1000)→(if ls.all lkN=true then ∀s3 s4,N.nx (stD ts x g s3 s4) else N.rt (.tup [.str "BadRefer"]))→
 loop3 (gtup3 2 (gcons3 (name3 3) (gcons3 (name3 4) gnil3))) (Ldue_6b C) N (ls.map Lk.t) (stD ts x g s3 s4)
 | [],s3,s4,_,h=>h s3 s4
 | l::ls,s3,s4,hl,h=>by
   obtain ⟨k,n,rfl,k3',n3⟩:=hl l (List.mem_cons_self ..)
   show loop3 _ _ N (T.tup [.tup (texts k),.str n]::ls.map Lk.t) _
   have s1:1≤sizeLine:=by decide
   have e:=fun Q X=>name_fine_eq C n n3 Q X
   have step:Ldue_6b C {nx:=loop3 (gtup3 2 (gcons3 (name3 3) (gcons3 (name3 4) gnil3))) (Ldue_6b C) N (ls.map Lk.t),ct:=loop3 (gtup3 2 (gcons3 (name3 3) (gcons3 (name3 4) gnil3))) (Ldue_6b C) N (ls.map Lk.t),bk:=N.nx,rt:=N.rt,xn:=N.xn} (stD ts x g (.val (keyT k)) (.val (.str n))):=by
    have ih:=du6 ls (.val (keyT k)) (.val (.str n)) (fun l' hl'=>hl l' (List.mem_cons_of_mem _ hl'))
    generalize hB:loop3 (gtup3 2 (gcons3 (name3 3) (gcons3 (name3 4) gnil3))) (Ldue_6b C) N (ls.map Lk.t)=B at ih ⊢
    have ea:(Lk.pair k n::ls).all lkN=(fine n&&ls.all lkN):=rfl
    rw [ea] at h
    unfold Ldue_6b Ldue_6b_1
    by_cases z:fine n=true
    · rw [z,Bool.true_and] at h
      have:=ih h
      simpa [ifs3,not3,tst3,fn3,cons3,nil3,v3,slot,e,z,next3] using this
    · rw [if_neg (by simp [z])] at h
      simpa [ifs3,not3,tst3,fn3,cons3,nil3,v3,k3,slot,e,z,Ldue_6b_1t_1,ret3,tup3,s1] using h
   exact ob_iff.mpr ⟨_,rfl,rfl,step⟩
theorem du7 (hk:∀q∈ts,q.2.key.length≤1000) (gk:g.key.length≤1000):∀(ls:List Lk) (s3 s4:Sl),(∀l∈ls,∃k n,l=Lk.pair k n∧k.length≤1000∧n.length≤1000)→(match linkR ts x g.key ls with | none=>∀s3 s4,N.nx (stD ts x g s3 s4) | some r=>N.rt r.t)→
 loop3 (gtup3 2 (gcons3 (name3 3) (gcons3 (name3 4) gnil3))) (Ldue_7b C) N (ls.map Lk.t) (stD ts x g s3 s4)
 | [],s3,s4,_,h=>h s3 s4
 | l::ls,s3,s4,hl,h=>by
   obtain ⟨k,n,rfl,k3',n3⟩:=hl l (List.mem_cons_self ..)
   show loop3 _ _ N (T.tup [.tup (texts k),.str n]::ls.map Lk.t) _
   have s1:1≤sizeLine:=by decide
   have s2:2≤sizeLine:=by decide
   have step:Ldue_7b C {nx:=loop3 (gtup3 2 (gcons3 (name3 3) (gcons3 (name3 4) gnil3))) (Ldue_7b C) N (ls.map Lk.t),ct:=loop3 (gtup3 2 (gcons3 (name3 3) (gcons3 (name3 4) gnil3))) (Ldue_7b C) N (ls.map Lk.t),bk:=N.nx,rt:=N.rt,xn:=N.xn} (stD ts x g (.val (keyT k)) (.val (.str n))):=by
    have ih:=du7 hk gk ls (.val (keyT k)) (.val (.str n)) (fun l' hl'=>hl l' (List.mem_cons_of_mem _ hl'))
    generalize hB:loop3 (gtup3 2 (gcons3 (name3 3) (gcons3 (name3 4) gnil3))) (Ldue_7b C) N (ls.map Lk.t)=B at ih ⊢
    unfold Ldue_7b
    refine sq3_of (t:=Ldue_7b_1 C) ?_
    have en:=fun Q=>in_textsL true n (nms ts) Q
    have t1:∀N:N3,(if n≠x∧n ∉ nms ts then N.rt (.tup [.str "NoTable",.str n]) else N.nx (stD ts x g (.val (keyT k)) (.val (.str n))))→Ldue_7b_1 C N (stD ts x g (.val (keyT k)) (.val (.str n))):=by
     intro N hN
     unfold Ldue_7b_1
     by_cases e:n=x
     · rw [if_neg (by simp [e])] at hN
       simpa [ifs3,and3,tst3,op3,v3,slot,neP,isSeq,neS3,flatT,scal,e,next3] using hN
     · by_cases e2:n∈nms ts
       · rw [if_neg (by simp [e2])] at hN
         simpa [ifs3,and3,tst3,op3,v3,k3,slot,neP,isSeq,neS3,flatT,scal,e,next3,dget3,asD,asK,val_NF,en,e2] using hN
       · rw [if_pos ⟨e,e2⟩] at hN
         simpa [ifs3,and3,tst3,op3,v3,k3,slot,neP,isSeq,neS3,flatT,scal,e,dget3,asD,asK,val_NF,en,e2,Ldue_7b_1t_1,ret3,tup3,cons3,nil3,s2] using hN
    refine t1 _ ?_
    unfold linkR at h
    by_cases c1:n≠x∧n ∉ nms ts
    · rw [if_pos c1] at h ⊢
      exact h
    rw [if_neg c1] at h ⊢
    dsimp only
    have ri:=r_ix (keyT g.cs) (keyT g.key) (.tup (g.more.map keyT)) (.tup (g.links.map Lk.t))
    have wv:∀(Q:T→Prop) X,if3 (tst3 (op3 eqP (v3 4) (v3 1))) (op3 ixP (v3 2) (k3 (.int 1))) (op3 ixP (dget3 (dget3 (v3 0) (k3 (.str "forms"))) (v3 4)) (k3 (.int 1))) (stD ts x g (.val (keyT k)) (.val (.str n))) Q X=Q (keyT (wide ts x g.key n)):=by
     intro Q X
     unfold wide
     by_cases e:n=x
     · rw [if_pos e]
       simp [if3,tst3,op3,v3,k3,slot,eqP,isSeq,eqS3,flatT,scal,e,Fm.t,ri.2.1]
     · rw [if_neg e]
       have e2:n∈nms ts:=by
        by_cases y:n∈nms ts
        · exact y
        · exact absurd ⟨e,y⟩ c1
       obtain ⟨q,hq⟩:=getS_of e2
       have rq:=r_ix (keyT q.cs) (keyT q.key) (.tup (q.more.map keyT)) (.tup (q.links.map Lk.t))
       rw [hq]
       simp [if3,tst3,op3,v3,k3,slot,eqP,isSeq,eqS3,flatT,scal,e,dget3,asD,asK,val_FF,dicS_val,hq]
       exact Eq.to_iff (rq.2.1 Q)
    have wl:(wide ts x g.key n).length≤1000:=by
     unfold wide
     by_cases e:n=x
     · rw [if_pos e];exact gk
     · rw [if_neg e]
       cases hq:getS ts n with
       | none=>simp
       | some q=>exact hk _ (getS_some hq)
    generalize wide ts x g.key n=W at h wl wv
    have lw:(texts W).length=W.length:=by simp [texts]
    have lk:(texts k).length=k.length:=by simp [texts]
    have sz:k.length≤sizeLine:=Nat.le_trans k3' (by decide)
    have sz2:W.length≤sizeLine:=Nat.le_trans wl (by decide)
    have e2:∀i j:Nat,neP (.int (i:Int)) (.int (j:Int))=fun Q=>Q (.bl (decide (i≠j))):=fun i j=>by
     funext Q
     by_cases e:i=j
     · subst e;simp [neP,isSeq,neS3,flatT,scal]
     · have:¬(i:Int)=(j:Int):=by omega
       simp [neP,isSeq,neS3,flatT,scal,e,this]
    unfold Ldue_7b_2
    generalize if3 (tst3 (op3 eqP (v3 4) (v3 1))) (op3 ixP (v3 2) (k3 (.int 1))) (op3 ixP (dget3 (dget3 (v3 0) (k3 (.str "forms"))) (v3 4)) (k3 (.int 1)))=WE at wv
    by_cases c2:k.length≠W.length
    · rw [if_pos c2] at h
      simpa [ifs3,tst3,op3,call3,cons3,nil3,v3,k3,slot,len3,lenK,wv,lw,lk,sz,sz2,e2,c2,Ldue_7b_2t_1,ret3,tup3,s1,Rf.t] using h
    · rw [if_neg c2] at h
      have c3:k.length=W.length:=by simpa using c2
      have:=ih h
      simpa [ifs3,tst3,op3,call3,cons3,nil3,v3,slot,len3,lenK,wv,lw,lk,sz2,e2,c3,next3] using this
   exact ob_iff.mpr ⟨_,rfl,rfl,step⟩
theorem due_ok (hx:x.length≤1000) (hl:ts.length≤100) (d:DF g) (hk:∀q∈ts,q.2.key.length≤1000) {Q:T→Prop} {X:X3} (h:Q (whyO (due ts x g))):Ldue C [.dic (mdlF ts),.str x,g.t] Q X:=by
 rw [Ldue_def]
 show LdueB C _ (stD ts x g .no .no)
 unfold LdueB
 have ri:=(r_ix (keyT g.cs) (keyT g.key) (.tup (g.more.map keyT)) (.tup (g.links.map Lk.t))).2.2
 unfold due at h
 rw [out_D d] at h
 refine sq3_of (t:=Ldue_1 C) ?_
 refine du1 hx ?_
 by_cases c1:fine x=false
 · rw [if_neg (by simp [c1])]
   rw [if_pos c1] at h
   exact h
 rw [if_neg c1] at h
 have c1:fine x=true:=by simpa using c1
 rw [if_pos c1]
 dsimp only
 refine sq3_of (t:=Ldue_2 C) ?_
 refine du2 ?_
 by_cases c2:x∈nms ts
 · rw [if_pos c2] at h ⊢
   exact h
 rw [if_neg c2] at h ⊢
 dsimp only
 refine sq3_of (t:=Ldue_3 C) ?_
 refine du3 hl ?_
 by_cases c3:6≤ts.length
 · rw [if_pos c3] at h ⊢
   exact h
 rw [if_neg c3] at h ⊢
 dsimp only
 refine sq3_of (t:=Ldue_4 C) ?_
 refine du4 d ?_
 by_cases c4:g.cs.Nodup
 rotate_left
 · rw [if_neg c4] at h ⊢
   exact h
 rw [if_pos c4] at h ⊢
 dsimp only
 refine sq3_of (t:=Ldue_5 C) ?_
 refine du5 d ?_
 by_cases c5:badK g
 · rw [if_pos c5] at h ⊢
   exact h
 rw [if_neg c5] at h ⊢
 dsimp only
 refine sq3_of (t:=Ldue_6 C) ?_
 have t6:∀N:N3,loop3 (gtup3 2 (gcons3 (name3 3) (gcons3 (name3 4) gnil3))) (Ldue_6b C) N (g.links.map Lk.t) (stD ts x g .no .no)→Ldue_6 C N (stD ts x g .no .no):=by
  intro N hN
  unfold Ldue_6
  simpa [for3,iterP,itemsP,op3,v3,k3,slot,Fm.t,ri] using hN
 refine t6 _ ?_
 refine du6 g.links _ _ d.pairs ?_
 by_cases c6:g.links.all lkN=true
 rotate_left
 · rw [if_neg c6] at h ⊢
   exact h
 rw [if_pos c6] at h ⊢
 intro s3 s4
 dsimp only at h ⊢
 refine sq3_of (t:=Ldue_7 C) ?_
 have t7:∀N:N3,loop3 (gtup3 2 (gcons3 (name3 3) (gcons3 (name3 4) gnil3))) (Ldue_7b C) N (g.links.map Lk.t) (stD ts x g s3 s4)→Ldue_7 C N (stD ts x g s3 s4):=by
  intro N hN
  unfold Ldue_7
  simpa [for3,iterP,itemsP,op3,v3,k3,slot,Fm.t,ri] using hN
 refine t7 _ ?_
 refine du7 hk (Nat.le_trans d.kl (by decide)) g.links _ _ d.pairs ?_
 cases el:linkR ts x g.key g.links with
 | some r=>
   rw [el] at h
   exact h
 | none=>
   rw [el] at h
   intro s3 s4
   have s1:1≤sizeLine:=by decide
   have h:Q (.tup [.str "none"]):=h
   simpa [Ldue_8,ret3,tup3,cons3,nil3,k3,s1] using h
end
end Law
set_option maxHeartbeats 1000000
namespace Law
open PySem L2 M3
theorem comp_eq {α:Type} {i:Nat} {te:E3} {σ:List Sl} {X:X3} {tr tr':α→T} {Q:List T→Prop}:∀(l:List α) (acc:List T),acc.length+l.length≤100000→(∀a∈l,∀Q':T→Prop,te (σ.set i (.val (tr a))) Q' X=Q' (tr' a))→
 comp3 (name3 i) yes3 te σ X Q (l.map tr) acc=Q (acc++l.map tr')
 | [],acc,_,_=>by simp [comp3]
 | a::l,acc,hl,h=>by
   have e1:=h a (List.mem_cons_self ..)
   have e2:=comp_eq (i:=i) (te:=te) (σ:=σ) (X:=X) (tr:=tr) (tr':=tr') (Q:=Q) l (acc++[tr' a]) (by simp at hl ⊢;omega) (fun x hx=>h x (List.mem_cons_of_mem _ hx))
   have e3:acc.length<sizeLine:=by
    have:sizeLine=16777216:=by decide
    simp at hl;omega
   show (te (σ.set i (.val (tr a))) (fun y=>acc.length<sizeLine∧comp3 (name3 i) yes3 te σ X Q (l.map tr) (acc++[y])) X)=_
   rw [e1,e2]
   simp [e3]
theorem gvS_of {i n:Nat} {s:S4} {N:N4} {σ:List Sl} {M:Mem} {d:T} (h1:σ[i]? =some (.val d)) (h:s N (σ.set i (.val (unf M n d))) (mdrop M (rch M n d))):gvS4 i n s N σ M:=by
 unfold gvS4
 rw [h1]
 exact h
theorem same12 (C:Cs) {x y:T} {Q:T→Prop} {X:X3} (h1:plain x=true) (h2:plain y=true) (h3:dep y<12):Lsame C 12 [x,y] Q X=Q (.bl (sameT x y)):=same_ok C 12 x y Q X h1 h2 h3
theorem same_refl (C:Cs) {x:T} {Q:T→Prop} {X:X3} (h1:plain x=true) (h3:dep x<12):Lsame C 12 [x,x] Q X=Q (.bl true):=by rw [same12 C h1 h1 h3,sameT_refl x h1]
structure TsOk (ts:Tabs):Prop where
 nd:(nms ts).Nodup
 l6:ts.length≤6
 ok:∀q∈ts,sg q.1∧q.1.length≤8∧q.2.Ok
theorem TsOk.key {ts:Tabs} (h:TsOk ts):∀q∈ts,q.2.key.length≤1000:=fun q hq=>Nat.le_trans (h.ok q hq).2.2.key.1 (by decide)
abbrev stM (o m:Addr) (s2 s3 s4 s5:Sl):List Sl:=[.val (.ref o),.val (.ref m),s2,s3,s4,s5]
section
variable {C:Cs} {M M':Mem} {o a b c m f:Addr} {ts:Tabs} {s2 s3 s4 s5:Sl} {N:N4}
theorem vwM1 (w:WM C M o a b c m f ts (nms ts) ts):vwS (eP C) 4 M [0,1] (stM o m s2 s3 s4 s5)=[.val (planT C ts),.val (.dic (mdlF ts)),s2,s3,s4,s5]:=by
 show ((stM o m s2 s3 s4 s5).set 1 (.val (seen (eP C) M 4 (.ref m)))).set 0 (.val (seen (eP C) M 4 (.ref o)))=_
 rw [w.plan,w.model (eP C) rfl 2]
 rfl
theorem vwM2 (w:WM C M o a b c m f ts (nms ts) ts):vwS (eP C) 4 M [0] (stM o m s2 s3 s4 s5)=[.val (planT C ts),.val (.ref m),s2,s3,s4,s5]:=by
 show (stM o m s2 s3 s4 s5).set 0 (.val (seen (eP C) M 4 (.ref o)))=_
 rw [w.plan]
 rfl
theorem vwM3 (w:WM C M o a b c m f ts (nms ts) ts):vwS eD 2 M [1] (stM o m s2 s3 s4 s5)=[.val (.ref o),.val (.dic (mdlF ts)),s2,s3,s4,s5]:=by
 show (stM o m s2 s3 s4 s5).set 1 (.val (seen eD M 2 (.ref m)))=_
 rw [w.model eD rfl 0]
 rfl
theorem plain_lstT {xs:List Str} (h:xs.length<100000):plain (.lst (texts xs))=true∧dep (.lst (texts xs))<12:=by
 simp [plain_texts,ltk,h,dep_texts]
theorem ms1 (w:WM C M o a b c m f ts (nms ts) ts) (hl:ts.length≤6) (h:N.nx (stM o m s2 s3 s4 s5) M):Lmade_so_1 C N (stM o m s2 s3 s4 s5) M:=by
 obtain ⟨p1,p2⟩:=plain_lstT (xs:=nms ts) (by simp [nms];omega)
 have e:=fun Q X=>same_refl C (Q:=Q) (X:=X) p1 p2
 have te:=fun Q X=>tables_eq C ts Q X
 unfold Lmade_so_1
 simp only [ifs4,not4,vwKB4,vwM1 w]
 simp only [planT] at te
 simp [-List.lookup_eq_none_iff,tst3,fn3,cons3,nil3,ofL3,meth3,v3,k3,slot,dget3,asIns,asD,asK,asL,val_NF,planT,lkp_tables,te,e,next4]
 exact h
theorem ms2 (w:WM C M o a b c m f ts (nms ts) ts) (hl:ts.length≤6) (h:∀M',Sub M M'→N.nx (stM o m s2 s3 s4 s5) M'):Lmade_so_2 C N (stM o m s2 s3 s4 s5) M:=by
 have te:=fun Q X=>tables_eq C ts Q X
 have ln:(texts (nms ts)).length=ts.length:=by simp [texts,nms]
 have sl:ts.length<sizeLine:=Nat.lt_of_le_of_lt (show ts.length≤100 by omega) (by decide)
 have ok:okC (eP C) (.lst (texts (nms ts)))=true:=okS_texts _ _
 have go:∀p,M p=none→N.nx (stM o m s2 s3 s4 s5) (mset (mset M p (some (.lst (texts (nms ts))))) p (some (.lst (texts (nms ts)++[.str "zz"])))):=fun p hp=>by
  refine h _ fun x t e=> ?_
  have z:x≠p:=fun z=>by rw [z,hp] at e;cases e
  rw [mset_ne z,mset_ne z];exact e
 unfold Lmade_so_2
 simp only [drop4,app4,vwKC4,vwM2 w]
 simp only [planT] at te
 simp [-List.lookup_eq_none_iff,meth3,v3,slot,asIns,planT,lkp_tables,nil3,te]
 refine ⟨ok,fun p hp=> ?_⟩
 have:=go p hp
 simpa [asR,cellL,asL,pu,k3,ln,sl] using this
theorem ms3 (hc:C.at_ "Form"≠C.at_ "Plan") (w:WM C M o a b c m f ts (nms ts) ts) (ok:TsOk ts) (h:∀s2 s3,(∀t,s2≠Sl.own t)→N.nx (stM o m s2 s3 s4 s5) M):∀(xs:List Str) (s2 s3:Sl),(∀t,s2≠Sl.own t)→(∀x∈xs,x∈nms ts)→loop4 (name3 2) (Lmade_so_3b C) N (texts xs) (stM o m s2 s3 s4 s5) M
 | [],s2,s3,h2,_=>h s2 s3 h2
 | x::xs,s2,s3,h2,hx=>by
   have et:texts (x::xs)=T.str x::texts xs:=rfl
   rw [et,lp4_cons]
   have ih:=fun s2 s3 h2=>ms3 hc w ok h xs s2 s3 h2 fun y hy=>hx y (List.mem_cons_of_mem _ hy)
   generalize loop4 (name3 2) (Lmade_so_3b C) N (texts xs)=B at ih ⊢
   show Lmade_so_3b C _ (stM o m (.val (.str x)) s3 s4 s5) M
   obtain ⟨g,hg⟩:=getS_of (hx x (List.mem_cons_self ..))
   have gk:=ok.ok _ (getS_some hg)
   refine sq4_of (t:=Lmade_so_3b_1 C) ?_
   have t1:∀N:N4,N.nx (stM o m (.val (.str x)) (.val (formT C g)) s4 s5) M→Lmade_so_3b_1 C N (stM o m (.val (.str x)) s3 s4 s5) M:=by
    intro N hN
    have z:=form4_ok (C:=C) hc w (x:=x) (Nat.le_trans gk.2.1 (by decide)) (Q:=fun d M1=>N.nx (stM o m (.val (.str x)) (.val d) s4 s5) M1) (X:=fun y M1=>N.xn (stM o m (.val (.str x)) s3 s4 s5) y M1) (fun g' e=>by rw [hg] at e;cases e;exact hN) (fun e=>by rw [hg] at e;cases e)
    unfold Lmade_so_3b_1
    simpa [-List.lookup_eq_none_iff,asg4,methC4,pu,v3,slot,asR,w.cellO,lkc_form,cons4,nil4,name3] using z
   refine t1 _ ?_
   dsimp only
   obtain ⟨p1,p2⟩:=plain_form gk.2.2
   have p1:plainL g.args=true:=p1
   have p2:depL g.args≤3:=p2
   have e:=fun Q X=>same_refl C (x:=.lst g.args) (Q:=Q) (X:=X) (by simp [p1];simp [Fm.args]) (by simp;omega)
   have s4':4≤sizeLine:=by decide
   unfold Lmade_so_3b_2
   simp only [ifs4,not4,vwKB4,vwM3 w]
   simp [tst3,fn3,cons3,nil3,lst3,fld3,v3,k3,slot,formT_eq,asIns,lk_columns,lk_key,lk_others,lk_refers,call3,dget3,asD,asK,val_FF,dicS_val,hg,list3,Fm.t,items,s4']
   simp only [Fm.args] at e
   rw [e]
   have:=ih (.val (.str x)) (.val (formT C g)) (fun t z=>by cases z)
   simpa [next4,formT_eq] using this
theorem ms4 (w:WM C M o a b c m f ts (nms ts) ts) (ok:TsOk ts) (h:∀M' s2,(∀t,s2≠Sl.own t)→Sub M M'→N.nx (stM o m s2 s3 s4 s5) M'):∀(xs:List Str) (s2:Sl) (M':Mem),(∀t,s2≠Sl.own t)→Sub M M'→(∀x∈xs,x∈nms ts)→loop4 (name3 2) (Lmade_so_4b C) N (texts xs) (stM o m s2 s3 s4 s5) M'
 | [],s2,M',h2,hs,_=>h M' s2 h2 hs
 | x::xs,s2,M',h2,hs,hx=>by
   have et:texts (x::xs)=T.str x::texts xs:=rfl
   rw [et,lp4_cons]
   have ih:=fun s2 M' h2 hs=>ms4 w ok h xs s2 M' h2 hs fun y hy=>hx y (List.mem_cons_of_mem _ hy)
   generalize loop4 (name3 2) (Lmade_so_4b C) N (texts xs)=B at ih ⊢
   show Lmade_so_4b C _ (stM o m (.val (.str x)) s3 s4 s5) M'
   have w':=w.sub hs
   have s1:1≤sizeLine:=by decide
   have s0:0<sizeLine:=by decide
   unfold Lmade_so_4b Lmade_so_4b_1
   refine ob_iff.mpr ⟨_,w'.cellO,rfl,lkc_empty a b c,rfl, ?_⟩
   refine empty4_ok (C:=C) w' ok.nd (by have:=ok.l6;omega) fun rs q M2 hr h1 h3' h3 h4=> ?_
   have hm:x∈rs.map (·.1):=by rw [hr];exact hx x (List.mem_cons_self ..)
   obtain ⟨r,er⟩:=getS_of hm
   obtain ⟨n1,n2⟩:=h4 _ (getS_some er)
   have cd:cellD M2 q=some (dicS T.ref rs):=by unfold cellD;rw [h3];rfl
   have cl:cellL M2 r=some []:=by unfold cellL;rw [n2];rfl
   have go:=ih (.val (.str x)) (mset M2 r (some (.lst [.tup [.int 1]]))) (fun t z=>by cases z) (fun y t e=>by
    have:y≠r:=fun z=>by
     have:=hs y t e
     rw [z] at this
     rw [n1] at this
     cases this
    rw [mset_ne this]
    exact h1 y t (hs y t e))
   have ev:valT (dicS T.ref rs) (Sum.inr x)=some (.ref r):=by rw [dicS_val,er];rfl
   refine ob_iff.mpr ⟨q,rfl, ?_⟩
   refine ob_iff.mpr ⟨_,cd, ?_⟩
   refine ob_iff.mpr ⟨_,ev, ?_⟩
   refine ob_iff.mpr ⟨r,rfl, ?_⟩
   refine ob_iff.mpr ⟨_,cl, ?_⟩
   exact ⟨s1,ob_iff.mpr ⟨_,cl,s0,go⟩⟩
theorem mrg_dicS {α:Type} (g:α→T):∀(ps acc:List (Str×α)),(acc.map (·.1)++ps.map (·.1)).Nodup→mrgT (dicS g acc) (dicS g ps)=dicS g (acc++ps)
 | [],acc,_=>by simp [mrgT,dicS]
 | p::ps,acc,nd=>by
   have hx:p.1 ∉ acc.map (·.1):=fun z=>(List.nodup_append.mp nd).2.2 _ z _ (List.mem_cons_self ..) rfl
   have e1:putT (dicS g acc) (Sum.inr p.1) (g p.2)=dicS g (acc++[p]):=by
    have:=dicS_put (g:=g) acc p.1 p.2
    rw [putS_new hx] at this
    exact this
   show mrgT (putT (dicS g acc) (Sum.inr p.1) (g p.2)) (dicS g ps)=_
   rw [e1,mrg_dicS g ps (acc++[p]) (by simpa using nd)]
   simp
def emptyT (ns:List Str):T:=.dic (dicS (fun _:Unit=>.lst []) (ns.map fun x=>(x,())))
theorem unf_E {M:Mem} {q:Addr} {rs:List (Str×Addr)} {ns:List Str} (hr:rs.map (·.1)=ns) (hq:M q=some (.dic (dicS T.ref rs))) (h:∀r∈rs,M r.2=some (.lst [])):unf M 2 (.ref q)=emptyT ns:=by
 show unfO q (unf M 1) (M q)=_
 rw [hq]
 show T.dic ((dicS T.ref rs).map fun p=>(p.1,unf M 1 p.2))=_
 unfold emptyT
 subst hr
 congr 1
 unfold dicS
 rw [List.map_map,List.map_map,List.map_map]
 refine List.map_congr_left fun r hr=> ?_
 show (Sum.inr r.1,unfO r.2 (unf M 0) (M r.2))=(Sum.inr r.1,T.lst [])
 rw [h r hr]
 rfl
theorem rch_E {M:Mem} {q:Addr} {rs:List (Str×Addr)} (hq:M q=some (.dic (dicS T.ref rs))) (h:∀r∈rs,M r.2=some (.lst [])):∀y∈rch M 2 (.ref q),y=q∨∃r∈rs,y=r.2:=by
 intro y hy
 have hy:y∈rchO q (rch M 1) (M q):=hy
 rw [hq] at hy
 have hy:y∈q::((dicS T.ref rs).map (·.2)).flatMap (rch M 1):=hy
 rcases List.mem_cons.mp hy with e | hy
 · exact .inl e
 · obtain ⟨t,ht,hy⟩:=List.mem_flatMap.mp hy
   obtain ⟨p,hp,rfl⟩:=List.mem_map.mp ht
   obtain ⟨r,hr,rfl⟩:=List.mem_map.mp hp
   have hy:y∈rchO r.2 (rch M 0) (M r.2):=hy
   rw [h r hr] at hy
   exact .inr ⟨r,hr,by simpa [rchO] using hy⟩
theorem Sub.drop {M M':Mem} {Z:List Addr} (h:Sub M M') (hz:∀y∈Z,M y=none):Sub M (mdrop M' Z):=fun x t e=>by
 by_cases z:x∈Z
 · rw [hz x z] at e;cases e
 · rw [mdrop_out z];exact h x t e
theorem ms5 (w:WM C M o a b c m f ts (nms ts) ts) (ok:TsOk ts) (h:∀(rs:List (Str×Addr)) q M',rs.map (·.1)=nms ts→Sub M M'→M q=none→M' q=some (.dic (dicS T.ref rs))→(∀r∈rs,M r.2=none∧M' r.2=some (.lst []))→N.nx (stM o m s2 s3 (.val (.ref q)) s5) M'):Lmade_so_5 C N (stM o m s2 s3 s4 s5) M:=by
 have z:=empty4_ok (C:=C) w ok.nd (by have:=ok.l6;omega) (Q:=fun d M1=>N.nx (stM o m s2 s3 (.val d) s5) M1) (X:=fun _ _=>False) h
 unfold Lmade_so_5
 simpa [-List.lookup_eq_none_iff,asg4,methC40,pu,nil4,v3,slot,asR,w.cellO,lkc_empty,name3] using z
theorem ms6 (w:WM C M o a b c m f ts (nms ts) ts) (ok:TsOk ts) (h2:∀t,s2≠ .own t) (h:∀q,M q=none→N.nx (stM o m s2 s3 s4 (.val (.ref q))) (mset M q (some (emptyT (nms ts))))):Lmade_so_6 C N (stM o m s2 s3 s4 s5) M:=by
 have l6:=ok.l6
 have s2':2≤sizeLine:=by decide
 have s0:0≤sizeLine:=Nat.zero_le _
 have lc:=fun Q (X:X3)=>comp_eq (i:=2) (te:=tup3 (cons3 (v3 2) (cons3 (lst3 nil3) nil3))) (σ:=wipe3 [.val (.ref o),.val (.dic (mdlF ts)),s2,s3,s4,s5] [2]) (X:=X) (Q:=Q) (tr:=T.str) (tr':=fun x=>.tup [.str x,.lst []]) (nms ts) [] (by simp [nms];omega) (fun k hk Q'=>by
  simp [tup3,cons3,nil3,lst3,v3,slot,wipe3,ob,s2',s0])
 have ep:∀ns:List Str,prs (ns.map fun x=>.tup [.str x,.lst []])=some (dicS (fun _:Unit=>.lst []) (ns.map fun x=>(x,()))):=by
  intro ns
  induction ns with
  | nil=>rfl
  | cons n ns ih=>
    show (prs (ns.map fun x=>.tup [.str x,.lst []])).map _=_
    rw [ih]
    rfl
 have em:mrgT [] (dicS (fun _:Unit=>T.lst []) ((nms ts).map fun x=>(x,())))=dicS (fun _:Unit=>.lst []) ((nms ts).map fun x=>(x,())):=by
  have:=mrg_dicS (fun _:Unit=>T.lst []) ((nms ts).map fun x=>(x,())) [] (by simpa [List.map_map,Function.comp_def] using ok.nd)
  simpa [dicS] using this
 have okC':okC eD (emptyT (nms ts))=true:=by
  have go:∀l:List (Str×Unit),okSL eD ((dicS (fun _:Unit=>T.lst []) l).map (·.2))=true:=fun l=>by
   induction l with
   | nil=>rfl
   | cons r l ih=>show (true&&okSL eD ((dicS (fun _:Unit=>T.lst []) l).map (·.2)))=true;rw [ih];rfl
  exact go _
 have nn:texts (nms ts)=(nms ts).map T.str:=rfl
 unfold Lmade_so_6
 simp only [asg4,vwKC4,vwM3 w]
 simp [call3,cons3,nil3,lc3,noOwn,h2,iterP,dget3,v3,k3,slot,asD,asK,val_NF,itemsP]
 rw [nn,lc]
 simp only [List.nil_append,dict3,one,ob,asL,ep,em]
 exact ⟨okC',fun q hq=>by simpa [name3,emptyT] using h q hq⟩
theorem eqs_empty (ns:List Str) (hn:ns.Nodup) (Q:T→Prop) (h:Q (.bl true)):eqSm3 (emptyT ns) (emptyT ns) Q:=by
 refine ⟨⟨1,by decide, ?_⟩,h⟩
 refine .dic rfl (fun _ _=>.lst []) (fun k v hm=> ?_) (fun k v hm=> ?_)
 · obtain ⟨p,hp,e⟩:=List.mem_map.mp hm
   cases e
   obtain ⟨x,hx,rfl⟩:=List.mem_map.mp hp
   rw [dicS_val,getS_mem (a:=()) (by simpa [List.map_map,Function.comp_def] using hn) hp]
   rfl
 · obtain ⟨p,hp,e⟩:=List.mem_map.mp hm
   cases e
   exact .data (d:=.list []) (e:=.list []) rfl rfl (by decide +kernel) (by decide +kernel) rfl
theorem eq_ll (Q:T→Prop) (h:Q (.bl true)):eqP (.lst []) (.lst []) Q:=by
 show eqD3 (.lst []) (.lst []) Q
 exact ob_iff.mpr ⟨.list [],rfl,ob_iff.mpr ⟨.list [],rfl,by decide +kernel,by decide +kernel,h⟩⟩
theorem ms7 {q q2:Addr} {rs:List (Str×Addr)} {M0:Mem} (w:WM C M0 o a b c m f ts (nms ts) ts) (ok:TsOk ts) (hs:Sub M0 M) (hr:rs.map (·.1)=nms ts) (hq:M q=some (.dic (dicS T.ref rs))) (hq0:M0 q=none) (hrs:∀r∈rs,M0 r.2=none∧M r.2=some (.lst [])) (hq2:M q2=some (emptyT (nms ts))) (hq20:M0 q2=none) (n1:q2≠q) (n2:∀r∈rs,q2≠r.2) (h:∀M',Sub M0 M'→N.rt (.bl true) M'):Lmade_so_7 C N (stM o m s2 s3 (.val (.ref q)) (.val (.ref q2))) M:=by
 have V:=vw_unf M
 have e2:unf M 1 (.ref q2)=emptyT (nms ts):=by
  show unfO q2 (unf M 0) (M q2)=_
  rw [hq2]
  show T.dic ((dicS (fun _:Unit=>T.lst []) ((nms ts).map fun x=>(x,()))).map fun p=>(p.1,unf M 0 p.2))=_
  rw [map_same fun p hp=>by show (p.1,unf M 0 p.2)=p;rw [V.z]]
  rfl
 have r2:∀y∈rch M 1 (.ref q2),y=q2:=by
  intro y hy
  have hy:y∈rchO q2 (rch M 0) (M q2):=hy
  rw [hq2] at hy
  have hy:y∈q2::(((dicS (fun _:Unit=>T.lst []) ((nms ts).map fun x=>(x,()))).map (·.2)).flatMap (rch M 0)):=hy
  rcases List.mem_cons.mp hy with e | hy
  · exact e
  · obtain ⟨t,_,ht⟩:=List.mem_flatMap.mp hy
    cases t<;>cases ht
 generalize hM1:mdrop M (rch M 1 (.ref q2))=M1
 have out:∀y,y≠q2→M1 y=M y:=fun y hy=>by rw [←hM1];exact mdrop_out fun z=>hy (r2 y z)
 have hq1:M1 q=some (.dic (dicS T.ref rs)):=(out q n1.symm).trans hq
 have hrs1:∀r∈rs,M1 r.2=some (.lst []):=fun r hr'=>(out _ (n2 r hr').symm).trans (hrs r hr').2
 have e1:=unf_E hr hq1 hrs1
 have r1:=rch_E hq1 hrs1
 have hs1:Sub M0 M1:=by rw [←hM1];exact hs.drop fun y hy=>by rw [r2 y hy];exact hq20
 have hs2:Sub M0 (mdrop M1 (rch M1 2 (.ref q))):=hs1.drop fun y hy=>by
  rcases r1 y hy with e | ⟨r,hr',e⟩
  · rw [e];exact hq0
  · rw [e];exact (hrs r hr').1
 have w2:=w.sub hs2
 have fin:=h _ hs2
 unfold Lmade_so_7
 refine gvS_of (d:=.ref q2) rfl ?_
 rw [e2,hM1]
 refine gvS_of (d:=.ref q) rfl ?_
 rw [e1]
 generalize mdrop M1 (rch M1 2 (.ref q))=M2 at w2 fin hs2 ⊢
 show vwK4 _ _ _ _ (stM o m s2 s3 (.val (emptyT (nms ts))) (.val (emptyT (nms ts)))) M2 _ _
 unfold vwK4
 rw [vwM2 w2]
 have kd:kitB "dict" "dict"=some true:=by decide +kernel
 have a1:∀(Q:T→Prop) (X:X3),call3 isi3 (cons3 (v3 4) (cons3 (k3 (.ty "dict")) nil3)) [.val (planT C ts),.val (.ref m),s2,s3,.val (emptyT (nms ts)),.val (emptyT (nms ts))] Q X=Q (.bl true):=fun Q X=>by
  simp [call3,cons3,nil3,v3,k3,slot,isi3,emptyT,isiB,tyn,kd]
 have a2:=fun (Q:T→Prop) (h:Q (.bl true))=>eqs_empty (nms ts) ok.nd Q h
 refine Eq.mpr (a1 _ _) ?_
 refine ob_iff.mpr ⟨true,rfl, ?_⟩
 rw [if_pos rfl]
 have b0:∀(Q:T→Prop) (X:X3),Q (.bl true)→op3 eqSm3 (v3 4) (v3 5) [.val (planT C ts),.val (.ref m),s2,s3,.val (emptyT (nms ts)),.val (emptyT (nms ts))] Q X:=fun Q X hQ=>by
  simp [op3,v3,slot]
  exact a2 Q hQ
 refine b0 _ _ ?_
 refine ob_iff.mpr ⟨true,rfl, ?_⟩
 rw [if_pos rfl]
 have s0:0≤sizeLine:=Nat.zero_le _
 have b1:∀(Q:T→Prop) (X:X3),Q (.bl true)→op3 eqP (meth3 (C.at_ "Plan") "rules" 1 (Plan_rules C) (v3 0) nil3 []) (lst3 nil3) [.val (planT C ts),.val (.ref m),s2,s3,.val (emptyT (nms ts)),.val (emptyT (nms ts))] Q X:=fun Q X hQ=>by
  show meth3 _ _ _ _ _ _ _ _ _ _
  refine ob_iff.mpr ⟨_,rfl,rfl,lkp_rules C ts,rfl,rules_ok ?_⟩
  exact ⟨s0,eq_ll _ hQ⟩
 have b2:∀(Q:T→Prop) (X:X3),Q (.bl true)→op3 eqP (meth3 (C.at_ "Plan") "follows" 1 (Plan_follows C) (v3 0) nil3 []) (lst3 nil3) [.val (planT C ts),.val (.ref m),s2,s3,.val (emptyT (nms ts)),.val (emptyT (nms ts))] Q X:=fun Q X hQ=>by
  show meth3 _ _ _ _ _ _ _ _ _ _
  refine ob_iff.mpr ⟨_,rfl,rfl,lkp_follows C ts,rfl,follows_ok ?_⟩
  exact ⟨s0,eq_ll _ hQ⟩
 refine b1 _ _ ?_
 refine ob_iff.mpr ⟨true,rfl, ?_⟩
 rw [if_pos rfl]
 exact b2 _ _ ⟨rfl,fin⟩
theorem made_so_ok (hc:C.at_ "Form"≠C.at_ "Plan") (w:WM C M o a b c m f ts (nms ts) ts) (ok:TsOk ts) {Q:T→Mem→Prop} {X:XM} (h:∀M',Sub M M'→Q (.bl true) M'):Lmade_so C [.ref o,.ref m] M Q X:=by
 rw [Lmade_so_def]
 show Lmade_soB C _ (stM o m .no .no .no .no) M
 unfold Lmade_soB
 refine sq4_of (t:=Lmade_so_1 C) ?_
 refine ms1 w ok.l6 ?_
 dsimp only
 refine sq4_of (t:=Lmade_so_2 C) ?_
 refine ms2 w ok.l6 fun M1 h1=> ?_
 have w1:=w.sub h1
 dsimp only
 refine sq4_of (t:=Lmade_so_3 C) ?_
 have t3:∀(N:N4) (s2 s3:Sl),loop4 (name3 2) (Lmade_so_3b C) N (texts (nms ts)) (stM o m s2 s3 .no .no) M1→Lmade_so_3 C N (stM o m s2 s3 .no .no) M1:=by
  intro N s2 s3 hN
  unfold Lmade_so_3
  generalize Lmade_so_3b C=B at hN ⊢
  simpa [for4E,iterP4,dg4,pu,v3,k3,slot,asR,asK,w1.names,val_N,itemsP] using hN
 refine t3 _ _ _ ?_
 have nv:∀d:T,∀t,Sl.val d≠Sl.own t:=fun d t z=>by cases z
 refine ms3 hc w1 ok (fun s2 s3 h2=> ?_) _ _ _ (fun t z=>by cases z) (fun _ h=>h)
 dsimp only
 refine sq4_of (t:=Lmade_so_4 C) ?_
 have t4:∀(N:N4) (s2 s3:Sl),loop4 (name3 2) (Lmade_so_4b C) N (texts (nms ts)) (stM o m s2 s3 .no .no) M1→Lmade_so_4 C N (stM o m s2 s3 .no .no) M1:=by
  intro N s2 s3 hN
  unfold Lmade_so_4
  generalize Lmade_so_4b C=B at hN ⊢
  simpa [for4E,iterP4,dg4,pu,v3,k3,slot,asR,asK,w1.names,val_N,itemsP] using hN
 refine t4 _ _ _ ?_
 refine ms4 w1 ok (fun M2 s2 h2 hs2=> ?_) _ _ _ h2 (Sub.refl _) (fun _ h=>h)
 have w2:=w1.sub hs2
 dsimp only
 refine sq4_of (t:=Lmade_so_5 C) ?_
 refine ms5 w2 ok fun rs q M3 hr hs3 hq0 hq hrs=> ?_
 have w3:=w2.sub hs3
 dsimp only
 refine sq4_of (t:=Lmade_so_6 C) ?_
 refine ms6 w3 ok h2 fun q2 hq2=> ?_
 dsimp only
 have n1:q2≠q:=fun z=>by rw [z,hq] at hq2;cases hq2
 have n2:∀r∈rs,q2≠r.2:=fun r hr' z=>by rw [z,(hrs r hr').2] at hq2;cases hq2
 refine ms7 (M0:=M2) w2 ok (hs3.trans (Sub.new (Sub.refl _) hq2)) hr (by rw [mset_ne n1.symm];exact hq) hq0 (fun r hr'=>⟨(hrs r hr').1,by rw [mset_ne (n2 r hr').symm];exact (hrs r hr').2⟩) mset_same (hs3.gone hq2) n1 n2 fun M' hs'=> ?_
 exact h M' (h1.trans (hs2.trans hs'))
end
end Law
set_option maxHeartbeats 1000000
namespace Law
open PySem L2 M3
abbrev stL (p o m:Addr) (ns:List Str) (s5 s6 s7 s8 s9 s10 s11 s12 s13 s14 s15 s16 s17 s18 s19:Sl):List Sl:=[.no,.val (.ref p),.val (.ref o),.val (.ref m),.val (.lst (texts ns)),s5,s6,s7,s8,s9,s10,s11,s12,s13,s14,s15,s16,s17,s18,s19]
theorem ix_draw {xs:List Str} {Q:T→Prop} (h:∀x∈xs,Q (.str x)) {r:Int} (r0:0≤r) (r1:r<(xs.length:Int)):ixP (.lst (texts xs)) (.int r) Q:=by
 have:=draw_all (xs:=texts xs) (n:=(xs.length:Int)) (Q:=Q) (by simp [texts]) (fun y hy=>by
  obtain ⟨x,hx,rfl⟩:=List.mem_map.mp hy
  exact h x hx) r r0 r1
 simpa [ixP] using this
theorem ix_is {xs:List Str} {r:Int} (r0:0≤r) (r1:r<(xs.length:Int)):∃y∈xs,∀Q:T→Prop,ixP (.lst (texts xs)) (.int r) Q=Q (.str y):=by
 have:=draw_all (xs:=texts xs) (n:=(xs.length:Int)) (Q:=fun t=>∃y∈xs,t= .str y) (by simp [texts]) (fun y hy=>by
  obtain ⟨x,hx,rfl⟩:=List.mem_map.mp hy
  exact ⟨x,hx,rfl⟩) r r0 r1
 obtain ⟨d,e,y,hy,rfl⟩:=ob_iff.mp this
 exact ⟨y,hy,fun Q=>by
  show ob (atI (texts xs) r) Q=_
  rw [e]
  rfl⟩
theorem cut1 {α:Type} (xs:List α):cut xs none (some (1:Int))=xs.take 1:=by
 have e:cut xs none (some ((1:Nat):Int))=xs.take 1:=by
  unfold cut
  rw [HT.sIx_nat]
  show List.take (min 1 xs.length-0) (xs.drop 0)=_
  rw [Nat.sub_zero,List.drop_zero]
  cases xs<;>simp
 exact e
abbrev nmS (x:Str):Prop:=sg x∧x.length≤8
def LkF (cs:List Str) (l:Lk):Prop:=∃k n,l=Lk.pair k n∧partOf cs k=true∧k.length≤3∧sg n∧n.length≤8
theorem part_mono {cs cs' k:List Str} (h:partOf cs k=true) (hs:∀x∈cs,x∈cs'):partOf cs' k=true:=by
 unfold partOf at h ⊢
 simp only [Bool.and_eq_true,List.all_eq_true,decide_eq_true_eq] at h ⊢
 exact ⟨h.1,fun x hx=>hs x (h.2 x hx)⟩
theorem df_mk {g:Fm} (gf:GF g) (c4:g.cs.length≤4) {cs' key':List Str} {ls:List Lk} (hc:cs'=g.cs∨cs'=g.cs++g.cs.take 1) (hk:key'=g.key∨key'=[]∨key'=g.key++g.key.take 1) (hl:ls.length≤2) (hlo:∀l∈ls,LkF g.cs l):DF ⟨cs',key',g.more,ls⟩:=by
 have cm:∀x∈g.cs,x∈cs':=fun x hx=>by rcases hc with e | e<;>simp [e,hx]
 have mc:∀x∈cs',x∈g.cs:=fun x hx=>by
  rcases hc with e | e
  · rwa [e] at hx
  · rw [e] at hx
    rcases List.mem_append.mp hx with h | h
    · exact h
    · exact List.mem_of_mem_take h
 have l1:cs'.length≤g.cs.length+1∧g.cs.length≤cs'.length:=by
  rcases hc with e | e
  · rw [e];omega
  · rw [e,List.length_append,List.length_take];omega
 have g1:=gf.c0
 have k3:=gf.k3
 have k1:=gf.k1
 refine ⟨fun x hx=>⟨(gf.fine x (mc x hx)).1,gf.sg x (mc x hx),(gf.fine x (mc x hx)).2⟩,by show 1≤cs'.length;omega,by show cs'.length≤6;omega,fun x hx=> ?_, ?_,fun nd=> ?_,gf.m2,fun k hk'=> ?_,hl,fun l hl'=> ?_⟩
 · have hx:x∈key':=hx
   rcases hk with e | e | e
   · rw [e] at hx;exact cm x (gf.key x hx)
   · rw [e] at hx;cases hx
   · rw [e] at hx
     rcases List.mem_append.mp hx with h | h
     · exact cm x (gf.key x h)
     · exact cm x (gf.key x (List.mem_of_mem_take h))
 · show key'.length≤100
   rcases hk with e | e | e
   · rw [e];omega
   · rw [e];simp
   · rw [e,List.length_append,List.length_take];omega
 · show key'.length≤3
   have nd:key'.Nodup:=nd
   rcases hk with e | e | e
   · rw [e];exact k3
   · rw [e];simp
   · exfalso
     rw [e] at nd
     cases e2:g.key with
     | nil=>rw [e2] at k1;simp at k1
     | cons y ys=>
       rw [e2] at nd
       exact (List.nodup_append.mp nd).2.2 y (List.mem_cons_self ..) y (by simp) rfl
 · obtain ⟨h1,h2,h3,h4⟩:=gf.mo k hk'
   refine ⟨?_,h2⟩
   unfold partOf cols
   simp only [Bool.and_eq_true,List.all_eq_true,decide_eq_true_eq]
   exact ⟨⟨⟨by omega,by omega⟩,fun x hx=>(gf.fine x (h1 x hx)).1,(unlTo_nodup k).mpr h4⟩,fun x hx=>cm x (h1 x hx)⟩
 · obtain ⟨k,n,e,hp,h3,h4,h5⟩:=hlo l hl'
   exact ⟨k,n,e,part_mono hp cm,h3,h4,h5⟩
section
variable {C:Cs} {M:Mem} {p o a b c m f:Addr} {ns:List Str} {ts:Tabs} {x:Str} {s5 s6 s7 s8 s9 s10 s11 s12 s13 s14 s15 s16 s17 s18 s19:Sl} {N:N4}
theorem lw1 (n9:ns.length=9) (hn:∀x∈ns,nmS x) (h:∀x,nmS x→N.nx (stL p o m ns s5 (.val (.str x)) s7 s8 s9 s10 s11 s12 s13 s14 s15 s16 s17 s18 s19) M):law_4b_1 C p N (stL p o m ns s5 s6 s7 s8 s9 s10 s11 s12 s13 s14 s15 s16 s17 s18 s19) M:=by
 have s2:2≤sizeLine:=by decide
 have ln:(texts ns).length=9:=by simp [texts,n9]
 have sl:9+2≤sizeLine:=by decide
 have ea:texts ns++[T.str "",T.str "A"]=texts (ns++[("":Str),("A":Str)]):=by simp [texts]
 have go:∀r:Int,0≤r→r<11→ixP (.lst (texts (ns++[("":Str),("A":Str)]))) (.int r) (fun d=>N.nx (stL p o m ns s5 (.val d) s7 s8 s9 s10 s11 s12 s13 s14 s15 s16 s17 s18 s19) M):=fun r r0 r1=>ix_draw (fun y hy=>h y (by
  rcases List.mem_append.mp hy with hy | hy
  · exact hn y hy
  · simp only [List.mem_cons,List.not_mem_nil,or_false] at hy
    rcases hy with rfl | rfl
    · exact ⟨by decide +kernel,by decide⟩
    · exact ⟨by decide +kernel,by decide⟩)) r0 (by simp [n9];omega)
 unfold law_4b_1
 simp [asg4,pu,op3,v3,k3,cons3,nil3,lst3,slot,addP,mulP,fnP30,take3,s2,ln,sl]
 intro r r0 r1
 have cm:CMulW 2 r:=by rcases (show r=0∨r=1 by omega) with rfl | rfl<;>(unfold CMulW;decide)
 refine ⟨cm,by omega,by omega,fun q q0 q1=> ?_⟩
 have:=go q q0 (by omega)
 rw [←ea] at this
 simpa [name3] using this
theorem lw2 (h:∀g:Fm,GF g→g.cs.length≤4→N.nx (stL p o m ns s5 s6 (.val (keyT g.cs)) (.val (keyT g.key)) (.val (.tup (g.more.map keyT))) (.val (.tup [])) s11 s12 s13 s14 s15 s16 s17 s18 s19) M):law_4b_2 C p N (stL p o m ns s5 s6 s7 s8 s9 s10 s11 s12 s13 s14 s15 s16 s17 s18 s19) M:=by
 have z:=form_ok C p (w:=4) (by decide) (by decide) (fun d=>gtup3 4 (gcons3 (name3 7) (gcons3 (name3 8) (gcons3 (name3 9) (gcons3 (name3 10) gnil3)))) d (stL p o m ns s5 s6 s7 s8 s9 s10 s11 s12 s13 s14 s15 s16 s17 s18 s19) fun σ'=>N.nx σ' M) (fun _=>False) (fun g gf e h4=>by
  have:=h g gf (by omega)
  have e0:g.t= .tup [keyT g.cs,keyT g.key,.tup (g.more.map keyT),.tup []]:=by unfold Fm.t;rw [e];rfl
  rw [e0]
  simpa [gtup3,gcons3,gnil3,name3,asT] using this)
 unfold law_4b_2
 simpa [asg4,pu,fnP30,cons3,nil3,v3,k3,slot] using z
theorem lw31 (w:WM C M o a b c m f ts (nms ts) ts) (hl:ts.length≤6) (n9:ns.length=9) (hn:∀x∈ns,nmS x) (hx:nmS x) (ht:∀x∈nms ts,nmS x) (h:∀xs:List Str,xs≠[]→xs.length≤100→(∀x∈xs,nmS x)→N.nx (stL p o m ns s5 (.val (.str x)) s7 s8 s9 s10 s11 (.val (.lst (texts xs))) s13 s14 s15 s16 s17 s18 s19) M):law_4b_3b_1 C p N (stL p o m ns s5 (.val (.str x)) s7 s8 s9 s10 s11 s12 s13 s14 s15 s16 s17 s18 s19) M:=by
 have s4':4≤sizeLine:=by decide
 have ln:(texts (nms ts)).length=ts.length:=by simp [texts,nms]
 have sl:ts.length+4≤sizeLine:=Nat.le_trans (show ts.length+4≤100 by omega) (by decide)
 obtain ⟨y8,hy8,i8⟩:=ix_is (xs:=ns) (r:=8) (by decide) (by omega)
 have go:∀z,z∈ns→N.nx (stL p o m ns s5 (.val (.str x)) s7 s8 s9 s10 s11 (.val (.lst (texts (nms ts)++[.str x,.str z,.str y8,.str "B"]))) s13 s14 s15 s16 s17 s18 s19) M:=fun z hz=>by
  have:=h (nms ts++[x,z,y8,"B"]) (by simp) (by simp [nms];omega) (fun u hu=>by
   rcases List.mem_append.mp hu with hu | hu
   · exact ht u hu
   · simp only [List.mem_cons,List.not_mem_nil,or_false] at hu
     rcases hu with rfl | rfl | rfl | rfl
     · exact hx
     · exact hn _ hz
     · exact hn _ hy8
     · exact ⟨by decide +kernel,by decide⟩)
  have e:texts (nms ts)++[T.str x,.str z,.str y8,.str "B"]=texts (nms ts++[x,z,y8,"B"]):=by simp [texts]
  rw [e];exact this
 unfold law_4b_3b_1
 simp [asg4,op4,dg4,pu,v3,k3,op3,cons3,nil3,lst3,slot,asR,asK,w.names,val_N,fnP30,take3]
 intro r r0 r1
 obtain ⟨z,hz,iz⟩:=ix_is (xs:=ns) (r:=r) r0 (by omega)
 have:=go z hz
 simpa [iz,i8,addP,ln,sl,s4',name3] using this
theorem lw32 {xs:List Str} (h0:xs≠[]) (h1:xs.length≤100) (hn:∀x∈xs,nmS x) (h:∀y,nmS y→N.nx (stL p o m ns s5 s6 s7 s8 s9 s10 s11 (.val (.lst (texts xs))) (.val (.str y)) s14 s15 s16 s17 s18 s19) M):law_4b_3b_2 C p N (stL p o m ns s5 s6 s7 s8 s9 s10 s11 (.val (.lst (texts xs))) s13 s14 s15 s16 s17 s18 s19) M:=by
 have lx:(texts xs).length=xs.length:=by simp [texts]
 have sl:xs.length≤sizeLine:=Nat.le_trans h1 (by decide)
 have l0:0<xs.length:=List.length_pos_iff.mpr h0
 have l200:(xs.length:Int)<2 ^ 200:=Int.lt_of_le_of_lt (show (xs.length:Int)≤100 by omega) (by decide)
 unfold law_4b_3b_2
 simp [asg4,pu,v3,k3,op3,cons3,nil3,slot,call3,len3,lenT,lx,sl,fnP30,take3]
 refine ⟨by omega,by omega,fun r r0 r1=> ?_⟩
 obtain ⟨z,hz,iz⟩:=ix_is (xs:=xs) (r:=r) r0 r1
 have:=h z (hn z hz)
 simpa [iz,name3] using this
theorem lw33 {g:Fm} {ls:List Lk} {y:Str} (gf:GF g) (c4:g.cs.length≤4) (hl:ls.length≤10) (hy:nmS y) (h:∀l,LkF g.cs l→N.nx (stL p o m ns s5 s6 (.val (keyT g.cs)) s8 s9 (.val (.tup ((ls++[l]).map Lk.t))) s11 s12 (.val (.str y)) s14 s15 s16 s17 s18 s19) M):law_4b_3b_3 C p N (stL p o m ns s5 s6 (.val (keyT g.cs)) s8 s9 (.val (.tup (ls.map Lk.t))) s11 s12 (.val (.str y)) s14 s15 s16 s17 s18 s19) M:=by
 have s1:1≤sizeLine:=by decide
 have s2:2≤sizeLine:=by decide
 have sl:ls.length+1≤sizeLine:=Nat.le_trans (by omega) (show 100≤sizeLine by decide)
 unfold law_4b_3b_3
 simp [asg4,pu,op3,v3,k3,cons3,nil3,tup3,slot,fnP30,take3,addP]
 intro r r0 r1
 refine some_ok C p (cs:=g.cs) (by omega) gf.nd (by omega) (by omega) _ _ fun k hk=> ?_
 have pk:partOf g.cs k=true:=part_of hk (fun z hz=>(gf.fine z hz).1) gf.c0 (n:=(1+r).toNat) (by omega) (by omega)
 have lk:k.length≤3:=by have:=hk.len;omega
 have:=h (.pair k y) ⟨k,y,rfl,pk,lk,hy.1,hy.2⟩
 simpa [addP,name3,Lk.t,keyT,s1,s2,sl] using this
theorem lw3_loop {g:Fm} (w:WM C M o a b c m f ts (nms ts) ts) (hl:ts.length≤6) (n9:ns.length=9) (hn:∀x∈ns,nmS x) (hx:nmS x) (ht:∀x∈nms ts,nmS x) (gf:GF g) (c4:g.cs.length≤4) {k:Nat} (hk:k≤10) (h:∀(ls:List Lk) s11 s12 s13,ls.length≤k→(∀l∈ls,LkF g.cs l)→N.nx (stL p o m ns s5 (.val (.str x)) (.val (keyT g.cs)) s8 s9 (.val (.tup (ls.map Lk.t))) s11 s12 s13 s14 s15 s16 s17 s18 s19) M):∀(us:List T) (ls:List Lk) (s11 s12 s13:Sl),ls.length+us.length≤k→(∀l∈ls,LkF g.cs l)→
 loop4 (name3 11) (law_4b_3b C p) N us (stL p o m ns s5 (.val (.str x)) (.val (keyT g.cs)) s8 s9 (.val (.tup (ls.map Lk.t))) s11 s12 s13 s14 s15 s16 s17 s18 s19) M
 | [],ls,s11,s12,s13,hz,hg=>h ls s11 s12 s13 (by simpa using hz) hg
 | u::us,ls,s11,s12,s13,hz,hg=>by
   rw [List.length_cons] at hz
   rw [lp4_cons]
   show law_4b_3b C p _ (stL p o m ns s5 (.val (.str x)) (.val (keyT g.cs)) s8 s9 (.val (.tup (ls.map Lk.t))) (.val u) s12 s13 s14 s15 s16 s17 s18 s19) M
   refine sq4_of (t:=law_4b_3b_1 C p) ?_
   refine lw31 w hl n9 hn hx ht fun xs h0 h1 h2=> ?_
   dsimp only
   refine sq4_of (t:=law_4b_3b_2 C p) ?_
   refine lw32 h0 h1 h2 fun y hy=> ?_
   dsimp only
   refine lw33 gf c4 (by omega) hy fun l hl'=> ?_
   exact lw3_loop w hl n9 hn hx ht gf c4 hk h us (ls++[l]) _ _ _ (by simp;omega) fun l' h'=>(List.mem_append.mp h').elim (hg l') fun e=>by rw [List.mem_singleton.mp e];exact hl'
theorem lw3 (h:∀r:Nat,r≤2→loop4 (name3 11) (law_4b_3b C p) N (rangeT 0 r) (stL p o m ns s5 s6 s7 s8 s9 s10 s11 s12 s13 s14 s15 s16 s17 s18 s19) M):law_4b_3 C p N (stL p o m ns s5 s6 s7 s8 s9 s10 s11 s12 s13 s14 s15 s16 s17 s18 s19) M:=by
 unfold law_4b_3
 generalize hB:law_4b_3b C p=B at h ⊢
 simp [for4,iterR3,cons3,nil3,op3,k3,fnP30,v3,slot,take3]
 intro r r0 r1
 obtain ⟨j,rfl⟩:∃j:Nat,r=(j:Int):=⟨r.toNat,by omega⟩
 have:=h j (by omega)
 refine ⟨by omega,by omega, ?_⟩
 simpa using this
theorem lw4 (h:∀k:Int,N.nx (stL p o m ns s5 s6 s7 s8 s9 s10 s11 s12 s13 (.val (.int k)) s15 s16 s17 s18 s19) M):law_4b_4 C p N (stL p o m ns s5 s6 s7 s8 s9 s10 s11 s12 s13 s14 s15 s16 s17 s18 s19) M:=by
 unfold law_4b_4
 simp [asg4,pu,cons3,nil3,v3,k3,slot,fnP30,take3,name3]
 exact fun r _ _=>h r
theorem lw5 {cs:List Str} {k:Int} (hl:cs.length≤100) (h0:N.nx (stL p o m ns s5 s6 (.val (keyT cs)) s8 s9 s10 s11 s12 s13 (.val (.int k)) s15 s16 s17 s18 s19) M) (h1:N.nx (stL p o m ns s5 s6 (.val (keyT (cs++cs.take 1))) s8 s9 s10 s11 s12 s13 (.val (.int k)) s15 s16 s17 s18 s19) M):law_4b_5 C p N (stL p o m ns s5 s6 (.val (keyT cs)) s8 s9 s10 s11 s12 s13 (.val (.int k)) s15 s16 s17 s18 s19) M:=by
 have sl:cs.length+min 1 cs.length≤sizeLine:=Nat.le_trans (show cs.length+min 1 cs.length≤200 by omega) (by decide)
 have ec:cut (texts cs) none (some (1:Int))=texts (cs.take 1):=by
  have e:=cut_texts cs none (some (1:Int))
  rw [cut1 cs] at e
  exact e
 have ea:texts cs++texts (cs.take 1)=texts (cs++cs.take 1):=texts_append _ _
 have l1:(texts cs).length=cs.length:=by simp [texts]
 have l2:(texts (cs.take 1)).length=min 1 cs.length:=by simp [texts]
 unfold law_4b_5
 by_cases e:k=0
 · subst e
   simp only [keyT] at h1
   simpa [ifs4,pu,tst3,op3,v3,k3,slot,eqP,isSeq,eqS3,flatT,scal,law_4b_5t_1,asg4,sl3,slP,no3,part3,asI,keyT,ec,addP,ea,l1,l2,sl,name3] using h1
 · simpa [ifs4,pu,tst3,op3,v3,k3,slot,eqP,isSeq,eqS3,flatT,scal,e,next4] using h0
theorem lw6 {cs:List Str} {k:Int} (hl:cs.length≤100) (h0:N.nx (stL p o m ns s5 s6 s7 (.val (keyT cs)) s9 s10 s11 s12 s13 (.val (.int k)) s15 s16 s17 s18 s19) M) (h1:N.nx (stL p o m ns s5 s6 s7 (.val (keyT [])) s9 s10 s11 s12 s13 (.val (.int k)) s15 s16 s17 s18 s19) M) (h2:N.nx (stL p o m ns s5 s6 s7 (.val (keyT (cs++cs.take 1))) s9 s10 s11 s12 s13 (.val (.int k)) s15 s16 s17 s18 s19) M):law_4b_6 C p N (stL p o m ns s5 s6 s7 (.val (keyT cs)) s9 s10 s11 s12 s13 (.val (.int k)) s15 s16 s17 s18 s19) M:=by
 have sl:cs.length+min 1 cs.length≤sizeLine:=Nat.le_trans (show cs.length+min 1 cs.length≤200 by omega) (by decide)
 have s0:0≤sizeLine:=Nat.zero_le _
 have s2:2≤sizeLine:=by decide
 have ec:cut (texts cs) none (some (1:Int))=texts (cs.take 1):=by
  have e:=cut_texts cs none (some (1:Int))
  rw [cut1 cs] at e
  exact e
 have ea:texts cs++texts (cs.take 1)=texts (cs++cs.take 1):=texts_append _ _
 have l1:(texts cs).length=cs.length:=by simp [texts]
 have l2:(texts (cs.take 1)).length=min 1 cs.length:=by simp [texts]
 unfold law_4b_6
 by_cases e:k<2
 · simp only [keyT] at h1 h2
   simp [ifs4,pu,tst3,op3,v3,k3,slot,M3.ltP,e,law_4b_6t_1,asg4,sl3,slP,no3,part3,asI,keyT,ec,addP,ea,l1,l2,sl,tup3,lst3,cons3,nil3,fnP30,take3,s2,ixP]
   refine draw_all (by rfl) ?_
   intro y hy
   simp at hy
   rcases hy with rfl | rfl
   · have h1':N.nx (stL p o m ns s5 s6 s7 (.val (.tup [])) s9 s10 s11 s12 s13 (.val (.int k)) s15 s16 s17 s18 s19) M:=h1
     simpa [name3] using h1'
   · simpa [name3] using h2
 · simpa [ifs4,pu,tst3,op3,v3,k3,slot,M3.ltP,e,next4] using h0
theorem lw7 {g:Fm} (h:N.nx (stL p o m ns s5 s6 (.val (keyT g.cs)) (.val (keyT g.key)) (.val (.tup (g.more.map keyT))) (.val (.tup (g.links.map Lk.t))) s11 s12 s13 s14 (.val g.t) s16 s17 s18 s19) M):law_4b_7 C p N (stL p o m ns s5 s6 (.val (keyT g.cs)) (.val (keyT g.key)) (.val (.tup (g.more.map keyT))) (.val (.tup (g.links.map Lk.t))) s11 s12 s13 s14 s15 s16 s17 s18 s19) M:=by
 have s4':4≤sizeLine:=by decide
 unfold law_4b_7
 simpa [asg4,pu,tup3,cons3,nil3,v3,slot,s4',name3,Fm.t] using h
end
end Law
set_option maxHeartbeats 1000000
namespace Law
open PySem L2 M3
def Rf.ok:Rf→Prop
 | .pl n=>n="Full"∨n="BadColumns"∨n="BadKey"∨n="BadRefer"
 | .nm n x=>(n="BadName"∨n="Taken"∨n="NoTable")∧nmS x
theorem link_rf {ts:Tabs} {x:Str} {key:List Str}:∀ {ls:List Lk} {r:Rf},(∀l∈ls,∃k n,l=Lk.pair k n∧nmS n)→linkR ts x key ls=some r→r.ok
 | [],r,_,h=>by cases h
 | .lone k::ls,r,hl,h=>by
   obtain ⟨k',n,e,_⟩:=hl _ (List.mem_cons_self ..)
   cases e
 | .pair k n::ls,r,hl,h=>by
   obtain ⟨k',n',e,hn⟩:=hl _ (List.mem_cons_self ..)
   cases e
   unfold linkR at h
   split at h
   · cases h;exact ⟨.inr (.inr rfl),hn⟩
   · split at h
     · cases h;exact .inr (.inr (.inr rfl))
     · exact link_rf (fun l hl'=>hl l (List.mem_cons_of_mem _ hl')) h
theorem due_rf {ts:Tabs} {x:Str} {g:Fm} (d:DF g) (hx:nmS x) {r:Rf} (h:due ts x g=some r):r.ok:=by
 unfold due at h
 split at h
 · cases h;exact ⟨.inl rfl,hx⟩
 · split at h
   · cases h;exact ⟨.inr (.inl rfl),hx⟩
   · split at h
     · cases h;exact .inl rfl
     · rcases out_cases g with e | e | e | e
       · rw [e] at h
         exact link_rf (fun l hl=>by obtain ⟨k,n,e,_,_,h4,h5⟩:=d.lo l hl;exact ⟨k,n,e,h4,h5⟩) h
       · rw [e] at h;cases h;exact .inr (.inl rfl)
       · rw [e] at h;cases h;exact .inr (.inr (.inl rfl))
       · rw [e] at h;cases h;exact .inr (.inr (.inr rfl))
theorem lk_name (x:Str):([("name",.str x)]:List (Str×T)).lookup ("name":Str)=some (.str x):=rfl
theorem why_rf {C:Cs} (hC:CsOk C) {r:Rf} (hr:r.ok) {Q:T→Prop} (h:Q r.t):whyX5 C.em (r.xn C) Q (whyT C):=by
 have l1:(1:Nat)<1000:=by decide
 cases r with
 | pl n=>
   have h:Q (.tup [.str n]):=h
   rcases hr with rfl | rfl | rfl | rfl<;>simpa [whyX5,whyT,Rf.xn,getFs,hC.e_Full_BadName,hC.e_Full_Taken,hC.e_Full_Full,hC.e_BadColumns_BadName,hC.e_BadColumns_Taken,hC.e_BadColumns_Full,hC.e_BadColumns_BadColumns,hC.e_BadKey_BadName,hC.e_BadKey_Taken,hC.e_BadKey_Full,hC.e_BadKey_BadColumns,hC.e_BadKey_BadKey,hC.e_BadRefer_BadName,hC.e_BadRefer_Taken,hC.e_BadRefer_Full,hC.e_BadRefer_BadColumns,hC.e_BadRefer_BadKey,hC.e_BadRefer_BadRefer] using h
 | nm n x=>
   have h:Q (.tup [.str n,.str x]):=h
   rcases hr.1 with rfl | rfl | rfl<;>simpa [whyX5,whyT,Rf.xn,getFs,lk_name,hC.e_BadName_BadName,hC.e_Taken_BadName,hC.e_Taken_Taken,hC.e_NoTable_BadName,hC.e_NoTable_Taken,hC.e_NoTable_Full,hC.e_NoTable_BadColumns,hC.e_NoTable_BadKey,hC.e_NoTable_BadRefer,hC.e_NoTable_NoTable] using h
theorem whyO_plain (d:Option Rf):plain (whyO d)=true∧dep (whyO d)<12:=by
 cases d with
 | none=>simp [whyO]
 | some r=>cases r<;>simp [whyO,Rf.t]
theorem whyO_okS (e:See) (d:Option Rf):okS e (whyO d)=true:=by
 cases d with
 | none=>rfl
 | some r=>cases r<;>rfl
theorem eq_none {d:Option Rf} (hd:∀r,d=some r→r.ok) (Q:T→Prop):eqP (whyO d) (.tup [.str "none"]) Q=Q (.bl d.isNone):=by
 have s0:SeqAt.shaped (.tuple [.str "none"])=true:=by decide +kernel
 have go:∀xs:List Str,(∀x∈xs,sg x)→eqP (keyT xs) (.tup [.str "none"]) Q=Q (.bl (PyData.eqv (.tuple (xs.map PyData.str)) (.tuple [.str "none"]))):=fun xs hx=>by
  have e:eqP (keyT xs) (.tup [.str "none"]) Q=eqD3 (keyT xs) (.tup [.str "none"]) Q:=by simp [eqP,isSeq,keyT]
  rw [e]
  have d1:dat (keyT xs)=some (.tuple (xs.map PyData.str)):=by
   show (dats (texts xs)).map PyData.tuple=_
   rw [dats_texts]
   rfl
  have d2:dat (.tup [.str "none"])=some (.tuple [.str "none"]):=rfl
  unfold eqD3
  rw [d1,d2]
  show (SeqAt.shaped _=true∧SeqAt.shaped (.tuple [.str "none"])=true∧_)=_
  simp only [lay_texts hx,s0,true_and]
 have sn:∀n:Str,n="none"∨n="Full"∨n="BadColumns"∨n="BadKey"∨n="BadRefer"∨n="BadName"∨n="Taken"∨n="NoTable"→sg n:=fun n h=>by
  rcases h with rfl | rfl | rfl | rfl | rfl | rfl | rfl | rfl<;>decide +kernel
 cases d with
 | none=>exact (go ["none"] fun x hx=>by rw [List.mem_singleton.mp hx];exact sn _ (.inl rfl)).trans rfl
 | some r=>
   cases r with
   | pl n=>
     have hr:=hd _ rfl
     refine (go [n] fun x hx=> ?_).trans ?_
     · rw [List.mem_singleton.mp hx]
       rcases hr with e | e | e | e<;>rw [e]<;>exact sn _ (by simp)
     · rcases hr with rfl | rfl | rfl | rfl<;>rfl
   | nm n x=>
     have hr:=hd _ rfl
     refine (go [n,x] fun y hy=> ?_).trans ?_
     · rcases List.mem_cons.mp hy with e | hy
       · rw [e]
         rcases hr.1 with e | e | e<;>rw [e]<;>exact sn _ (by simp)
       · rw [List.mem_singleton.mp hy];exact hr.2.1
     · rcases hr.1 with rfl | rfl | rfl<;>rfl
section
variable {C:Cs} {M:Mem} {p o a b c m f:Addr} {ns:List Str} {ts:Tabs} {x y:Str} {g:Fm} {s5 s6 s7 s8 s9 s10 s11 s12 s13 s14 s15 s16 s17 s18 s19:Sl} {N:N4}
theorem vwL (w:WM C M o a b c m f ts (nms ts) ts):vwS eD 2 M [3] (stL p o m ns s5 s6 s7 s8 s9 s10 s11 s12 s13 s14 s15 s16 s17 s18 s19)=[.no,.val (.ref p),.val (.ref o),.val (.dic (mdlF ts)),.val (.lst (texts ns)),s5,s6,s7,s8,s9,s10,s11,s12,s13,s14,s15,s16,s17,s18,s19]:=by
 show (stL p o m ns s5 s6 s7 s8 s9 s10 s11 s12 s13 s14 s15 s16 s17 s18 s19).set 3 (.val (seen eD M 2 (.ref m)))=_
 rw [w.model eD rfl 0]
 rfl
theorem lw8 (w:WM C M o a b c m f ts (nms ts) ts) (ok:TsOk ts) (d:DF g) (hx:nmS x) (h:N.nx (stL p o m ns s5 (.val (.str x)) s7 s8 s9 s10 s11 s12 s13 s14 (.val g.t) (.val (whyO (due ts x g))) s17 s18 s19) M):law_4b_8 C p N (stL p o m ns s5 (.val (.str x)) s7 s8 s9 s10 s11 s12 s13 s14 (.val g.t) s16 s17 s18 s19) M:=by
 have l6:=ok.l6
 have z:=due_ok (C:=C) (ts:=ts) (x:=x) (g:=g) (Nat.le_trans hx.2 (by decide)) (by omega) d ok.key (Q:=fun d=>okS eD d=true∧N.nx (stL p o m ns s5 (.val (.str x)) s7 s8 s9 s10 s11 s12 s13 s14 (.val g.t) (.val d) s17 s18 s19) M) (X:=fun _=>False) ⟨whyO_okS _ _,h⟩
 unfold law_4b_8
 simp only [asg4,vwK4,vwL w]
 simpa [fn30,cons3,nil3,v3,slot,name3] using z
theorem lw9 (hC:CsOk C) (w:WM C M o a b c m f ts (nms ts) ts) (ok:TsOk ts) (d:DF g) (hx:nmS x) (h:N.nx (stL p o m ns s5 (.val (.str x)) (.val (keyT g.cs)) (.val (keyT g.key)) (.val (.tup (g.more.map keyT))) (.val (.tup (g.links.map Lk.t))) s11 s12 s13 s14 s15 s16 (.val (whyO (due ts x g))) s18 s19) (if due ts x g=none then mset M a (some (.dic (dicS (formT C) (ts++[(x,g)])))) else M)):
 law_4b_9 C p N (stL p o m ns s5 (.val (.str x)) (.val (keyT g.cs)) (.val (keyT g.key)) (.val (.tup (g.more.map keyT))) (.val (.tup (g.links.map Lk.t))) s11 s12 s13 s14 s15 s16 s17 s18 s19) M:=by
 have l6:=ok.l6
 have z:=make_ok (C:=C) (x:=x) (g:=g) w (Nat.le_trans hx.2 (by decide)) (by omega) d.ok ok.key d.pairs (Q:=fun _ M1=>N.nx (stL p o m ns s5 (.val (.str x)) (.val (keyT g.cs)) (.val (keyT g.key)) (.val (.tup (g.more.map keyT))) (.val (.tup (g.links.map Lk.t))) s11 s12 s13 s14 s15 s16 (.val (.tup [.str "none"])) s18 s19) M1)
  (X:=fun y M1=>whyX5 C.em y (fun d=>N.nx (stL p o m ns s5 (.val (.str x)) (.val (keyT g.cs)) (.val (keyT g.key)) (.val (.tup (g.more.map keyT))) (.val (.tup (g.links.map Lk.t))) s11 s12 s13 s14 s15 s16 (.val d) s18 s19) M1) (whyT C)) (by
    cases e:due ts x g with
    | none=>
      rw [e,if_pos rfl] at h
      exact h
    | some r=>
      rw [e,if_neg (by simp)] at h
      exact why_rf hC (due_rf d hx e) h)
 unfold law_4b_9
 simpa [-List.lookup_eq_none_iff,asg4,whyC4,methCKX4,pu,v3,slot,asR,w.cellO,lkc_make,cons4,nil4,sel,name3] using z
theorem lw10 (d:Option Rf) (h:N.nx (stL p o m ns s5 s6 s7 s8 s9 s10 s11 s12 s13 s14 s15 (.val (whyO d)) (.val (whyO d)) s18 s19) M):law_4b_10 C p N (stL p o m ns s5 s6 s7 s8 s9 s10 s11 s12 s13 s14 s15 (.val (whyO d)) (.val (whyO d)) s18 s19) M:=by
 obtain ⟨p1,p2⟩:=whyO_plain d
 have e:=fun Q X=>same_refl C (x:=whyO d) (Q:=Q) (X:=X) p1 p2
 unfold law_4b_10
 generalize whyO d=W at e h ⊢
 simpa [ifs4,pu,not3,tst3,fn30,cons3,nil3,v3,slot,e,next4] using h
theorem lw11 {d:Option Rf} (hd:∀r,d=some r→r.ok) {ts':Tabs} (w:WM C M o a b c m f ts' (nms ts) ts) (hx:x ∉ nms ts∨d≠none) (hl:ts.length≤100) (h0:d≠none→N.nx (stL p o m ns s5 (.val (.str x)) s7 s8 s9 s10 s11 s12 s13 s14 (.val g.t) (.val (whyO d)) s17 s18 s19) M)
 (h1:d=none→∀M',WM C M' o a b c m f ts' (nms (ts++[(x,g)])) (ts++[(x,g)])→N.nx (stL p o m ns s5 (.val (.str x)) s7 s8 s9 s10 s11 s12 s13 s14 (.val g.t) (.val (whyO d)) s17 s18 s19) M'):law_4b_11 C p N (stL p o m ns s5 (.val (.str x)) s7 s8 s9 s10 s11 s12 s13 s14 (.val g.t) (.val (whyO d)) s17 s18 s19) M:=by
 have en:=fun Q=>eq_none hd Q
 have s1:1≤sizeLine:=by decide
 unfold law_4b_11
 cases d with
 | some r=>
   have h0:=h0 (by simp)
   generalize whyO (some r)=W at en h0 ⊢
   simpa [ifs4,pu,tst3,op3,tup3,cons3,nil3,v3,k3,slot,s1,en,next4] using h0
 | none=>
   have hx:x ∉ nms ts:=hx.resolve_right fun z=>z rfl
   have ln:(texts (nms ts)).length=ts.length:=by simp [texts,nms]
   have sl:ts.length+1≤sizeLine:=Nat.le_trans (show ts.length+1≤200 by omega) (by decide)
   have sl2:ts.length<sizeLine:=by omega
   have m1:(mdl f (nms ts)).length<sizeLine:=show 2<sizeLine by decide
   have w1:=w.putM (vs':=nms (ts++[(x,g)]))
   have e0:texts (nms ts)++[T.str x]=texts (nms (ts++[(x,g)])):=by simp [texts,nms]
   have e1:∀vs,putT (mdl f (nms ts)) (Sum.inr "names") (.lst (texts vs))=mdl f vs:=fun vs=>rfl
   have e2:putT (dicS Fm.t ts) (Sum.inr x) g.t=dicS Fm.t (ts++[(x,g)]):=by
    have:=dicS_put (g:=Fm.t) ts x g
    rw [putS_new hx] at this
    exact this
   have fin:=h1 rfl _ (w1.putF (us':=ts++[(x,g)]))
   generalize whyO none=W at en fin ⊢
   have step:seq4 (law_4b_11t_1 C p) (law_4b_11t_2 C p) N (stL p o m ns s5 (.val (.str x)) s7 s8 s9 s10 s11 s12 s13 s14 (.val g.t) (.val W) s17 s18 s19) M:=by
    refine sq4_of (t:=law_4b_11t_1 C p) ?_
    have t1:∀N:N4,N.nx (stL p o m ns s5 (.val (.str x)) s7 s8 s9 s10 s11 s12 s13 s14 (.val g.t) (.val W) s17 s18 s19) (mset M m (some (.dic (mdl f (nms (ts++[(x,g)]))))))→law_4b_11t_1 C p N (stL p o m ns s5 (.val (.str x)) s7 s8 s9 s10 s11 s12 s13 s14 (.val g.t) (.val W) s17 s18 s19) M:=by
     intro N hN
     unfold law_4b_11t_1
     simpa [put4,op4,dg4,pu,v3,k3,slot,asR,asK,w.names,val_N,lst3,cons3,nil3,s1,addP,ln,sl,e0,e1,m1] using hN
    refine t1 _ ?_
    unfold law_4b_11t_2
    have cm:=w1.names
    have cf:=w1.cellF
    simpa [put4,dg4,pu,v3,k3,slot,asR,asK,cm,cf,val_F,dicS_len,sl2,e2] using fin
   simpa [ifs4,pu,tst3,op3,tup3,cons3,nil3,v3,k3,slot,s1,en] using step
theorem lw12 (n9:ns.length=9) (hn:∀x∈ns,nmS x) (h:∀y,nmS y→N.nx (stL p o m ns s5 s6 s7 s8 s9 s10 s11 s12 s13 s14 s15 s16 s17 (.val (.str y)) s19) M):law_4b_12 C p N (stL p o m ns s5 s6 s7 s8 s9 s10 s11 s12 s13 s14 s15 s16 s17 s18 s19) M:=by
 unfold law_4b_12
 simp [asg4,pu,op3,v3,k3,cons3,nil3,slot,fnP30,take3]
 intro r r0 r1
 obtain ⟨z,hz,iz⟩:=ix_is (xs:=ns) (r:=r) r0 (by omega)
 have:=h z (hn z hz)
 simpa [iz,name3] using this
def dueF (ts:Tabs) (y:Str):Option Rf:=if y∈nms ts then none else some (.nm "NoTable" y)
theorem lw13 (w:WM C M o a b c m f ts (nms ts) ts) (h:N.nx (stL p o m ns s5 s6 s7 s8 s9 s10 s11 s12 s13 s14 s15 s16 s17 (.val (.str y)) (.val (whyO (dueF ts y)))) M):law_4b_13 C p N (stL p o m ns s5 s6 s7 s8 s9 s10 s11 s12 s13 s14 s15 s16 s17 (.val (.str y)) s19) M:=by
 have s1:1≤sizeLine:=by decide
 have s2:2≤sizeLine:=by decide
 have e:=fun Q=>in_textsL false y (nms ts) Q
 unfold law_4b_13
 simp only [asg4,vwK4,vwL w]
 unfold dueF at h
 by_cases z:y∈nms ts
 · rw [if_pos z] at h
   have h:N.nx (stL p o m ns s5 s6 s7 s8 s9 s10 s11 s12 s13 s14 s15 s16 s17 (.val (.str y)) (.val (.tup [.str "none"]))) M:=h
   have ok:okS eD (.tup [.str "none"])=true:=rfl
   simpa [if3,tst3,op3,v3,k3,slot,dget3,asD,asK,val_NF,e,z,tup3,cons3,nil3,s1,ok,name3] using h
 · rw [if_neg z] at h
   have h:N.nx (stL p o m ns s5 s6 s7 s8 s9 s10 s11 s12 s13 s14 s15 s16 s17 (.val (.str y)) (.val (.tup [.str "NoTable",.str y]))) M:=h
   have ok:okS eD (.tup [.str "NoTable",.str y])=true:=rfl
   simpa [if3,tst3,op3,v3,k3,slot,dget3,asD,asK,val_NF,e,z,tup3,cons3,nil3,s2,ok,name3] using h
theorem lw14 (hC:CsOk C) (hc:C.at_ "Form"≠C.at_ "Plan") (w:WM C M o a b c m f ts (nms ts) ts) (ok:TsOk ts) (hy:nmS y) (h:∀M',Sub M M'→N.nx (stL p o m ns s5 s6 s7 s8 s9 s10 s11 s12 s13 s14 s15 s16 s17 (.val (.str y)) (.val (whyO (dueF ts y)))) M'):law_4b_14 C p N (stL p o m ns s5 s6 s7 s8 s9 s10 s11 s12 s13 s14 s15 s16 s17 (.val (.str y)) (.val (whyO (dueF ts y)))) M:=by
 obtain ⟨p1,p2⟩:=whyO_plain (dueF ts y)
 have e:=fun Q X=>same_refl C (x:=whyO (dueF ts y)) (Q:=Q) (X:=X) p1 p2
 have wf:∀(Q:T→Mem→Prop) (X:XM),Q (whyO (dueF ts y)) M→whyC4 C.em (whyT C) "none" (methC4 (C.at_ "Plan") "form" 2 (Plan_form C) (pu (v3 2)) (cons4 (pu (v3 18)) nil4) []) (stL p o m ns s5 s6 s7 s8 s9 s10 s11 s12 s13 s14 s15 s16 s17 (.val (.str y)) (.val (whyO (dueF ts y)))) M Q X:=by
  intro Q X hQ
  have z:=form4_ok (C:=C) hc w (x:=y) (Nat.le_trans hy.2 (by decide)) (Q:=fun _ M1=>Q (.tup [.str "none"]) M1) (X:=fun u M1=>whyX5 C.em u (fun d=>Q d M1) (whyT C)) (fun g hg=>by
   have hm:y∈nms ts:=List.mem_map.mpr ⟨_,getS_some hg,rfl⟩
   unfold dueF at hQ
   rw [if_pos hm] at hQ
   exact hQ) (fun hg=>by
   have hm:y ∉ nms ts:=fun z=>by obtain ⟨q,hq⟩:=getS_of z;rw [hq] at hg;cases hg
   unfold dueF at hQ
   rw [if_neg hm] at hQ
   exact why_rf hC (r:=.nm "NoTable" y) ⟨.inr (.inr rfl),hy⟩ hQ)
  simpa [-List.lookup_eq_none_iff,whyC4,methC4,pu,v3,slot,asR,w.cellO,lkc_form,cons4,nil4] using z
 have ms:∀(Q:T→Mem→Prop) (X:XM),(∀M',Sub M M'→Q (.bl true) M')→Lmade_so C [.ref o,.ref m] M Q X:=fun Q X hQ=>made_so_ok hc w ok hQ
 unfold law_4b_14
 generalize whyO (dueF ts y)=W at e wf h ⊢
 generalize hG:whyC4 C.em (whyT C) "none" (methC4 (C.at_ "Plan") "form" 2 (Plan_form C) (pu (v3 2)) (cons4 (pu (v3 18)) nil4) [])=G at wf ⊢
 simp only [ifs4,or4,not4,tst4,fn34,fn40,cons4,nil4]
 refine wf _ _ ?_
 simp [pu,v3,slot,e,asB]
 refine ms _ _ fun M' hs=> ?_
 have:=h M' hs
 simpa [asB,next4] using this
end
end Law
set_option maxHeartbeats 1000000
namespace Law
open PySem L2 M3
section
variable {C:Cs} {M:Mem} {p o:Addr} {fs:List (Str×T)}
theorem setC_new {f:Str} {N:N4} (h0:M o=some (.ins (cP C) fs)) (hl:fs.length<1000) (h:∀a,M a=none→N.nx [.val (.ref o)] (mset (mset M a (some (.dic []))) o (some (.ins (cP C) (putF3 f (.ref a) fs))))):setC4 [cP C] f (pu (v3 0)) (newD4 newD3) N [.val (.ref o)] M:=by
 show ∀a,M a=none→_
 intro a ha
 have oa:o≠a:=fun z=>by rw [←z,h0] at ha;cases ha
 have e:cellI (mset M a (some (.dic []))) o=some (cP C,fs):=by
  unfold cellI
  rw [mset_ne oa,h0]
  rfl
 have:=h a ha
 simpa [pu,v3,slot,asR,e,hl] using this
structure P0 (C:Cs) (M:Mem) (o a b c:Addr):Prop where
 mo:M o=some (.ins (cP C) (plF a b c))
 ma:M a=some (.dic [])
 mb:M b=some (.dic [])
 mc:M c=some (.dic [])
 oa:o≠a
 oB:o≠b
 oc:o≠c
 ab:a≠b
 ac:a≠c
theorem init_plan (h0:M o=some (.ins (cP C) [])) {Q:T→Mem→Prop} {X:XM} (h:∀a b c M',P0 C M' o a b c→Q .non M'):Plan_init C [.ref o] M Q X:=by
 rw [Plan_init_def]
 show Plan_initB C _ [.val (.ref o)] M
 unfold Plan_initB
 have go:∀a,M a=none→∀b,mset (mset M a (some (.dic []))) o (some (.ins (cP C) [("forms",.ref a)])) b=none→∀c,mset (mset (mset (mset M a (some (.dic []))) o (some (.ins (cP C) [("forms",.ref a)]))) b (some (.dic []))) o (some (.ins (cP C) [("forms",.ref a),("above",.ref b)])) c=none→
  Q .non (mset (mset (mset (mset (mset (mset M a (some (.dic []))) o (some (.ins (cP C) [("forms",.ref a)]))) b (some (.dic []))) o (some (.ins (cP C) [("forms",.ref a),("above",.ref b)]))) c (some (.dic []))) o (some (.ins (cP C) (plF a b c)))):=by
  intro a ha b hb c hc
  have oa:o≠a:=fun z=>by rw [←z,h0] at ha;cases ha
  obtain ⟨bo,b1⟩:=ne_fresh hb
  obtain ⟨ba,b2⟩:=ne_fresh b1
  obtain ⟨co,c1⟩:=ne_fresh hc
  obtain ⟨cb,c2⟩:=ne_fresh c1
  obtain ⟨_,c3⟩:=ne_fresh c2
  obtain ⟨ca,_⟩:=ne_fresh c3
  exact h a b c _ ⟨mset_same,by rw [mset_ne oa.symm,mset_ne ca.symm,mset_ne oa.symm,mset_ne ba.symm,mset_ne oa.symm,mset_same],by rw [mset_ne bo,mset_ne cb.symm,mset_ne bo,mset_same],by rw [mset_ne co,mset_same],oa,bo.symm,co.symm,ba.symm,ca.symm⟩
 refine sq4_of (t:=setC4 [cP C] "forms" (pu (v3 0)) (newD4 newD3)) ?_
 refine setC_new h0 (by decide) fun a ha=> ?_
 dsimp only
 refine sq4_of (t:=setC4 [cP C] "above" (pu (v3 0)) (newD4 newD3)) ?_
 refine setC_new (fs:=[("forms",.ref a)]) mset_same (by simp) fun b hb=> ?_
 dsimp only
 refine setC_new (fs:=[("forms",.ref a),("above",.ref b)]) mset_same (by simp) fun c hc=> ?_
 exact go a ha b hb c hc
end
theorem turn {C:Cs} (hC:CsOk C) (hc:C.at_ "Form"≠C.at_ "Plan") {p o a b c m f:Addr} {ns:List Str} (n9:ns.length=9) (hn:∀x∈ns,nmS x) {N:N4}
 {ts:Tabs} {M:Mem} {s5 s6 s7 s8 s9 s10 s11 s12 s13 s14 s15 s16 s17 s18 s19:Sl} (w:WM C M o a b c m f ts (nms ts) ts) (ok:TsOk ts)
 (h:∀ts M s5 s6 s7 s8 s9 s10 s11 s12 s13 s14 s15 s16 s17 s18 s19,WM C M o a b c m f ts (nms ts) ts→TsOk ts→N.nx (stL p o m ns s5 s6 s7 s8 s9 s10 s11 s12 s13 s14 s15 s16 s17 s18 s19) M):
 law_4b C p N (stL p o m ns s5 s6 s7 s8 s9 s10 s11 s12 s13 s14 s15 s16 s17 s18 s19) M:=by
 have l6:=ok.l6
 have ht:∀x∈nms ts,nmS x:=fun x hx=>by
  obtain ⟨q,hq,rfl⟩:=List.mem_map.mp hx
  exact ⟨(ok.ok q hq).1,(ok.ok q hq).2.1⟩
 refine sq4_of (t:=law_4b_1 C p) ?_
 refine lw1 n9 hn fun x hx=> ?_
 dsimp only
 refine sq4_of (t:=law_4b_2 C p) ?_
 refine lw2 fun g gf c4=> ?_
 dsimp only
 refine sq4_of (t:=law_4b_3 C p) ?_
 refine lw3 fun r hr=> ?_
 refine lw3_loop (ls:=[]) (k:=2) w l6 n9 hn hx ht gf c4 (by decide) (fun ls s11 s12 s13 hl hg=> ?_) _ _ _ _ (by simp [rangeT];omega) (fun l hl=>by cases hl)
 dsimp only
 refine sq4_of (t:=law_4b_4 C p) ?_
 refine lw4 fun k=> ?_
 dsimp only
 refine sq4_of (t:=law_4b_5 C p) ?_
 have c4':g.cs.length≤100:=by omega
 have k4':g.key.length≤100:=Nat.le_trans gf.k3 (by decide)
 have step6:∀(N6:N4) (cs':List Str),(cs'=g.cs∨cs'=g.cs++g.cs.take 1)→(∀key',DF ⟨cs',key',g.more,ls⟩→N6.nx (stL p o m ns s5 (.val (.str x)) (.val (keyT cs')) (.val (keyT key')) (.val (.tup (g.more.map keyT))) (.val (.tup (ls.map Lk.t))) s11 s12 s13 (.val (.int k)) s15 s16 s17 s18 s19) M)→
  law_4b_6 C p N6 (stL p o m ns s5 (.val (.str x)) (.val (keyT cs')) (.val (keyT g.key)) (.val (.tup (g.more.map keyT))) (.val (.tup (ls.map Lk.t))) s11 s12 s13 (.val (.int k)) s15 s16 s17 s18 s19) M:=fun N6 cs' hcs h6=>
  lw6 k4' (h6 _ (df_mk gf c4 hcs (.inl rfl) hl hg)) (h6 _ (df_mk gf c4 hcs (.inr (.inl rfl)) hl hg)) (h6 _ (df_mk gf c4 hcs (.inr (.inr rfl)) hl hg))
 have rest:∀cs',(cs'=g.cs∨cs'=g.cs++g.cs.take 1)→seq4 (law_4b_6 C p) (seq4 (law_4b_7 C p) (seq4 (law_4b_8 C p) (seq4 (law_4b_9 C p) (seq4 (law_4b_10 C p) (seq4 (law_4b_11 C p) (seq4 (law_4b_12 C p) (seq4 (law_4b_13 C p) (law_4b_14 C p)))))))) N (stL p o m ns s5 (.val (.str x)) (.val (keyT cs')) (.val (keyT g.key)) (.val (.tup (g.more.map keyT))) (.val (.tup (ls.map Lk.t))) s11 s12 s13 (.val (.int k)) s15 s16 s17 s18 s19) M:=by
  intro cs' hcs
  refine sq4_of (t:=law_4b_6 C p) ?_
  refine step6 _ cs' hcs fun key' d=> ?_
  generalize hG:(⟨cs',key',g.more,ls⟩:Fm)=G at d
  have e1:cs'=G.cs:=by rw [←hG]
  have e2:key'=G.key:=by rw [←hG]
  have e3:g.more=G.more:=by rw [←hG]
  have e4:ls=G.links:=by rw [←hG]
  dsimp only
  rw [e1,e2,e3,e4]
  refine sq4_of (t:=law_4b_7 C p) ?_
  refine lw7 ?_
  dsimp only
  refine sq4_of (t:=law_4b_8 C p) ?_
  refine lw8 w ok d hx ?_
  dsimp only
  refine sq4_of (t:=law_4b_9 C p) ?_
  refine lw9 hC w ok d hx ?_
  dsimp only
  refine sq4_of (t:=law_4b_10 C p) ?_
  refine lw10 _ ?_
  dsimp only
  refine sq4_of (t:=law_4b_11 C p) ?_
  have hd:∀r,due ts x G=some r→r.ok:=fun r e=>due_rf d hx e
  have back:∀(ts':Tabs) (M':Mem) (W:T) (S7 S8 S9 S10 S15 S17:Sl),WM C M' o a b c m f ts' (nms ts') ts'→TsOk ts'→seq4 (law_4b_12 C p) (seq4 (law_4b_13 C p) (law_4b_14 C p)) N (stL p o m ns s5 (.val (.str x)) S7 S8 S9 S10 s11 s12 s13 (.val (.int k)) S15 (.val W) S17 s18 s19) M':=by
   intro ts' M' W S7 S8 S9 S10 S15 S17 w' ok'
   refine sq4_of (t:=law_4b_12 C p) ?_
   refine lw12 n9 hn fun y hy=> ?_
   dsimp only
   refine sq4_of (t:=law_4b_13 C p) ?_
   refine lw13 w' ?_
   dsimp only
   refine lw14 hC hc w' ok' hy fun M'' hs=> ?_
   exact h ts' M'' _ _ _ _ _ _ _ _ _ _ _ _ _ _ _ (w'.sub hs) ok'
  cases ed:due ts x G with
  | some r=>
    rw [if_neg (by simp)]
    refine lw11 (d:=some r) (g:=G) (by rw [←ed];exact hd) w (.inr (by simp)) (by omega) (fun _=> ?_) (fun z=>by cases z)
    exact back ts M _ _ _ _ _ _ _ w ok
  | none=>
    rw [if_pos rfl]
    have nx:x ∉ nms ts∧¬ 6≤ts.length:=by
     unfold due at ed
     split at ed
     · cases ed
     · split at ed
       · cases ed
       · rename_i h2
         split at ed
         · cases ed
         · rename_i h3
           exact ⟨h2,h3⟩
    refine lw11 (d:=none) (g:=G) (ts':=ts++[(x,G)]) (fun r e=>by cases e) w.putA (.inl nx.1) (by omega) (fun z=>absurd rfl z) (fun _ M' w'=> ?_)
    refine back (ts++[(x,G)]) M' _ _ _ _ _ _ _ w' ⟨?_, ?_, ?_⟩
    · show ((ts++[(x,G)]).map (·.1)).Nodup
      rw [List.map_append,List.nodup_append]
      refine ⟨ok.nd,by simp,fun u hu v hv e=> ?_⟩
      have hv:v=x:=List.mem_singleton.mp hv
      exact nx.1 (by rw [←hv, ←e];exact hu)
    · rw [List.length_append]
      show ts.length+1≤6
      omega
    · intro q hq
      rcases List.mem_append.mp hq with hq | hq
      · exact ok.ok q hq
      · rw [List.mem_singleton.mp hq]
        exact ⟨hx.1,hx.2,d.ok⟩
 refine lw5 c4' ?_ ?_
 · exact rest g.cs (.inl rfl)
 · exact rest _ (.inr rfl)
theorem law_plain (C:Cs) (hC:CsOk C) (hc:C.at_ "Form"≠C.at_ "Plan"):Plain C:=by
 intro p
 show lawB C p _ (Sl.no::Sl.val (.ref p)::List.replicate 18 Sl.no) _
 unfold lawB
 refine sq4_of (t:=law_1 C p) ?_
 have t1:∀N:N4,(∀o a b c M',P0 C M' o a b c→N.nx (Sl.no::Sl.val (.ref p)::Sl.val (.ref o)::List.replicate 17 Sl.no) M')→law_1 C p N (Sl.no::Sl.val (.ref p)::List.replicate 18 Sl.no) (fun _=>none):=by
  intro N hN
  have go:∀o:Addr,Plan_init C [.ref o] (mset (fun _=>none) o (some (.ins (cP C) []))) (fun d M2=>d= .non∧N.nx (Sl.no::Sl.val (.ref p)::Sl.val (.ref o)::List.replicate 17 Sl.no) M2) (fun _ _=>False):=fun o=>init_plan mset_same fun a b c M' P=>⟨rfl,hN o a b c M' P⟩
  unfold law_1
  simpa [asg4,mkC40,nil4,name3] using go
 refine t1 _ fun o a b c M1 P=> ?_
 dsimp only
 refine sq4_of (t:=law_2 C p) ?_
 have t2:∀N:N4,(∀f m M',Sub M1 M'→M' f=some (.dic [])→M' m=some (.dic (mdl f []))→M1 f=none→M1 m=none→f≠m→N.nx (Sl.no::Sl.val (.ref p)::Sl.val (.ref o)::Sl.val (.ref m)::List.replicate 16 Sl.no) M')→law_2 C p N (Sl.no::Sl.val (.ref p)::Sl.val (.ref o)::List.replicate 17 Sl.no) M1:=by
  intro N hN
  have go:∀f,M1 f=none→∀m,mset M1 f (some (.dic [])) m=none→N.nx (Sl.no::Sl.val (.ref p)::Sl.val (.ref o)::Sl.val (.ref m)::List.replicate 16 Sl.no) (mset (mset M1 f (some (.dic []))) m (some (.dic (mdl f [])))):=by
   intro f hf m hm
   obtain ⟨mf,m1⟩:=ne_fresh hm
   exact hN f m _ (Sub.new (Sub.new (Sub.refl _) hf) m1) (by rw [mset_ne mf.symm,mset_same]) mset_same hf m1 mf.symm
  have s0:0≤sizeLine:=Nat.zero_le _
  unfold law_2
  show dispC4 _ _ _ _ _
  refine ⟨s0,fun f hf=>⟨by decide,fun m hm=> ?_⟩⟩
  exact go f hf m hm
 refine t2 _ fun f m M2 hs hf hm f0 m0 fm=> ?_
 dsimp only
 have df:Df o a b c m f:=by
  have go:∀u,M1 u≠none→u≠f∧u≠m:=fun u hu=>⟨fun z=>hu (by rw [z];exact f0),fun z=>hu (by rw [z];exact m0)⟩
  have o1:=go o (by rw [P.mo];intro z;cases z)
  have a1:=go a (by rw [P.ma];intro z;cases z)
  have b1:=go b (by rw [P.mb];intro z;cases z)
  have c1:=go c (by rw [P.mc];intro z;cases z)
  exact ⟨P.oa,P.oB,P.oc,o1.2,o1.1,P.ab,P.ac,a1.2,a1.1,b1.2,b1.1,c1.2,c1.1,fm.symm⟩
 have w:WM C M2 o a b c m f [] (nms []) []:=⟨hs _ _ P.mo,hs _ _ P.ma,hs _ _ P.mb,hs _ _ P.mc,hm,hf,df⟩
 have ok:TsOk []:=⟨List.nodup_nil,by simp,fun q hq=>by cases hq⟩
 refine sq4_of (t:=law_3 C p) ?_
 have t3:∀N:N4,(∀ns:List Str,ns.length=9→(∀x∈ns,nmS x)→N.nx (stL p o m ns .no .no .no .no .no .no .no .no .no .no .no .no .no .no .no) M2)→law_3 C p N (Sl.no::Sl.val (.ref p)::Sl.val (.ref o)::Sl.val (.ref m)::List.replicate 16 Sl.no) M2:=by
  intro N hN
  have z:=names_ok C p (m:=9) (by decide) (by decide) (fun d=>N.nx (Sl.no::Sl.val (.ref p)::Sl.val (.ref o)::Sl.val (.ref m)::Sl.val d::List.replicate 15 Sl.no) M2) (fun _=>False) fun ns hl _ hf=>hN ns hl fun x hx=>⟨(hf x hx).2.1,(hf x hx).2.2.1⟩
  unfold law_3
  simpa [asg4,pu,fnP30,cons3,nil3,v3,k3,slot,name3] using z
 refine t3 _ fun ns n9 hn=> ?_
 dsimp only
 refine sq4_of (t:=law_4 C p) ?_
 have t5:∀(σ:List Sl) (M:Mem),law_5 C p {nx:=fun _ _=>False,rt:=fun d _=>d= .bl true,bk:=fun _ _=>False,ct:=fun _ _=>False,xn:=fun _ _ _=>False} σ M:=fun σ M=>by
  unfold law_5
  simp [ret4,pu,k3]
 have lp:∀(N:N4),(∀σ M,N.nx σ M)→∀(us:List T) (ts:Tabs) (M:Mem) (s5 s6 s7 s8 s9 s10 s11 s12 s13 s14 s15 s16 s17 s18 s19:Sl),WM C M o a b c m f ts (nms ts) ts→TsOk ts→loop4 (name3 5) (law_4b C p) N us (stL p o m ns s5 s6 s7 s8 s9 s10 s11 s12 s13 s14 s15 s16 s17 s18 s19) M:=by
  intro N hN us
  induction us with
  | nil=>intro ts M s5 s6 s7 s8 s9 s10 s11 s12 s13 s14 s15 s16 s17 s18 s19 _ _;exact hN _ _
  | cons u us ih=>
    intro ts M s5 s6 s7 s8 s9 s10 s11 s12 s13 s14 s15 s16 s17 s18 s19 w ok
    rw [lp4_cons]
    show law_4b C p _ (stL p o m ns (.val u) s6 s7 s8 s9 s10 s11 s12 s13 s14 s15 s16 s17 s18 s19) M
    exact turn hC hc n9 hn w ok ih
 unfold law_4
 have lp:=lp {nx:=law_5 C p {nx:=fun _ _=>False,rt:=fun d _=>d= .bl true},rt:=fun d _=>d= .bl true} t5
 generalize law_4b C p=B at lp ⊢
 simp [for4,iterR3,cons3,nil3,op3,k3,fnP30,v3,slot,take3]
 intro r r0 r1
 refine ⟨by omega,by omega, ?_⟩
 exact lp _ _ _ _ _ _ _ _ _ _ _ _ _ _ _ _ _ _ w ok
end Law
namespace Law
open PySem L2 M3
theorem dist_Form_Plan {w:World} {K:PySem.W.Frag} {mg:Str→Option Value} (T:Top w K mg):(csOf w K mg).at_ "Form"≠(csOf w K mg).at_ "Plan":=fun e=>by
 obtain ⟨f,fd,dvs,kvs,_,_,_,hm⟩:=T.d_Plan_tables.ex
 have n:=T.n_Form_tables
 unfold L2.NoAttr at n
 rw [e] at n
 rw [n] at hm
 cases hm
theorem all_mk {l:PySem.W.OpenLaw} {w:World} {K:PySem.W.Frag} {h:Heap} {mg:Str→Option Value} {fa:Addr} (X:K.In h) (G:h.Ns mainGlobals mg) (hfa:mg "law"=some (.ref fa))
 {C_Form:Addr} {C_Plan:Addr} {f0:Addr} {od0 an0:Option Addr} {sl0:Array (Option Value)} {oc0 dc0 pm0 ct0:Value} {kV0:Value} {cd0:Value} {f1:Addr} {od1 an1:Option Addr} {sl1:Array (Option Value)} {oc1 dc1 pm1 ct1:Value} {kV1:Value} {cd1:Value} {T1:Addr} {to1:Obj} {ti1:List Value} {tn1:Nat} {x1_0:Value} {f2:Addr} {od2 an2:Option Addr} {sl2:Array (Option Value)} {oc2 dc2 pm2 ct2:Value} {kV2:Value} {cd2:Value} {f3:Addr} {od3 an3:Option Addr} {sl3:Array (Option Value)} {oc3 dc3 pm3 ct3:Value} {cd3:Value} {D3:Addr} {w3_0:Value} {A_e3_0:Addr} {o_e3_0:Obj} {i_e3_0:List Value} {n_e3_0:Nat} {w3_1:Value} {A_e3_1:Addr} {o_e3_1:Obj} {i_e3_1:List Value} {n_e3_1:Nat} {f4:Addr} {od4 an4:Option Addr} {sl4:Array (Option Value)} {oc4 dc4 pm4 ct4:Value} {kV4:Value} {cd4:Value} {f5:Addr} {od5 an5:Option Addr} {sl5:Array (Option Value)} {oc5 dc5 pm5 ct5:Value} {kV5:Value} {cd5:Value} {f6:Addr} {od6 an6:Option Addr} {sl6:Array (Option Value)} {oc6 dc6 pm6 ct6:Value} {kV6:Value} {cd6:Value} {f7:Addr} {od7 an7:Option Addr} {sl7:Array (Option Value)} {oc7 dc7 pm7 ct7:Value} {cd7:Value} {D7:Addr} {w7_0:Value} {A_e7_0:Addr} {o_e7_0:Obj} {i_e7_0:List Value} {n_e7_0:Nat} {w7_1:Value} {A_e7_1:Addr} {o_e7_1:Obj} {i_e7_1:List Value} {n_e7_1:Nat} {f8:Addr} {od8 an8:Option Addr} {sl8:Array (Option Value)} {oc8 dc8 pm8 ct8:Value} {kV8:Value} {cd8:Value} {f9:Addr} {od9 an9:Option Addr} {sl9:Array (Option Value)} {oc9 dc9 pm9 ct9:Value} {kV9:Value} {cd9:Value} {f10:Addr} {od10 an10:Option Addr} {sl10:Array (Option Value)} {oc10 dc10 pm10 ct10:Value} {kV10:Value} {cd10:Value} {f11:Addr} {od11 an11:Option Addr} {sl11:Array (Option Value)} {oc11 dc11 pm11 ct11:Value} {kV11:Value} {cd11:Value} {f12:Addr} {od12 an12:Option Addr} {sl12:Array (Option Value)} {oc12 dc12 pm12 ct12:Value} {kV12:Value} {cd12:Value} {f13:Addr} {od13 an13:Option Addr} {sl13:Array (Option Value)} {oc13 dc13 pm13 ct13:Value} {kV13:Value} {cd13:Value} {f14:Addr} {od14 an14:Option Addr} {sl14:Array (Option Value)} {oc14 dc14 pm14 ct14:Value} {kV14:Value} {cd14:Value} {f15:Addr} {od15 an15:Option Addr} {sl15:Array (Option Value)} {oc15 dc15 pm15 ct15:Value} {kV15:Value} {cd15:Value} {f16:Addr} {od16 an16:Option Addr} {sl16:Array (Option Value)} {oc16 dc16 pm16 ct16:Value} {kV16:Value} {cd16:Value} {f17:Addr} {od17 an17:Option Addr} {sl17:Array (Option Value)} {oc17 dc17 pm17 ct17:Value} {kV17:Value} {cd17:Value} {f18:Addr} {od18 an18:Option Addr} {sl18:Array (Option Value)} {oc18 dc18 pm18 ct18:Value} {kV18:Value} {cd18:Value} {f19:Addr} {od19 an19:Option Addr} {sl19:Array (Option Value)} {oc19 dc19 pm19 ct19:Value} {kV19:Value} {cd19:Value} {f20:Addr} {od20 an20:Option Addr} {sl20:Array (Option Value)} {oc20 dc20 pm20 ct20:Value} {kV20:Value} {cd20:Value} {f21:Addr} {od21 an21:Option Addr} {sl21:Array (Option Value)} {oc21 dc21 pm21 ct21:Value} {kV21:Value} {cL21 PL21:Addr} {u_MOST_TABLES:Value} {C_BadColumns:Addr} {C_BadKey:Addr} {C_BadName:Addr} {nm_BadName q_BadName:Str} {N_BadName:Addr} {bs_BadName bm_BadName:List Value} {sn_BadName:List Str} {sub_BadName:List Value} {ab_BadName:Bool} {col_BadName:Option Bool} {dd_BadName:Option Addr} {k0_BadName k1_BadName k2_BadName k3_BadName k5_BadName:Option Value} {fi_BadName:Addr} {oi_BadName ci_BadName di_BadName pi_BadName ti_BadName ki_BadName:Value} {odi_BadName ai_BadName:Option Addr} {si_BadName:Array (Option Value)} {C_BadRefer:Addr} {C_FormError:Addr} {C_Full:Addr} {C_NoTable:Addr} {nm_NoTable q_NoTable:Str} {N_NoTable:Addr} {bs_NoTable bm_NoTable:List Value} {sn_NoTable:List Str} {sub_NoTable:List Value} {ab_NoTable:Bool} {col_NoTable:Option Bool} {dd_NoTable:Option Addr} {k0_NoTable k1_NoTable k2_NoTable k3_NoTable k5_NoTable:Option Value} {fi_NoTable:Addr} {oi_NoTable ci_NoTable di_NoTable pi_NoTable ti_NoTable ki_NoTable:Value} {odi_NoTable ai_NoTable:Option Addr} {si_NoTable:Array (Option Value)} {C_PourError:Addr} {C_Taken:Addr} {nm_Taken q_Taken:Str} {N_Taken:Addr} {bs_Taken bm_Taken:List Value} {sn_Taken:List Str} {sub_Taken:List Value} {ab_Taken:Bool} {col_Taken:Option Bool} {dd_Taken:Option Addr} {k0_Taken k1_Taken k2_Taken k3_Taken k5_Taken:Option Value} {fi_Taken:Addr} {oi_Taken ci_Taken di_Taken pi_Taken ti_Taken ki_Taken:Value} {odi_Taken ai_Taken:Option Addr} {si_Taken:Array (Option Value)} {ddc21:Option Addr} {vsc21:Array Value} {slc21:Array (Option Value)} {file21:Str} {tf21:Tok} {flags21:Int} {tg21:Tok} {inF21:Bool} {text21:Int} {tt21:Tok}
 (ac_Form:PySem.W.nsIn K mainGlobals "Form"=some (some (.ref C_Form)))
 (pg_Form:PySem.W.plainGet K C_Form Str.empty=true)
 (hd_Form:PySem.W.hasDictIn K C_Form=true)
 (po_Form:PySem.W.plainOver K C_Form=true)
 (sa_Form:PySem.W.findIn K (.ref C_Form) "__setattr__"=some (some (.builtin "object.__setattr__")))
 (mk_Form:PySem.W.makesIn K C_Form=true)
 (kp_Form:PySem.W.keepIn K (.ref C_Form)=true)
 (ac_Plan:PySem.W.nsIn K mainGlobals "Plan"=some (some (.ref C_Plan)))
 (pg_Plan:PySem.W.plainGet K C_Plan Str.empty=true)
 (hd_Plan:PySem.W.hasDictIn K C_Plan=true)
 (po_Plan:PySem.W.plainOver K C_Plan=true)
 (sa_Plan:PySem.W.findIn K (.ref C_Plan) "__setattr__"=some (some (.builtin "object.__setattr__")))
 (mk_Plan:PySem.W.makesIn K C_Plan=true)
 (kp_Plan:PySem.W.keepIn K (.ref C_Plan)=true)
 (na_Form_columns:PySem.W.findIn K (.ref C_Form) "columns"=some none)
 (na_Form_key:PySem.W.findIn K (.ref C_Form) "key"=some none)
 (na_Form_others:PySem.W.findIn K (.ref C_Form) "others"=some none)
 (na_Form_refers:PySem.W.findIn K (.ref C_Form) "refers"=some none)
 (na_Form_tables:PySem.W.findIn K (.ref C_Form) "tables"=some none)
 (na_Plan_above:PySem.W.findIn K (.ref C_Plan) "above"=some none)
 (na_Plan_below:PySem.W.findIn K (.ref C_Plan) "below"=some none)
 (na_Plan_forms:PySem.W.findIn K (.ref C_Plan) "forms"=some none)
 (a0:PySem.W.nsIn K mainGlobals "is_name"=some (some (.ref f0)))
 (l0:K.lookup f0=some ⟨oc0,od0,.func (PySem.W.fnOf "is_name" "is_name" (defArgs s_is_name) (defBody s_is_name) (defScope s_is_name) .none kV0 dc0 pm0 an0 cd0 ct0),sl0⟩)
 (c0:PySem.W.codeIn K cd0 "is_name"=true)
 (k0:PySem.W.keepIn K (.ref f0)=true)
 (a1:PySem.W.nsIn K mainGlobals "are_columns"=some (some (.ref f1)))
 (l1:K.lookup f1=some ⟨oc1,od1,.func (PySem.W.fnOf "are_columns" "are_columns" (defArgs s_are_columns) (defBody s_are_columns) (defScope s_are_columns) (.ref T1) kV1 dc1 pm1 an1 cd1 ct1),sl1⟩)
 (c1:PySem.W.codeIn K cd1 "are_columns"=true)
 (k1:PySem.W.keepIn K (.ref f1)=true)
 (t1:K.lookup T1=some to1)
 (td1:to1.data= .seq ti1.toArray tn1)
 (ts1:ti1=[x1_0])
 (y1_0:TreeAt K (.int 6) x1_0)
 (a2:PySem.W.nsIn K mainGlobals "is_part"=some (some (.ref f2)))
 (l2:K.lookup f2=some ⟨oc2,od2,.func (PySem.W.fnOf "is_part" "is_part" (defArgs s_is_part) (defBody s_is_part) (defScope s_is_part) .none kV2 dc2 pm2 an2 cd2 ct2),sl2⟩)
 (c2:PySem.W.codeIn K cd2 "is_part"=true)
 (k2:PySem.W.keepIn K (.ref f2)=true)
 (a3:PySem.W.findIn K (.ref C_Form) "__init__"=some (some (.ref f3)))
 (l3:K.lookup f3=some ⟨oc3,od3,.func (PySem.W.fnOf "__init__" "Form.__init__" (defArgs s_Form_init) (defBody s_Form_init) (defScope s_Form_init) .none (.ref D3) dc3 pm3 an3 cd3 ct3),sl3⟩)
 (c3:PySem.W.codeIn K cd3 "Form.__init__"=true)
 (k3:PySem.W.keepIn K (.ref f3)=true)
 (q3_0:PySem.W.nsIn K D3 "others"=some (some w3_0))
 (u_e3_0:w3_0= .ref A_e3_0)
 (l_e3_0:K.lookup A_e3_0=some o_e3_0)
 (c_e3_0:o_e3_0.cls= .type "tuple")
 (e_e3_0:o_e3_0.dict=none)
 (d_e3_0:o_e3_0.data= .seq i_e3_0.toArray n_e3_0)
 (s_e3_0:i_e3_0=[])
 (q3_1:PySem.W.nsIn K D3 "refers"=some (some w3_1))
 (u_e3_1:w3_1= .ref A_e3_1)
 (l_e3_1:K.lookup A_e3_1=some o_e3_1)
 (c_e3_1:o_e3_1.cls= .type "tuple")
 (e_e3_1:o_e3_1.dict=none)
 (d_e3_1:o_e3_1.data= .seq i_e3_1.toArray n_e3_1)
 (s_e3_1:i_e3_1=[])
 (fn3:PySem.W.isFn K (.ref f3)=true)
 (a4:PySem.W.findIn K (.ref C_Plan) "__init__"=some (some (.ref f4)))
 (l4:K.lookup f4=some ⟨oc4,od4,.func (PySem.W.fnOf "__init__" "Plan.__init__" (defArgs s_Plan_init) (defBody s_Plan_init) (defScope s_Plan_init) .none kV4 dc4 pm4 an4 cd4 ct4),sl4⟩)
 (c4:PySem.W.codeIn K cd4 "Plan.__init__"=true)
 (k4:PySem.W.keepIn K (.ref f4)=true)
 (fn4:PySem.W.isFn K (.ref f4)=true)
 (a5:PySem.W.findIn K (.ref C_Plan) "tables"=some (some (.ref f5)))
 (l5:K.lookup f5=some ⟨oc5,od5,.func (PySem.W.fnOf "tables" "Plan.tables" (defArgs s_Plan_tables) (defBody s_Plan_tables) (defScope s_Plan_tables) .none kV5 dc5 pm5 an5 cd5 ct5),sl5⟩)
 (c5:PySem.W.codeIn K cd5 "Plan.tables"=true)
 (k5:PySem.W.keepIn K (.ref f5)=true)
 (fn5:PySem.W.isFn K (.ref f5)=true)
 (a6:PySem.W.findIn K (.ref C_Plan) "form"=some (some (.ref f6)))
 (l6:K.lookup f6=some ⟨oc6,od6,.func (PySem.W.fnOf "form" "Plan.form" (defArgs s_Plan_form) (defBody s_Plan_form) (defScope s_Plan_form) .none kV6 dc6 pm6 an6 cd6 ct6),sl6⟩)
 (c6:PySem.W.codeIn K cd6 "Plan.form"=true)
 (k6:PySem.W.keepIn K (.ref f6)=true)
 (fn6:PySem.W.isFn K (.ref f6)=true)
 (a7:PySem.W.findIn K (.ref C_Plan) "make"=some (some (.ref f7)))
 (l7:K.lookup f7=some ⟨oc7,od7,.func (PySem.W.fnOf "make" "Plan.make" (defArgs s_Plan_make) (defBody s_Plan_make) (defScope s_Plan_make) .none (.ref D7) dc7 pm7 an7 cd7 ct7),sl7⟩)
 (c7:PySem.W.codeIn K cd7 "Plan.make"=true)
 (k7:PySem.W.keepIn K (.ref f7)=true)
 (q7_0:PySem.W.nsIn K D7 "others"=some (some w7_0))
 (u_e7_0:w7_0= .ref A_e7_0)
 (l_e7_0:K.lookup A_e7_0=some o_e7_0)
 (c_e7_0:o_e7_0.cls= .type "tuple")
 (e_e7_0:o_e7_0.dict=none)
 (d_e7_0:o_e7_0.data= .seq i_e7_0.toArray n_e7_0)
 (s_e7_0:i_e7_0=[])
 (q7_1:PySem.W.nsIn K D7 "refers"=some (some w7_1))
 (u_e7_1:w7_1= .ref A_e7_1)
 (l_e7_1:K.lookup A_e7_1=some o_e7_1)
 (c_e7_1:o_e7_1.cls= .type "tuple")
 (e_e7_1:o_e7_1.dict=none)
 (d_e7_1:o_e7_1.data= .seq i_e7_1.toArray n_e7_1)
 (s_e7_1:i_e7_1=[])
 (fn7:PySem.W.isFn K (.ref f7)=true)
 (a8:PySem.W.findIn K (.ref C_Plan) "rules"=some (some (.ref f8)))
 (l8:K.lookup f8=some ⟨oc8,od8,.func (PySem.W.fnOf "rules" "Plan.rules" (defArgs s_Plan_rules) (defBody s_Plan_rules) (defScope s_Plan_rules) .none kV8 dc8 pm8 an8 cd8 ct8),sl8⟩)
 (c8:PySem.W.codeIn K cd8 "Plan.rules"=true)
 (k8:PySem.W.keepIn K (.ref f8)=true)
 (fn8:PySem.W.isFn K (.ref f8)=true)
 (a9:PySem.W.findIn K (.ref C_Plan) "follows"=some (some (.ref f9)))
 (l9:K.lookup f9=some ⟨oc9,od9,.func (PySem.W.fnOf "follows" "Plan.follows" (defArgs s_Plan_follows) (defBody s_Plan_follows) (defScope s_Plan_follows) .none kV9 dc9 pm9 an9 cd9 ct9),sl9⟩)
 (c9:PySem.W.codeIn K cd9 "Plan.follows"=true)
 (k9:PySem.W.keepIn K (.ref f9)=true)
 (fn9:PySem.W.isFn K (.ref f9)=true)
 (a10:PySem.W.findIn K (.ref C_Plan) "empty"=some (some (.ref f10)))
 (l10:K.lookup f10=some ⟨oc10,od10,.func (PySem.W.fnOf "empty" "Plan.empty" (defArgs s_Plan_empty) (defBody s_Plan_empty) (defScope s_Plan_empty) .none kV10 dc10 pm10 an10 cd10 ct10),sl10⟩)
 (c10:PySem.W.codeIn K cd10 "Plan.empty"=true)
 (k10:PySem.W.keepIn K (.ref f10)=true)
 (fn10:PySem.W.isFn K (.ref f10)=true)
 (a11:PySem.W.nsIn K mainGlobals "_law_pot"=some (some (.ref f11)))
 (l11:K.lookup f11=some ⟨oc11,od11,.func (PySem.W.fnOf "_law_pot" "_law_pot" (defArgs s_Lpot) (defBody s_Lpot) (defScope s_Lpot) .none kV11 dc11 pm11 an11 cd11 ct11),sl11⟩)
 (c11:PySem.W.codeIn K cd11 "_law_pot"=true)
 (k11:PySem.W.keepIn K (.ref f11)=true)
 (a12:PySem.W.nsIn K mainGlobals "_law_take"=some (some (.ref f12)))
 (l12:K.lookup f12=some ⟨oc12,od12,.func (PySem.W.fnOf "_law_take" "_law_take" (defArgs s_Ltake) (defBody s_Ltake) (defScope s_Ltake) .none kV12 dc12 pm12 an12 cd12 ct12),sl12⟩)
 (c12:PySem.W.codeIn K cd12 "_law_take"=true)
 (k12:PySem.W.keepIn K (.ref f12)=true)
 (a13:PySem.W.nsIn K mainGlobals "_law_same"=some (some (.ref f13)))
 (l13:K.lookup f13=some ⟨oc13,od13,.func (PySem.W.fnOf "_law_same" "_law_same" (defArgs s_Lsame) (defBody s_Lsame) (defScope s_Lsame) .none kV13 dc13 pm13 an13 cd13 ct13),sl13⟩)
 (c13:PySem.W.codeIn K cd13 "_law_same"=true)
 (k13:PySem.W.keepIn K (.ref f13)=true)
 (a14:PySem.W.nsIn K mainGlobals "_law_names"=some (some (.ref f14)))
 (l14:K.lookup f14=some ⟨oc14,od14,.func (PySem.W.fnOf "_law_names" "_law_names" (defArgs s_Lnames) (defBody s_Lnames) (defScope s_Lnames) .none kV14 dc14 pm14 an14 cd14 ct14),sl14⟩)
 (c14:PySem.W.codeIn K cd14 "_law_names"=true)
 (k14:PySem.W.keepIn K (.ref f14)=true)
 (a15:PySem.W.nsIn K mainGlobals "_law_some"=some (some (.ref f15)))
 (l15:K.lookup f15=some ⟨oc15,od15,.func (PySem.W.fnOf "_law_some" "_law_some" (defArgs s_Lsome) (defBody s_Lsome) (defScope s_Lsome) .none kV15 dc15 pm15 an15 cd15 ct15),sl15⟩)
 (c15:PySem.W.codeIn K cd15 "_law_some"=true)
 (k15:PySem.W.keepIn K (.ref f15)=true)
 (a16:PySem.W.nsIn K mainGlobals "_law_form"=some (some (.ref f16)))
 (l16:K.lookup f16=some ⟨oc16,od16,.func (PySem.W.fnOf "_law_form" "_law_form" (defArgs s_Lform) (defBody s_Lform) (defScope s_Lform) .none kV16 dc16 pm16 an16 cd16 ct16),sl16⟩)
 (c16:PySem.W.codeIn K cd16 "_law_form"=true)
 (k16:PySem.W.keepIn K (.ref f16)=true)
 (a17:PySem.W.nsIn K mainGlobals "_law_name_fine"=some (some (.ref f17)))
 (l17:K.lookup f17=some ⟨oc17,od17,.func (PySem.W.fnOf "_law_name_fine" "_law_name_fine" (defArgs s_Lname_fine) (defBody s_Lname_fine) (defScope s_Lname_fine) .none kV17 dc17 pm17 an17 cd17 ct17),sl17⟩)
 (c17:PySem.W.codeIn K cd17 "_law_name_fine"=true)
 (k17:PySem.W.keepIn K (.ref f17)=true)
 (a18:PySem.W.nsIn K mainGlobals "_law_due"=some (some (.ref f18)))
 (l18:K.lookup f18=some ⟨oc18,od18,.func (PySem.W.fnOf "_law_due" "_law_due" (defArgs s_Ldue) (defBody s_Ldue) (defScope s_Ldue) .none kV18 dc18 pm18 an18 cd18 ct18),sl18⟩)
 (c18:PySem.W.codeIn K cd18 "_law_due"=true)
 (k18:PySem.W.keepIn K (.ref f18)=true)
 (a19:PySem.W.nsIn K mainGlobals "_law_made_so"=some (some (.ref f19)))
 (l19:K.lookup f19=some ⟨oc19,od19,.func (PySem.W.fnOf "_law_made_so" "_law_made_so" (defArgs s_Lmade_so) (defBody s_Lmade_so) (defScope s_Lmade_so) .none kV19 dc19 pm19 an19 cd19 ct19),sl19⟩)
 (c19:PySem.W.codeIn K cd19 "_law_made_so"=true)
 (k19:PySem.W.keepIn K (.ref f19)=true)
 (a20:PySem.W.nsIn K mainGlobals "_law_why"=some (some (.ref f20)))
 (l20:K.lookup f20=some ⟨oc20,od20,.func (PySem.W.fnOf "_law_why" "_law_why" (defArgs s_Lwhy) (defBody s_Lwhy) (defScope s_Lwhy) .none kV20 dc20 pm20 an20 cd20 ct20),sl20⟩)
 (c20:PySem.W.codeIn K cd20 "_law_why"=true)
 (k20:PySem.W.keepIn K (.ref f20)=true)
 (a21:PySem.W.nsIn K mainGlobals "law"=some (some (.ref f21)))
 (l21:K.lookup f21=some ⟨oc21,od21,.func (PySem.W.fnOf "law" "law" (defArgs s_law) (defBody s_law) (defScope s_law) .none kV21 dc21 pm21 an21 (.ref cL21) ct21),sl21⟩)
 (c21:PySem.W.codeIn K (.ref cL21) "law"=true)
 (k21:PySem.W.keepIn K (.ref f21)=true)
 (z_abs:PySem.W.nsIn K mainGlobals "abs"=some none)
 (z_all:PySem.W.nsIn K mainGlobals "all"=some none)
 (z_bool:PySem.W.nsIn K mainGlobals "bool"=some none)
 (z_dict:PySem.W.nsIn K mainGlobals "dict"=some none)
 (z_int:PySem.W.nsIn K mainGlobals "int"=some none)
 (z_isinstance:PySem.W.nsIn K mainGlobals "isinstance"=some none)
 (z_len:PySem.W.nsIn K mainGlobals "len"=some none)
 (z_list:PySem.W.nsIn K mainGlobals "list"=some none)
 (z_min:PySem.W.nsIn K mainGlobals "min"=some none)
 (z_range:PySem.W.nsIn K mainGlobals "range"=some none)
 (z_set:PySem.W.nsIn K mainGlobals "set"=some none)
 (z_sorted:PySem.W.nsIn K mainGlobals "sorted"=some none)
 (z_str:PySem.W.nsIn K mainGlobals "str"=some none)
 (z_tuple:PySem.W.nsIn K mainGlobals "tuple"=some none)
 (z_zip:PySem.W.nsIn K mainGlobals "zip"=some none)
 (g_MOST_TABLES:PySem.W.nsIn K mainGlobals "MOST_TABLES"=some (some u_MOST_TABLES))
 (r_MOST_TABLES:TreeAt K (.int 6) u_MOST_TABLES)
 (ac_BadColumns:PySem.W.nsIn K mainGlobals "BadColumns"=some (some (.ref C_BadColumns)))
 (xb_BadColumns:PySem.W.subIn K (.ref C_BadColumns) (.type "BaseException")=some true)
 (xt_BadColumns:PySem.W.typeIn K (.ref C_BadColumns)=some (.type "type"))
 (xx_BadColumns:PySem.W.excIn K C_BadColumns [.type "ValueError",.type "Exception",.type "BaseException",.type "object"] "ValueError.__new__"=true)
 (xk_BadColumns:PySem.W.keepIn K (.ref C_BadColumns)=true)
 (xi_BadColumns:PySem.W.isClsIn K C_BadColumns=true)
 (ac_BadKey:PySem.W.nsIn K mainGlobals "BadKey"=some (some (.ref C_BadKey)))
 (xb_BadKey:PySem.W.subIn K (.ref C_BadKey) (.type "BaseException")=some true)
 (xt_BadKey:PySem.W.typeIn K (.ref C_BadKey)=some (.type "type"))
 (xx_BadKey:PySem.W.excIn K C_BadKey [.type "ValueError",.type "Exception",.type "BaseException",.type "object"] "ValueError.__new__"=true)
 (xk_BadKey:PySem.W.keepIn K (.ref C_BadKey)=true)
 (xi_BadKey:PySem.W.isClsIn K C_BadKey=true)
 (ac_BadName:PySem.W.nsIn K mainGlobals "BadName"=some (some (.ref C_BadName)))
 (xb_BadName:PySem.W.subIn K (.ref C_BadName) (.type "BaseException")=some true)
 (xt_BadName:PySem.W.typeIn K (.ref C_BadName)=some (.type "type"))
 (xl_BadName:K.lookup C_BadName=some (excClassObj nm_BadName q_BadName C_BadName N_BadName bs_BadName bm_BadName true sn_BadName sub_BadName ab_BadName col_BadName dd_BadName k0_BadName k1_BadName k2_BadName k3_BadName k5_BadName "ValueError.__new__"))
 (rv_BadName:PySem.HandSPX.refsVE bm_BadName=true)
 (xk_BadName:PySem.W.keepIn K (.ref C_BadName)=true)
 (xs_BadName:PySem.W.findIn K (.ref C_BadName) "__setattr__"=some (some (.builtin "object.__setattr__")))
 (xn_BadName:PySem.W.findIn K (.ref C_BadName) "name"=some none)
 (xa_BadName:PySem.W.findIn K (.ref C_BadName) "__init__"=some (some (.ref fi_BadName)))
 (xm_BadName:K.lookup fi_BadName=some ⟨oi_BadName,odi_BadName,.func (PySem.W.fnOf "__init__" "BadName.__init__" (defArgs s_BadName_init) (defBody s_BadName_init) (defScope s_BadName_init) .none ki_BadName di_BadName pi_BadName ai_BadName ci_BadName ti_BadName),si_BadName⟩)
 (xc_BadName:PySem.W.codeIn K ci_BadName "BadName.__init__"=true)
 (xp_BadName:PySem.W.keepIn K (.ref fi_BadName)=true)
 (xf_BadName:PySem.W.isFn K (.ref fi_BadName)=true)
 (ga_BadName:PySem.W.findIn K (.ref C_BadName) "__getattribute__"=some (some (.builtin "BaseException.__getattribute__")))
 (gg_BadName:PySem.W.findIn K (.ref C_BadName) "__getattr__"=some none)
 (gd_BadName:PySem.W.hasDictIn K C_BadName=true)
 (gf_BadName_name:PySem.W.findIn K (.ref C_BadName) "name"=some none)
 (xi_BadName:PySem.W.isClsIn K C_BadName=true)
 (ac_BadRefer:PySem.W.nsIn K mainGlobals "BadRefer"=some (some (.ref C_BadRefer)))
 (xb_BadRefer:PySem.W.subIn K (.ref C_BadRefer) (.type "BaseException")=some true)
 (xt_BadRefer:PySem.W.typeIn K (.ref C_BadRefer)=some (.type "type"))
 (xx_BadRefer:PySem.W.excIn K C_BadRefer [.type "ValueError",.type "Exception",.type "BaseException",.type "object"] "ValueError.__new__"=true)
 (xk_BadRefer:PySem.W.keepIn K (.ref C_BadRefer)=true)
 (xi_BadRefer:PySem.W.isClsIn K C_BadRefer=true)
 (ac_FormError:PySem.W.nsIn K mainGlobals "FormError"=some (some (.ref C_FormError)))
 (xb_FormError:PySem.W.subIn K (.ref C_FormError) (.type "BaseException")=some true)
 (xt_FormError:PySem.W.typeIn K (.ref C_FormError)=some (.type "type"))
 (vs_FormError:PySem.W.specialIn K (.ref C_FormError) "__getattribute__"=some (some (.builtin "type.__getattribute__")))
 (vr_FormError:PySem.W.readsIn K C_FormError (.type "type")=true)
 (vf_FormError:PySem.W.findCls K (.ref C_FormError) (.type "type") "__init__"=some (.val (.builtin "ValueError.__init__")))
 (ac_Full:PySem.W.nsIn K mainGlobals "Full"=some (some (.ref C_Full)))
 (xb_Full:PySem.W.subIn K (.ref C_Full) (.type "BaseException")=some true)
 (xt_Full:PySem.W.typeIn K (.ref C_Full)=some (.type "type"))
 (xx_Full:PySem.W.excIn K C_Full [.type "ValueError",.type "Exception",.type "BaseException",.type "object"] "ValueError.__new__"=true)
 (xk_Full:PySem.W.keepIn K (.ref C_Full)=true)
 (xi_Full:PySem.W.isClsIn K C_Full=true)
 (ac_NoTable:PySem.W.nsIn K mainGlobals "NoTable"=some (some (.ref C_NoTable)))
 (xb_NoTable:PySem.W.subIn K (.ref C_NoTable) (.type "BaseException")=some true)
 (xt_NoTable:PySem.W.typeIn K (.ref C_NoTable)=some (.type "type"))
 (xl_NoTable:K.lookup C_NoTable=some (excClassObj nm_NoTable q_NoTable C_NoTable N_NoTable bs_NoTable bm_NoTable true sn_NoTable sub_NoTable ab_NoTable col_NoTable dd_NoTable k0_NoTable k1_NoTable k2_NoTable k3_NoTable k5_NoTable "ValueError.__new__"))
 (rv_NoTable:PySem.HandSPX.refsVE bm_NoTable=true)
 (xk_NoTable:PySem.W.keepIn K (.ref C_NoTable)=true)
 (xs_NoTable:PySem.W.findIn K (.ref C_NoTable) "__setattr__"=some (some (.builtin "object.__setattr__")))
 (xn_NoTable:PySem.W.findIn K (.ref C_NoTable) "name"=some none)
 (xa_NoTable:PySem.W.findIn K (.ref C_NoTable) "__init__"=some (some (.ref fi_NoTable)))
 (xm_NoTable:K.lookup fi_NoTable=some ⟨oi_NoTable,odi_NoTable,.func (PySem.W.fnOf "__init__" "NoTable.__init__" (defArgs s_NoTable_init) (defBody s_NoTable_init) (defScope s_NoTable_init) .none ki_NoTable di_NoTable pi_NoTable ai_NoTable ci_NoTable ti_NoTable),si_NoTable⟩)
 (xc_NoTable:PySem.W.codeIn K ci_NoTable "NoTable.__init__"=true)
 (xp_NoTable:PySem.W.keepIn K (.ref fi_NoTable)=true)
 (xf_NoTable:PySem.W.isFn K (.ref fi_NoTable)=true)
 (ga_NoTable:PySem.W.findIn K (.ref C_NoTable) "__getattribute__"=some (some (.builtin "BaseException.__getattribute__")))
 (gg_NoTable:PySem.W.findIn K (.ref C_NoTable) "__getattr__"=some none)
 (gd_NoTable:PySem.W.hasDictIn K C_NoTable=true)
 (gf_NoTable_name:PySem.W.findIn K (.ref C_NoTable) "name"=some none)
 (xi_NoTable:PySem.W.isClsIn K C_NoTable=true)
 (ac_PourError:PySem.W.nsIn K mainGlobals "PourError"=some (some (.ref C_PourError)))
 (xb_PourError:PySem.W.subIn K (.ref C_PourError) (.type "BaseException")=some true)
 (xt_PourError:PySem.W.typeIn K (.ref C_PourError)=some (.type "type"))
 (xi_PourError:PySem.W.isClsIn K C_PourError=true)
 (ac_Taken:PySem.W.nsIn K mainGlobals "Taken"=some (some (.ref C_Taken)))
 (xb_Taken:PySem.W.subIn K (.ref C_Taken) (.type "BaseException")=some true)
 (xt_Taken:PySem.W.typeIn K (.ref C_Taken)=some (.type "type"))
 (xl_Taken:K.lookup C_Taken=some (excClassObj nm_Taken q_Taken C_Taken N_Taken bs_Taken bm_Taken true sn_Taken sub_Taken ab_Taken col_Taken dd_Taken k0_Taken k1_Taken k2_Taken k3_Taken k5_Taken "ValueError.__new__"))
 (rv_Taken:PySem.HandSPX.refsVE bm_Taken=true)
 (xk_Taken:PySem.W.keepIn K (.ref C_Taken)=true)
 (xs_Taken:PySem.W.findIn K (.ref C_Taken) "__setattr__"=some (some (.builtin "object.__setattr__")))
 (xn_Taken:PySem.W.findIn K (.ref C_Taken) "name"=some none)
 (xa_Taken:PySem.W.findIn K (.ref C_Taken) "__init__"=some (some (.ref fi_Taken)))
 (xm_Taken:K.lookup fi_Taken=some ⟨oi_Taken,odi_Taken,.func (PySem.W.fnOf "__init__" "Taken.__init__" (defArgs s_Taken_init) (defBody s_Taken_init) (defScope s_Taken_init) .none ki_Taken di_Taken pi_Taken ai_Taken ci_Taken ti_Taken),si_Taken⟩)
 (xc_Taken:PySem.W.codeIn K ci_Taken "Taken.__init__"=true)
 (xp_Taken:PySem.W.keepIn K (.ref fi_Taken)=true)
 (xf_Taken:PySem.W.isFn K (.ref fi_Taken)=true)
 (ga_Taken:PySem.W.findIn K (.ref C_Taken) "__getattribute__"=some (some (.builtin "BaseException.__getattribute__")))
 (gg_Taken:PySem.W.findIn K (.ref C_Taken) "__getattr__"=some none)
 (gd_Taken:PySem.W.hasDictIn K C_Taken=true)
 (gf_Taken_name:PySem.W.findIn K (.ref C_Taken) "name"=some none)
 (xi_Taken:PySem.W.isClsIn K C_Taken=true)
 (s_BadColumns_BadName:PySem.W.subIn K (.ref C_BadColumns) (.ref C_BadName)=some false)
 (s_BadColumns_Taken:PySem.W.subIn K (.ref C_BadColumns) (.ref C_Taken)=some false)
 (s_BadColumns_Full:PySem.W.subIn K (.ref C_BadColumns) (.ref C_Full)=some false)
 (s_BadColumns_BadColumns:PySem.W.subIn K (.ref C_BadColumns) (.ref C_BadColumns)=some true)
 (s_BadColumns_BadKey:PySem.W.subIn K (.ref C_BadColumns) (.ref C_BadKey)=some false)
 (s_BadColumns_BadRefer:PySem.W.subIn K (.ref C_BadColumns) (.ref C_BadRefer)=some false)
 (s_BadColumns_NoTable:PySem.W.subIn K (.ref C_BadColumns) (.ref C_NoTable)=some false)
 (s_BadColumns_PourError:PySem.W.subIn K (.ref C_BadColumns) (.ref C_PourError)=some true)
 (s_BadKey_BadName:PySem.W.subIn K (.ref C_BadKey) (.ref C_BadName)=some false)
 (s_BadKey_Taken:PySem.W.subIn K (.ref C_BadKey) (.ref C_Taken)=some false)
 (s_BadKey_Full:PySem.W.subIn K (.ref C_BadKey) (.ref C_Full)=some false)
 (s_BadKey_BadColumns:PySem.W.subIn K (.ref C_BadKey) (.ref C_BadColumns)=some false)
 (s_BadKey_BadKey:PySem.W.subIn K (.ref C_BadKey) (.ref C_BadKey)=some true)
 (s_BadKey_BadRefer:PySem.W.subIn K (.ref C_BadKey) (.ref C_BadRefer)=some false)
 (s_BadKey_NoTable:PySem.W.subIn K (.ref C_BadKey) (.ref C_NoTable)=some false)
 (s_BadKey_PourError:PySem.W.subIn K (.ref C_BadKey) (.ref C_PourError)=some true)
 (s_BadName_BadName:PySem.W.subIn K (.ref C_BadName) (.ref C_BadName)=some true)
 (s_BadName_Taken:PySem.W.subIn K (.ref C_BadName) (.ref C_Taken)=some false)
 (s_BadName_Full:PySem.W.subIn K (.ref C_BadName) (.ref C_Full)=some false)
 (s_BadName_BadColumns:PySem.W.subIn K (.ref C_BadName) (.ref C_BadColumns)=some false)
 (s_BadName_BadKey:PySem.W.subIn K (.ref C_BadName) (.ref C_BadKey)=some false)
 (s_BadName_BadRefer:PySem.W.subIn K (.ref C_BadName) (.ref C_BadRefer)=some false)
 (s_BadName_NoTable:PySem.W.subIn K (.ref C_BadName) (.ref C_NoTable)=some false)
 (s_BadName_PourError:PySem.W.subIn K (.ref C_BadName) (.ref C_PourError)=some true)
 (s_BadRefer_BadName:PySem.W.subIn K (.ref C_BadRefer) (.ref C_BadName)=some false)
 (s_BadRefer_Taken:PySem.W.subIn K (.ref C_BadRefer) (.ref C_Taken)=some false)
 (s_BadRefer_Full:PySem.W.subIn K (.ref C_BadRefer) (.ref C_Full)=some false)
 (s_BadRefer_BadColumns:PySem.W.subIn K (.ref C_BadRefer) (.ref C_BadColumns)=some false)
 (s_BadRefer_BadKey:PySem.W.subIn K (.ref C_BadRefer) (.ref C_BadKey)=some false)
 (s_BadRefer_BadRefer:PySem.W.subIn K (.ref C_BadRefer) (.ref C_BadRefer)=some true)
 (s_BadRefer_NoTable:PySem.W.subIn K (.ref C_BadRefer) (.ref C_NoTable)=some false)
 (s_BadRefer_PourError:PySem.W.subIn K (.ref C_BadRefer) (.ref C_PourError)=some true)
 (s_Full_BadName:PySem.W.subIn K (.ref C_Full) (.ref C_BadName)=some false)
 (s_Full_Taken:PySem.W.subIn K (.ref C_Full) (.ref C_Taken)=some false)
 (s_Full_Full:PySem.W.subIn K (.ref C_Full) (.ref C_Full)=some true)
 (s_Full_BadColumns:PySem.W.subIn K (.ref C_Full) (.ref C_BadColumns)=some false)
 (s_Full_BadKey:PySem.W.subIn K (.ref C_Full) (.ref C_BadKey)=some false)
 (s_Full_BadRefer:PySem.W.subIn K (.ref C_Full) (.ref C_BadRefer)=some false)
 (s_Full_NoTable:PySem.W.subIn K (.ref C_Full) (.ref C_NoTable)=some false)
 (s_Full_PourError:PySem.W.subIn K (.ref C_Full) (.ref C_PourError)=some true)
 (s_NoTable_BadName:PySem.W.subIn K (.ref C_NoTable) (.ref C_BadName)=some false)
 (s_NoTable_Taken:PySem.W.subIn K (.ref C_NoTable) (.ref C_Taken)=some false)
 (s_NoTable_Full:PySem.W.subIn K (.ref C_NoTable) (.ref C_Full)=some false)
 (s_NoTable_BadColumns:PySem.W.subIn K (.ref C_NoTable) (.ref C_BadColumns)=some false)
 (s_NoTable_BadKey:PySem.W.subIn K (.ref C_NoTable) (.ref C_BadKey)=some false)
 (s_NoTable_BadRefer:PySem.W.subIn K (.ref C_NoTable) (.ref C_BadRefer)=some false)
 (s_NoTable_NoTable:PySem.W.subIn K (.ref C_NoTable) (.ref C_NoTable)=some true)
 (s_NoTable_PourError:PySem.W.subIn K (.ref C_NoTable) (.ref C_PourError)=some true)
 (s_Taken_BadName:PySem.W.subIn K (.ref C_Taken) (.ref C_BadName)=some false)
 (s_Taken_Taken:PySem.W.subIn K (.ref C_Taken) (.ref C_Taken)=some true)
 (s_Taken_Full:PySem.W.subIn K (.ref C_Taken) (.ref C_Full)=some false)
 (s_Taken_BadColumns:PySem.W.subIn K (.ref C_Taken) (.ref C_BadColumns)=some false)
 (s_Taken_BadKey:PySem.W.subIn K (.ref C_Taken) (.ref C_BadKey)=some false)
 (s_Taken_BadRefer:PySem.W.subIn K (.ref C_Taken) (.ref C_BadRefer)=some false)
 (s_Taken_NoTable:PySem.W.subIn K (.ref C_Taken) (.ref C_NoTable)=some false)
 (s_Taken_PourError:PySem.W.subIn K (.ref C_Taken) (.ref C_PourError)=some true)
 (lc21:K.lookup cL21=some ⟨.type "code",ddc21,.fields vsc21,slc21⟩)
 (v11_21:vsc21[11]? =some (.ref PL21))
 (v18_21:vsc21.getD 18 .none= .str file21 tf21)
 (v7_21:vsc21.getD 7 .none= .int flags21 tg21)
 (v9_21:vsc21.getD 9 .none= .bool inF21)
 (v10_21:vsc21.getD 10 .none= .int text21 tt21)
 (ncP21:(cL21==PL21)=false)
 (tP21:PySem.W.typeIn K (.ref PL21)=none)
 (tb21:h.get? PL21=some {cls:=.none,data:=.fields #[]})
 (ndP:[PL21].Nodup):
 LamX.LawAtS l w K CX0 14 63 "_law_script" mg fa h:=by
 have mc_Form:=PySem.W.mg_of X G ac_Form
 have at_Form:(csOf w K mg).at_ "Form"=C_Form:=csOf_at mc_Form
 have mc_Plan:=PySem.W.mg_of X G ac_Plan
 have at_Plan:(csOf w K mg).at_ "Plan"=C_Plan:=csOf_at mc_Plan
 have m0:=PySem.W.mg_of X G a0
 have D_is_name:DefAt K mg "is_name" "is_name" s_is_name [] [] []:=defAt_mk m0 l0 c0 k0 (.inl ⟨rfl,rfl⟩) (.inl ⟨rfl,rfl⟩)
 have m1:=PySem.W.mg_of X G a1
 have D_are_columns:DefAt K mg "are_columns" "are_columns" s_are_columns [(.int 6)] [] []:=defAt_mk m1 l1 c1 k1 (.inr ⟨by simp,T1,to1,ti1,tn1,rfl,t1,td1,by rw [ts1];exact (.cons y1_0 .nil)⟩) (.inl ⟨rfl,rfl⟩)
 have m2:=PySem.W.mg_of X G a2
 have D_is_part:DefAt K mg "is_part" "is_part" s_is_part [] [] []:=defAt_mk m2 l2 c2 k2 (.inl ⟨rfl,rfl⟩) (.inl ⟨rfl,rfl⟩)
 have D_Form_init:MethAt K ((csOf w K mg).at_ "Form") "__init__" "__init__" "Form.__init__" s_Form_init [] ["others","refers"] [(.tup []),(.tup [])]:=by
  rw [at_Form]
  exact methAt_mk a3 l3 c3 k3 (.inl ⟨rfl,rfl⟩) (.inr ⟨D3,[w3_0,w3_1],rfl,(.cons (by rw [u_e3_0];exact treeAt_tup (hn:=e_e3_0) l_e3_0 c_e3_0 d_e3_0 (by rw [s_e3_0];show 0≤sizeLine;decide) (by rw [s_e3_0]) .nil) (.cons (by rw [u_e3_1];exact treeAt_tup (hn:=e_e3_1) l_e3_1 c_e3_1 d_e3_1 (by rw [s_e3_1];show 0≤sizeLine;decide) (by rw [s_e3_1]) .nil) .nil)),rfl,fun q hq=>by simp only [List.zip_cons_cons,List.zip_nil_right,List.zip_nil_left,List.mem_cons,List.mem_nil_iff,or_false,List.not_mem_nil] at hq;rcases hq with rfl | rfl<;>first | exact q3_0 | exact q3_1⟩)
 have D_Plan_init:MethAt K ((csOf w K mg).at_ "Plan") "__init__" "__init__" "Plan.__init__" s_Plan_init [] [] []:=by
  rw [at_Plan]
  exact methAt_mk a4 l4 c4 k4 (.inl ⟨rfl,rfl⟩) (.inl ⟨rfl,rfl⟩)
 have D_Plan_tables:MethAt K ((csOf w K mg).at_ "Plan") "tables" "tables" "Plan.tables" s_Plan_tables [] [] []:=by
  rw [at_Plan]
  exact methAt_mk a5 l5 c5 k5 (.inl ⟨rfl,rfl⟩) (.inl ⟨rfl,rfl⟩)
 have D_Plan_form:MethAt K ((csOf w K mg).at_ "Plan") "form" "form" "Plan.form" s_Plan_form [] [] []:=by
  rw [at_Plan]
  exact methAt_mk a6 l6 c6 k6 (.inl ⟨rfl,rfl⟩) (.inl ⟨rfl,rfl⟩)
 have D_Plan_make:MethAt K ((csOf w K mg).at_ "Plan") "make" "make" "Plan.make" s_Plan_make [] ["others","refers"] [(.tup []),(.tup [])]:=by
  rw [at_Plan]
  exact methAt_mk a7 l7 c7 k7 (.inl ⟨rfl,rfl⟩) (.inr ⟨D7,[w7_0,w7_1],rfl,(.cons (by rw [u_e7_0];exact treeAt_tup (hn:=e_e7_0) l_e7_0 c_e7_0 d_e7_0 (by rw [s_e7_0];show 0≤sizeLine;decide) (by rw [s_e7_0]) .nil) (.cons (by rw [u_e7_1];exact treeAt_tup (hn:=e_e7_1) l_e7_1 c_e7_1 d_e7_1 (by rw [s_e7_1];show 0≤sizeLine;decide) (by rw [s_e7_1]) .nil) .nil)),rfl,fun q hq=>by simp only [List.zip_cons_cons,List.zip_nil_right,List.zip_nil_left,List.mem_cons,List.mem_nil_iff,or_false,List.not_mem_nil] at hq;rcases hq with rfl | rfl<;>first | exact q7_0 | exact q7_1⟩)
 have D_Plan_rules:MethAt K ((csOf w K mg).at_ "Plan") "rules" "rules" "Plan.rules" s_Plan_rules [] [] []:=by
  rw [at_Plan]
  exact methAt_mk a8 l8 c8 k8 (.inl ⟨rfl,rfl⟩) (.inl ⟨rfl,rfl⟩)
 have D_Plan_follows:MethAt K ((csOf w K mg).at_ "Plan") "follows" "follows" "Plan.follows" s_Plan_follows [] [] []:=by
  rw [at_Plan]
  exact methAt_mk a9 l9 c9 k9 (.inl ⟨rfl,rfl⟩) (.inl ⟨rfl,rfl⟩)
 have D_Plan_empty:MethAt K ((csOf w K mg).at_ "Plan") "empty" "empty" "Plan.empty" s_Plan_empty [] [] []:=by
  rw [at_Plan]
  exact methAt_mk a10 l10 c10 k10 (.inl ⟨rfl,rfl⟩) (.inl ⟨rfl,rfl⟩)
 have m11:=PySem.W.mg_of X G a11
 have D_Lpot:DefAt K mg "_law_pot" "_law_pot" s_Lpot [] [] []:=defAt_mk m11 l11 c11 k11 (.inl ⟨rfl,rfl⟩) (.inl ⟨rfl,rfl⟩)
 have m12:=PySem.W.mg_of X G a12
 have D_Ltake:DefAt K mg "_law_take" "_law_take" s_Ltake [] [] []:=defAt_mk m12 l12 c12 k12 (.inl ⟨rfl,rfl⟩) (.inl ⟨rfl,rfl⟩)
 have m13:=PySem.W.mg_of X G a13
 have D_Lsame:DefAt K mg "_law_same" "_law_same" s_Lsame [] [] []:=defAt_mk m13 l13 c13 k13 (.inl ⟨rfl,rfl⟩) (.inl ⟨rfl,rfl⟩)
 have m14:=PySem.W.mg_of X G a14
 have D_Lnames:DefAt K mg "_law_names" "_law_names" s_Lnames [] [] []:=defAt_mk m14 l14 c14 k14 (.inl ⟨rfl,rfl⟩) (.inl ⟨rfl,rfl⟩)
 have m15:=PySem.W.mg_of X G a15
 have D_Lsome:DefAt K mg "_law_some" "_law_some" s_Lsome [] [] []:=defAt_mk m15 l15 c15 k15 (.inl ⟨rfl,rfl⟩) (.inl ⟨rfl,rfl⟩)
 have m16:=PySem.W.mg_of X G a16
 have D_Lform:DefAt K mg "_law_form" "_law_form" s_Lform [] [] []:=defAt_mk m16 l16 c16 k16 (.inl ⟨rfl,rfl⟩) (.inl ⟨rfl,rfl⟩)
 have m17:=PySem.W.mg_of X G a17
 have D_Lname_fine:DefAt K mg "_law_name_fine" "_law_name_fine" s_Lname_fine [] [] []:=defAt_mk m17 l17 c17 k17 (.inl ⟨rfl,rfl⟩) (.inl ⟨rfl,rfl⟩)
 have m18:=PySem.W.mg_of X G a18
 have D_Ldue:DefAt K mg "_law_due" "_law_due" s_Ldue [] [] []:=defAt_mk m18 l18 c18 k18 (.inl ⟨rfl,rfl⟩) (.inl ⟨rfl,rfl⟩)
 have m19:=PySem.W.mg_of X G a19
 have D_Lmade_so:DefAt K mg "_law_made_so" "_law_made_so" s_Lmade_so [] [] []:=defAt_mk m19 l19 c19 k19 (.inl ⟨rfl,rfl⟩) (.inl ⟨rfl,rfl⟩)
 have m20:=PySem.W.mg_of X G a20
 have m21:=PySem.W.mg_of X G a21
 have zb_abs:=PySem.W.mg_none_of X G z_abs
 have zb_all:=PySem.W.mg_none_of X G z_all
 have zb_bool:=PySem.W.mg_none_of X G z_bool
 have zb_dict:=PySem.W.mg_none_of X G z_dict
 have zb_int:=PySem.W.mg_none_of X G z_int
 have zb_isinstance:=PySem.W.mg_none_of X G z_isinstance
 have zb_len:=PySem.W.mg_none_of X G z_len
 have zb_list:=PySem.W.mg_none_of X G z_list
 have zb_min:=PySem.W.mg_none_of X G z_min
 have zb_range:=PySem.W.mg_none_of X G z_range
 have zb_set:=PySem.W.mg_none_of X G z_set
 have zb_sorted:=PySem.W.mg_none_of X G z_sorted
 have zb_str:=PySem.W.mg_none_of X G z_str
 have zb_tuple:=PySem.W.mg_none_of X G z_tuple
 have zb_zip:=PySem.W.mg_none_of X G z_zip
 obtain ⟨v_MOST_TABLES,r1_MOST_TABLES,r2_MOST_TABLES⟩:TreeAt K (.int 6) u_MOST_TABLES:=r_MOST_TABLES
 have mc_BadColumns:=PySem.W.mg_of X G ac_BadColumns
 have at_BadColumns:(csOf w K mg).at_ "BadColumns"=C_BadColumns:=csOf_at mc_BadColumns
 have mc_BadKey:=PySem.W.mg_of X G ac_BadKey
 have at_BadKey:(csOf w K mg).at_ "BadKey"=C_BadKey:=csOf_at mc_BadKey
 have mc_BadName:=PySem.W.mg_of X G ac_BadName
 have at_BadName:(csOf w K mg).at_ "BadName"=C_BadName:=csOf_at mc_BadName
 have mc_BadRefer:=PySem.W.mg_of X G ac_BadRefer
 have at_BadRefer:(csOf w K mg).at_ "BadRefer"=C_BadRefer:=csOf_at mc_BadRefer
 have mc_FormError:=PySem.W.mg_of X G ac_FormError
 have at_FormError:(csOf w K mg).at_ "FormError"=C_FormError:=csOf_at mc_FormError
 have mc_Full:=PySem.W.mg_of X G ac_Full
 have at_Full:(csOf w K mg).at_ "Full"=C_Full:=csOf_at mc_Full
 have mc_NoTable:=PySem.W.mg_of X G ac_NoTable
 have at_NoTable:(csOf w K mg).at_ "NoTable"=C_NoTable:=csOf_at mc_NoTable
 have mc_PourError:=PySem.W.mg_of X G ac_PourError
 have at_PourError:(csOf w K mg).at_ "PourError"=C_PourError:=csOf_at mc_PourError
 have mc_Taken:=PySem.W.mg_of X G ac_Taken
 have at_Taken:(csOf w K mg).at_ "Taken"=C_Taken:=csOf_at mc_Taken
 have T:Top w K mg:=⟨D_is_name,
  D_are_columns,
  D_is_part,
  D_Form_init,
  D_Plan_init,
  D_Plan_tables,
  D_Plan_form,
  D_Plan_make,
  D_Plan_rules,
  D_Plan_follows,
  D_Plan_empty,
  D_Lpot,
  D_Ltake,
  D_Lsame,
  D_Lnames,
  D_Lsome,
  D_Lform,
  D_Lname_fine,
  D_Ldue,
  D_Lmade_so,
  ⟨by rw [at_Form];exact mc_Form,by rw [at_Form];exact ⟨pg_Form,hd_Form,po_Form,sa_Form⟩,by rw [at_Form];exact mk_Form,by rw [at_Form];exact kp_Form⟩,
  (fun f hf=>by rw [at_Form,a3] at hf;cases hf;exact fn3),
  ⟨by rw [at_Plan];exact mc_Plan,by rw [at_Plan];exact ⟨pg_Plan,hd_Plan,po_Plan,sa_Plan⟩,by rw [at_Plan];exact mk_Plan,by rw [at_Plan];exact kp_Plan⟩,
  (fun f hf=>by rw [at_Plan,a4] at hf;cases hf;exact fn4),
  (by rw [at_Form];exact na_Form_columns),
  (by rw [at_Form];exact na_Form_key),
  (by rw [at_Form];exact na_Form_others),
  (by rw [at_Form];exact na_Form_refers),
  (by rw [at_Form];exact na_Form_tables),
  (by rw [at_Plan];exact na_Plan_above),
  (by rw [at_Plan];exact na_Plan_below),
  (by rw [at_Plan];exact na_Plan_forms),
  (fun f hf=>by rw [at_Plan,a5] at hf;cases hf;exact fn5),
  (fun f hf=>by rw [at_Plan,a6] at hf;cases hf;exact fn6),
  (fun f hf=>by rw [at_Plan,a7] at hf;cases hf;exact fn7),
  (fun f hf=>by rw [at_Plan,a8] at hf;cases hf;exact fn8),
  (fun f hf=>by rw [at_Plan,a9] at hf;cases hf;exact fn9),
  (fun f hf=>by rw [at_Plan,a10] at hf;cases hf;exact fn10),
  zb_abs,
  zb_all,
  zb_bool,
  zb_dict,
  zb_int,
  zb_isinstance,
  zb_len,
  zb_list,
  zb_min,
  zb_range,
  zb_set,
  zb_sorted,
  zb_str,
  zb_tuple,
  zb_zip,
  ⟨u_MOST_TABLES,v_MOST_TABLES,PySem.W.mg_of X G g_MOST_TABLES,r1_MOST_TABLES,r2_MOST_TABLES⟩,
  ⟨by rw [at_FormError];exact mc_FormError,by rw [at_FormError];exact vs_FormError,by rw [at_FormError];exact vr_FormError,by rw [at_FormError];exact vf_FormError⟩,
  (by rw [at_BadName];exact methAt_mk xa_BadName xm_BadName xc_BadName xp_BadName (.inl ⟨rfl,rfl⟩) (.inl ⟨rfl,rfl⟩)),
  ⟨by rw [at_BadName];exact mc_BadName,by rw [at_BadName];exact oex_mk xl_BadName rv_BadName xs_BadName xb_BadName xt_BadName xk_BadName,by rw [at_BadName];exact xn_BadName,fun fI h=>by rw [at_BadName,xa_BadName] at h;cases h;exact xf_BadName⟩,
  (by rw [at_NoTable];exact methAt_mk xa_NoTable xm_NoTable xc_NoTable xp_NoTable (.inl ⟨rfl,rfl⟩) (.inl ⟨rfl,rfl⟩)),
  ⟨by rw [at_NoTable];exact mc_NoTable,by rw [at_NoTable];exact oex_mk xl_NoTable rv_NoTable xs_NoTable xb_NoTable xt_NoTable xk_NoTable,by rw [at_NoTable];exact xn_NoTable,fun fI h=>by rw [at_NoTable,xa_NoTable] at h;cases h;exact xf_NoTable⟩,
  (by rw [at_Taken];exact methAt_mk xa_Taken xm_Taken xc_Taken xp_Taken (.inl ⟨rfl,rfl⟩) (.inl ⟨rfl,rfl⟩)),
  ⟨by rw [at_Taken];exact mc_Taken,by rw [at_Taken];exact oex_mk xl_Taken rv_Taken xs_Taken xb_Taken xt_Taken xk_Taken,by rw [at_Taken];exact xn_Taken,fun fI h=>by rw [at_Taken,xa_Taken] at h;cases h;exact xf_Taken⟩,
  (by rw [at_BadName];exact ⟨ga_BadName,gg_BadName,xb_BadName,gd_BadName⟩),
  (by rw [at_BadName];exact gf_BadName_name),
  (by rw [at_Taken];exact ⟨ga_Taken,gg_Taken,xb_Taken,gd_Taken⟩),
  (by rw [at_Taken];exact gf_Taken_name),
  (by rw [at_NoTable];exact ⟨ga_NoTable,gg_NoTable,xb_NoTable,gd_NoTable⟩),
  (by rw [at_NoTable];exact gf_NoTable_name),
  ⟨by rw [at_BadColumns];exact xx_BadColumns,by rw [at_BadColumns];exact mc_BadColumns,by rw [at_BadColumns];exact xk_BadColumns,by rw [at_BadColumns];exact xb_BadColumns,by rw [at_BadColumns];exact xt_BadColumns⟩,
  ⟨by rw [at_BadKey];exact xx_BadKey,by rw [at_BadKey];exact mc_BadKey,by rw [at_BadKey];exact xk_BadKey,by rw [at_BadKey];exact xb_BadKey,by rw [at_BadKey];exact xt_BadKey⟩,
  ⟨by rw [at_BadRefer];exact xx_BadRefer,by rw [at_BadRefer];exact mc_BadRefer,by rw [at_BadRefer];exact xk_BadRefer,by rw [at_BadRefer];exact xb_BadRefer,by rw [at_BadRefer];exact xt_BadRefer⟩,
  ⟨by rw [at_Full];exact xx_Full,by rw [at_Full];exact mc_Full,by rw [at_Full];exact xk_Full,by rw [at_Full];exact xb_Full,by rw [at_Full];exact xt_Full⟩,
  (by rw [at_BadName];exact mc_BadName),
  (by rw [at_Taken];exact mc_Taken),
  (by rw [at_Full];exact mc_Full),
  (by rw [at_BadColumns];exact mc_BadColumns),
  (by rw [at_BadKey];exact mc_BadKey),
  (by rw [at_BadRefer];exact mc_BadRefer),
  (by rw [at_NoTable];exact mc_NoTable),
  (by rw [at_PourError];exact mc_PourError),
  ⟨by rw [at_BadColumns,at_BadName];exact exm_mk xb_BadName xi_BadName xt_BadName s_BadColumns_BadName,by rw [at_BadColumns,at_Taken];exact exm_mk xb_Taken xi_Taken xt_Taken s_BadColumns_Taken,by rw [at_BadColumns,at_Full];exact exm_mk xb_Full xi_Full xt_Full s_BadColumns_Full,by rw [at_BadColumns];exact exm_mk xb_BadColumns xi_BadColumns xt_BadColumns s_BadColumns_BadColumns,by rw [at_BadColumns,at_BadKey];exact exm_mk xb_BadKey xi_BadKey xt_BadKey s_BadColumns_BadKey,by rw [at_BadColumns,at_BadRefer];exact exm_mk xb_BadRefer xi_BadRefer xt_BadRefer s_BadColumns_BadRefer,by rw [at_BadColumns,at_NoTable];exact exm_mk xb_NoTable xi_NoTable xt_NoTable s_BadColumns_NoTable,by rw [at_BadColumns,at_PourError];exact exm_mk xb_PourError xi_PourError xt_PourError s_BadColumns_PourError,by rw [at_BadKey,at_BadName];exact exm_mk xb_BadName xi_BadName xt_BadName s_BadKey_BadName,by rw [at_BadKey,at_Taken];exact exm_mk xb_Taken xi_Taken xt_Taken s_BadKey_Taken,by rw [at_BadKey,at_Full];exact exm_mk xb_Full xi_Full xt_Full s_BadKey_Full,by rw [at_BadKey,at_BadColumns];exact exm_mk xb_BadColumns xi_BadColumns xt_BadColumns s_BadKey_BadColumns,by rw [at_BadKey];exact exm_mk xb_BadKey xi_BadKey xt_BadKey s_BadKey_BadKey,by rw [at_BadKey,at_BadRefer];exact exm_mk xb_BadRefer xi_BadRefer xt_BadRefer s_BadKey_BadRefer,by rw [at_BadKey,at_NoTable];exact exm_mk xb_NoTable xi_NoTable xt_NoTable s_BadKey_NoTable,by rw [at_BadKey,at_PourError];exact exm_mk xb_PourError xi_PourError xt_PourError s_BadKey_PourError,by rw [at_BadName];exact exm_mk xb_BadName xi_BadName xt_BadName s_BadName_BadName,by rw [at_BadName,at_Taken];exact exm_mk xb_Taken xi_Taken xt_Taken s_BadName_Taken,by rw [at_BadName,at_Full];exact exm_mk xb_Full xi_Full xt_Full s_BadName_Full,by rw [at_BadName,at_BadColumns];exact exm_mk xb_BadColumns xi_BadColumns xt_BadColumns s_BadName_BadColumns,by rw [at_BadName,at_BadKey];exact exm_mk xb_BadKey xi_BadKey xt_BadKey s_BadName_BadKey,by rw [at_BadName,at_BadRefer];exact exm_mk xb_BadRefer xi_BadRefer xt_BadRefer s_BadName_BadRefer,by rw [at_BadName,at_NoTable];exact exm_mk xb_NoTable xi_NoTable xt_NoTable s_BadName_NoTable,by rw [at_BadName,at_PourError];exact exm_mk xb_PourError xi_PourError xt_PourError s_BadName_PourError,by rw [at_BadRefer,at_BadName];exact exm_mk xb_BadName xi_BadName xt_BadName s_BadRefer_BadName,by rw [at_BadRefer,at_Taken];exact exm_mk xb_Taken xi_Taken xt_Taken s_BadRefer_Taken,by rw [at_BadRefer,at_Full];exact exm_mk xb_Full xi_Full xt_Full s_BadRefer_Full,by rw [at_BadRefer,at_BadColumns];exact exm_mk xb_BadColumns xi_BadColumns xt_BadColumns s_BadRefer_BadColumns,by rw [at_BadRefer,at_BadKey];exact exm_mk xb_BadKey xi_BadKey xt_BadKey s_BadRefer_BadKey,by rw [at_BadRefer];exact exm_mk xb_BadRefer xi_BadRefer xt_BadRefer s_BadRefer_BadRefer,by rw [at_BadRefer,at_NoTable];exact exm_mk xb_NoTable xi_NoTable xt_NoTable s_BadRefer_NoTable,by rw [at_BadRefer,at_PourError];exact exm_mk xb_PourError xi_PourError xt_PourError s_BadRefer_PourError,by rw [at_Full,at_BadName];exact exm_mk xb_BadName xi_BadName xt_BadName s_Full_BadName,by rw [at_Full,at_Taken];exact exm_mk xb_Taken xi_Taken xt_Taken s_Full_Taken,by rw [at_Full];exact exm_mk xb_Full xi_Full xt_Full s_Full_Full,by rw [at_Full,at_BadColumns];exact exm_mk xb_BadColumns xi_BadColumns xt_BadColumns s_Full_BadColumns,by rw [at_Full,at_BadKey];exact exm_mk xb_BadKey xi_BadKey xt_BadKey s_Full_BadKey,by rw [at_Full,at_BadRefer];exact exm_mk xb_BadRefer xi_BadRefer xt_BadRefer s_Full_BadRefer,by rw [at_Full,at_NoTable];exact exm_mk xb_NoTable xi_NoTable xt_NoTable s_Full_NoTable,by rw [at_Full,at_PourError];exact exm_mk xb_PourError xi_PourError xt_PourError s_Full_PourError,by rw [at_NoTable,at_BadName];exact exm_mk xb_BadName xi_BadName xt_BadName s_NoTable_BadName,by rw [at_NoTable,at_Taken];exact exm_mk xb_Taken xi_Taken xt_Taken s_NoTable_Taken,by rw [at_NoTable,at_Full];exact exm_mk xb_Full xi_Full xt_Full s_NoTable_Full,by rw [at_NoTable,at_BadColumns];exact exm_mk xb_BadColumns xi_BadColumns xt_BadColumns s_NoTable_BadColumns,by rw [at_NoTable,at_BadKey];exact exm_mk xb_BadKey xi_BadKey xt_BadKey s_NoTable_BadKey,by rw [at_NoTable,at_BadRefer];exact exm_mk xb_BadRefer xi_BadRefer xt_BadRefer s_NoTable_BadRefer,by rw [at_NoTable];exact exm_mk xb_NoTable xi_NoTable xt_NoTable s_NoTable_NoTable,by rw [at_NoTable,at_PourError];exact exm_mk xb_PourError xi_PourError xt_PourError s_NoTable_PourError,by rw [at_Taken,at_BadName];exact exm_mk xb_BadName xi_BadName xt_BadName s_Taken_BadName,by rw [at_Taken];exact exm_mk xb_Taken xi_Taken xt_Taken s_Taken_Taken,by rw [at_Taken,at_Full];exact exm_mk xb_Full xi_Full xt_Full s_Taken_Full,by rw [at_Taken,at_BadColumns];exact exm_mk xb_BadColumns xi_BadColumns xt_BadColumns s_Taken_BadColumns,by rw [at_Taken,at_BadKey];exact exm_mk xb_BadKey xi_BadKey xt_BadKey s_Taken_BadKey,by rw [at_Taken,at_BadRefer];exact exm_mk xb_BadRefer xi_BadRefer xt_BadRefer s_Taken_BadRefer,by rw [at_Taken,at_NoTable];exact exm_mk xb_NoTable xi_NoTable xt_NoTable s_Taken_NoTable,by rw [at_Taken,at_PourError];exact exm_mk xb_PourError xi_PourError xt_PourError s_Taken_PourError⟩⟩
 have e:=hfa.symm.trans m21
 cases e
 have nd:(([(PL21,(("law"++".<locals>.":Str)++"<lambda>":Str))]:List (Addr×Str)).map (·.1)).Nodup:=ndP
 have F_why:=fun_mk (st:=s_Lwhy) l20 c20 k20
 have b_why:=F_why.binds (ps:=["_law_act"]) fun _ _ _ _ _ _ us hl=>match us,hl with | [_],_=>rfl
 refine ⟨PySem.W.fnOf "law" "law" (defArgs s_law) (defBody s_law) (defScope s_law) .none kV21 dc21 pm21 an21 (.ref cL21) ct21,[(cL21,PL21)],spLawU K [(PL21,(("law"++".<locals>.":Str)++"<lambda>":Str))],fun p hp=> ?_,fun p hp=> ?_,fun p hp=> ?_,fun s v=>.of_eq rfl,fun H a ns _ _ hT hS=>⟨a,ns,rfl,hS,fun q hp=> ?_,fun _=>rfl⟩,fun base _ _ TB=>ok_law T base (law_plain _ T.cs (dist_Form_Plan T)) ⟨⟨f20,_,_,_,_,_,_,_,_,_,_,m20,k20,l20,c20,b_why⟩⟩ l21 c21 (TB (cL21,PL21) (by simp)) (by simp) (tab_one nd (p:=(PL21,(("law"++".<locals>.":Str)++"<lambda>":Str))) (by simp))⟩
 · simp only [List.mem_cons,List.not_mem_nil,or_false] at hp;rcases hp with rfl<;>first | exact tb21
 · simp only [List.mem_cons,List.not_mem_nil,or_false] at hp;rcases hp with rfl<;>first | exact no_of_type tP21
 · simp only [List.mem_cons,List.not_mem_nil,or_false] at hp;rcases hp with rfl
   · exact ⟨_,vsc21,file21,tf21,flags21,tg21,inF21,text21,tt21,X _ _ lc21,rfl,rfl,v11_21,(by rw [Array.getD_eq_getD_getElem?,v11_21];rfl),v18_21,v7_21,v9_21,v10_21,fun (z:cL21=PL21)=>by rw [z] at ncP21;simp at ncP21⟩
 · simp only [List.mem_cons,List.not_mem_nil,or_false] at hp;rcases hp with rfl<;>first | exact hT (cL21,PL21) (by simp)
theorem walkL {l:PySem.W.OpenLaw} {q:Program} {loose:List Str} {XP:(Str→Option Value)→Heap→Prop} {YP:World→Heap→Prop} {d:DefRec} {K:Params→PySem.W.Frag} (hn:l.most=some 63) (hdf:d.params.defaults=[])
 (hY:∀(w:World) (h:Heap),YP w h→(K w.params).In h)
 (F:∀(w:World) (mg:Str→Option Value) (fa:Addr) (h:Heap),YP w h→(K w.params).In h→h.Ns mainGlobals mg→mg d.name=some (.ref fa)→LamX.LawAtS l w (K w.params) CX0 14 63 "_law_script" mg fa h):
 PySem.W.WalkO q loose XP YP l.row.toRowW d [] (fun f vs=>PySem.call f vs):=
 LamX.walk_ofTs (n:=63) (k:=14) (x:="_law_script") (CX:=fun _=>CX0) hn (by decide) hdf ⟨rfl,by decide,by decide⟩ hY F fun _ _ _ _ _ z=>z
end Law
open PySem PySem.W PyProof.Rows
set_option maxRecDepth 100000 in
set_option maxHeartbeats 0 in
theorem PySem.Challenge.cw_onepour_k24_tables_of_a_plan_holds : PySem.Challenge.rw_onepour_k24_tables_of_a_plan.Holds := by
 w_on;o_law;k_head;(case hw=>w_witness2)
 k_fill
 refine Law.walkL (l:=PySem.Challenge.rw_onepour_k24_tables_of_a_plan) rfl rfl (fun w h Y=>PySem.W.km_in_of Y) ?F
 case F=>
  intro w mg fa h Y KX G hmg
  refine' Law.all_mk KX G hmg ?ac_Form ?pg_Form ?hd_Form ?po_Form ?sa_Form ?mk_Form ?kp_Form ?ac_Plan ?pg_Plan ?hd_Plan ?po_Plan ?sa_Plan ?mk_Plan ?kp_Plan ?na_Form_columns ?na_Form_key ?na_Form_others ?na_Form_refers ?na_Form_tables ?na_Plan_above ?na_Plan_below ?na_Plan_forms ?a0 ?l0 ?c0 ?k0 ?a1 ?l1 ?c1 ?k1 ?t1 ?td1 ?ts1 ?y1_0 ?a2 ?l2 ?c2 ?k2 ?a3 ?l3 ?c3 ?k3 ?q3_0 ?u_e3_0 ?l_e3_0 ?c_e3_0 ?e_e3_0 ?d_e3_0 ?s_e3_0 ?q3_1 ?u_e3_1 ?l_e3_1 ?c_e3_1 ?e_e3_1 ?d_e3_1 ?s_e3_1 ?fn3 ?a4 ?l4 ?c4 ?k4 ?fn4 ?a5 ?l5 ?c5 ?k5 ?fn5 ?a6 ?l6 ?c6 ?k6 ?fn6 ?a7 ?l7 ?c7 ?k7 ?q7_0 ?u_e7_0 ?l_e7_0 ?c_e7_0 ?e_e7_0 ?d_e7_0 ?s_e7_0 ?q7_1 ?u_e7_1 ?l_e7_1 ?c_e7_1 ?e_e7_1 ?d_e7_1 ?s_e7_1 ?fn7 ?a8 ?l8 ?c8 ?k8 ?fn8 ?a9 ?l9 ?c9 ?k9 ?fn9 ?a10 ?l10 ?c10 ?k10 ?fn10 ?a11 ?l11 ?c11 ?k11 ?a12 ?l12 ?c12 ?k12 ?a13 ?l13 ?c13 ?k13 ?a14 ?l14 ?c14 ?k14 ?a15 ?l15 ?c15 ?k15 ?a16 ?l16 ?c16 ?k16 ?a17 ?l17 ?c17 ?k17 ?a18 ?l18 ?c18 ?k18 ?a19 ?l19 ?c19 ?k19 ?a20 ?l20 ?c20 ?k20 ?a21 ?l21 ?c21 ?k21 ?z_abs ?z_all ?z_bool ?z_dict ?z_int ?z_isinstance ?z_len ?z_list ?z_min ?z_range ?z_set ?z_sorted ?z_str ?z_tuple ?z_zip ?g_MOST_TABLES ?r_MOST_TABLES ?ac_BadColumns ?xb_BadColumns ?xt_BadColumns ?xx_BadColumns ?xk_BadColumns ?xi_BadColumns ?ac_BadKey ?xb_BadKey ?xt_BadKey ?xx_BadKey ?xk_BadKey ?xi_BadKey ?ac_BadName ?xb_BadName ?xt_BadName ?xl_BadName ?rv_BadName ?xk_BadName ?xs_BadName ?xn_BadName ?xa_BadName ?xm_BadName ?xc_BadName ?xp_BadName ?xf_BadName ?ga_BadName ?gg_BadName ?gd_BadName ?gf_BadName_name ?xi_BadName ?ac_BadRefer ?xb_BadRefer ?xt_BadRefer ?xx_BadRefer ?xk_BadRefer ?xi_BadRefer ?ac_FormError ?xb_FormError ?xt_FormError ?vs_FormError ?vr_FormError ?vf_FormError ?ac_Full ?xb_Full ?xt_Full ?xx_Full ?xk_Full ?xi_Full ?ac_NoTable ?xb_NoTable ?xt_NoTable ?xl_NoTable ?rv_NoTable ?xk_NoTable ?xs_NoTable ?xn_NoTable ?xa_NoTable ?xm_NoTable ?xc_NoTable ?xp_NoTable ?xf_NoTable ?ga_NoTable ?gg_NoTable ?gd_NoTable ?gf_NoTable_name ?xi_NoTable ?ac_PourError ?xb_PourError ?xt_PourError ?xi_PourError ?ac_Taken ?xb_Taken ?xt_Taken ?xl_Taken ?rv_Taken ?xk_Taken ?xs_Taken ?xn_Taken ?xa_Taken ?xm_Taken ?xc_Taken ?xp_Taken ?xf_Taken ?ga_Taken ?gg_Taken ?gd_Taken ?gf_Taken_name ?xi_Taken ?s_BadColumns_BadName ?s_BadColumns_Taken ?s_BadColumns_Full ?s_BadColumns_BadColumns ?s_BadColumns_BadKey ?s_BadColumns_BadRefer ?s_BadColumns_NoTable ?s_BadColumns_PourError ?s_BadKey_BadName ?s_BadKey_Taken ?s_BadKey_Full ?s_BadKey_BadColumns ?s_BadKey_BadKey ?s_BadKey_BadRefer ?s_BadKey_NoTable ?s_BadKey_PourError ?s_BadName_BadName ?s_BadName_Taken ?s_BadName_Full ?s_BadName_BadColumns ?s_BadName_BadKey ?s_BadName_BadRefer ?s_BadName_NoTable ?s_BadName_PourError ?s_BadRefer_BadName ?s_BadRefer_Taken ?s_BadRefer_Full ?s_BadRefer_BadColumns ?s_BadRefer_BadKey ?s_BadRefer_BadRefer ?s_BadRefer_NoTable ?s_BadRefer_PourError ?s_Full_BadName ?s_Full_Taken ?s_Full_Full ?s_Full_BadColumns ?s_Full_BadKey ?s_Full_BadRefer ?s_Full_NoTable ?s_Full_PourError ?s_NoTable_BadName ?s_NoTable_Taken ?s_NoTable_Full ?s_NoTable_BadColumns ?s_NoTable_BadKey ?s_NoTable_BadRefer ?s_NoTable_NoTable ?s_NoTable_PourError ?s_Taken_BadName ?s_Taken_Taken ?s_Taken_Full ?s_Taken_BadColumns ?s_Taken_BadKey ?s_Taken_BadRefer ?s_Taken_NoTable ?s_Taken_PourError ?lc21 ?v11_21 ?v18_21 ?v7_21 ?v9_21 ?v10_21 ?ncP21 ?tP21 ?tb21 ?ndP
  (case ac_Form=>k_is)
  (case pg_Form=>k_is)
  (case hd_Form=>k_is)
  (case po_Form=>k_is)
  (case sa_Form=>k_is)
  (case mk_Form=>k_is)
  (case kp_Form=>k_is)
  (case ac_Plan=>k_is)
  (case pg_Plan=>k_is)
  (case hd_Plan=>k_is)
  (case po_Plan=>k_is)
  (case sa_Plan=>k_is)
  (case mk_Plan=>k_is)
  (case kp_Plan=>k_is)
  (case na_Form_columns=>k_is)
  (case na_Form_key=>k_is)
  (case na_Form_others=>k_is)
  (case na_Form_refers=>k_is)
  (case na_Form_tables=>k_is)
  (case na_Plan_above=>k_is)
  (case na_Plan_below=>k_is)
  (case na_Plan_forms=>k_is)
  (case a0=>k_is)
  (case l0=>k_is)
  (case c0=>k_is)
  (case k0=>k_is)
  (case a1=>k_is)
  (case l1=>k_is)
  (case c1=>k_is)
  (case k1=>k_is)
  (case t1=>k_is)
  (case td1=>rfl)
  (case ts1=>rfl)
  (case y1_0=>exact M3.treeAt_int)
  (case a2=>k_is)
  (case l2=>k_is)
  (case c2=>k_is)
  (case k2=>k_is)
  (case a3=>k_is)
  (case l3=>k_is)
  (case c3=>k_is)
  (case k3=>k_is)
  (case q3_0=>k_is)
  (case u_e3_0=>rfl)
  (case l_e3_0=>k_is)
  (case c_e3_0=>rfl)
  (case e_e3_0=>rfl)
  (case d_e3_0=>rfl)
  (case s_e3_0=>rfl)
  (case q3_1=>k_is)
  (case u_e3_1=>rfl)
  (case l_e3_1=>k_is)
  (case c_e3_1=>rfl)
  (case e_e3_1=>rfl)
  (case d_e3_1=>rfl)
  (case s_e3_1=>rfl)
  (case fn3=>k_is)
  (case a4=>k_is)
  (case l4=>k_is)
  (case c4=>k_is)
  (case k4=>k_is)
  (case fn4=>k_is)
  (case a5=>k_is)
  (case l5=>k_is)
  (case c5=>k_is)
  (case k5=>k_is)
  (case fn5=>k_is)
  (case a6=>k_is)
  (case l6=>k_is)
  (case c6=>k_is)
  (case k6=>k_is)
  (case fn6=>k_is)
  (case a7=>k_is)
  (case l7=>k_is)
  (case c7=>k_is)
  (case k7=>k_is)
  (case q7_0=>k_is)
  (case u_e7_0=>rfl)
  (case l_e7_0=>k_is)
  (case c_e7_0=>rfl)
  (case e_e7_0=>rfl)
  (case d_e7_0=>rfl)
  (case s_e7_0=>rfl)
  (case q7_1=>k_is)
  (case u_e7_1=>rfl)
  (case l_e7_1=>k_is)
  (case c_e7_1=>rfl)
  (case e_e7_1=>rfl)
  (case d_e7_1=>rfl)
  (case s_e7_1=>rfl)
  (case fn7=>k_is)
  (case a8=>k_is)
  (case l8=>k_is)
  (case c8=>k_is)
  (case k8=>k_is)
  (case fn8=>k_is)
  (case a9=>k_is)
  (case l9=>k_is)
  (case c9=>k_is)
  (case k9=>k_is)
  (case fn9=>k_is)
  (case a10=>k_is)
  (case l10=>k_is)
  (case c10=>k_is)
  (case k10=>k_is)
  (case fn10=>k_is)
  (case a11=>k_is)
  (case l11=>k_is)
  (case c11=>k_is)
  (case k11=>k_is)
  (case a12=>k_is)
  (case l12=>k_is)
  (case c12=>k_is)
  (case k12=>k_is)
  (case a13=>k_is)
  (case l13=>k_is)
  (case c13=>k_is)
  (case k13=>k_is)
  (case a14=>k_is)
  (case l14=>k_is)
  (case c14=>k_is)
  (case k14=>k_is)
  (case a15=>k_is)
  (case l15=>k_is)
  (case c15=>k_is)
  (case k15=>k_is)
  (case a16=>k_is)
  (case l16=>k_is)
  (case c16=>k_is)
  (case k16=>k_is)
  (case a17=>k_is)
  (case l17=>k_is)
  (case c17=>k_is)
  (case k17=>k_is)
  (case a18=>k_is)
  (case l18=>k_is)
  (case c18=>k_is)
  (case k18=>k_is)
  (case a19=>k_is)
  (case l19=>k_is)
  (case c19=>k_is)
  (case k19=>k_is)
  (case a20=>k_is)
  (case l20=>k_is)
  (case c20=>k_is)
  (case k20=>k_is)
  (case a21=>k_is)
  (case l21=>k_is)
  (case c21=>k_is)
  (case k21=>k_is)
  (case z_abs=>k_is)
  (case z_all=>k_is)
  (case z_bool=>k_is)
  (case z_dict=>k_is)
  (case z_int=>k_is)
  (case z_isinstance=>k_is)
  (case z_len=>k_is)
  (case z_list=>k_is)
  (case z_min=>k_is)
  (case z_range=>k_is)
  (case z_set=>k_is)
  (case z_sorted=>k_is)
  (case z_str=>k_is)
  (case z_tuple=>k_is)
  (case z_zip=>k_is)
  (case g_MOST_TABLES=>k_is)
  (case r_MOST_TABLES=>exact M3.treeAt_int)
  (case ac_BadColumns=>k_is)
  (case xb_BadColumns=>k_is)
  (case xt_BadColumns=>k_is)
  (case xx_BadColumns=>k_exc)
  (case xk_BadColumns=>k_is)
  (case xi_BadColumns=>k_is)
  (case ac_BadKey=>k_is)
  (case xb_BadKey=>k_is)
  (case xt_BadKey=>k_is)
  (case xx_BadKey=>k_exc)
  (case xk_BadKey=>k_is)
  (case xi_BadKey=>k_is)
  (case ac_BadName=>k_is)
  (case xb_BadName=>k_is)
  (case xt_BadName=>k_is)
  (case xl_BadName=>k_is)
  (case rv_BadName=>decide +kernel)
  (case xk_BadName=>k_is)
  (case xs_BadName=>k_is)
  (case xn_BadName=>k_is)
  (case xa_BadName=>k_is)
  (case xm_BadName=>k_is)
  (case xc_BadName=>k_is)
  (case xp_BadName=>k_is)
  (case xf_BadName=>k_is)
  (case ga_BadName=>k_is)
  (case gg_BadName=>k_is)
  (case gd_BadName=>k_is)
  (case gf_BadName_name=>k_is)
  (case xi_BadName=>k_is)
  (case ac_BadRefer=>k_is)
  (case xb_BadRefer=>k_is)
  (case xt_BadRefer=>k_is)
  (case xx_BadRefer=>k_exc)
  (case xk_BadRefer=>k_is)
  (case xi_BadRefer=>k_is)
  (case ac_FormError=>k_is)
  (case xb_FormError=>k_is)
  (case xt_FormError=>k_is)
  (case vs_FormError=>k_is)
  (case vr_FormError=>k_is)
  (case vf_FormError=>k_is)
  (case ac_Full=>k_is)
  (case xb_Full=>k_is)
  (case xt_Full=>k_is)
  (case xx_Full=>k_exc)
  (case xk_Full=>k_is)
  (case xi_Full=>k_is)
  (case ac_NoTable=>k_is)
  (case xb_NoTable=>k_is)
  (case xt_NoTable=>k_is)
  (case xl_NoTable=>k_is)
  (case rv_NoTable=>decide +kernel)
  (case xk_NoTable=>k_is)
  (case xs_NoTable=>k_is)
  (case xn_NoTable=>k_is)
  (case xa_NoTable=>k_is)
  (case xm_NoTable=>k_is)
  (case xc_NoTable=>k_is)
  (case xp_NoTable=>k_is)
  (case xf_NoTable=>k_is)
  (case ga_NoTable=>k_is)
  (case gg_NoTable=>k_is)
  (case gd_NoTable=>k_is)
  (case gf_NoTable_name=>k_is)
  (case xi_NoTable=>k_is)
  (case ac_PourError=>k_is)
  (case xb_PourError=>k_is)
  (case xt_PourError=>k_is)
  (case xi_PourError=>k_is)
  (case ac_Taken=>k_is)
  (case xb_Taken=>k_is)
  (case xt_Taken=>k_is)
  (case xl_Taken=>k_is)
  (case rv_Taken=>decide +kernel)
  (case xk_Taken=>k_is)
  (case xs_Taken=>k_is)
  (case xn_Taken=>k_is)
  (case xa_Taken=>k_is)
  (case xm_Taken=>k_is)
  (case xc_Taken=>k_is)
  (case xp_Taken=>k_is)
  (case xf_Taken=>k_is)
  (case ga_Taken=>k_is)
  (case gg_Taken=>k_is)
  (case gd_Taken=>k_is)
  (case gf_Taken_name=>k_is)
  (case xi_Taken=>k_is)
  (case s_BadColumns_BadName=>first | rfl | k_is)
  (case s_BadColumns_Taken=>first | rfl | k_is)
  (case s_BadColumns_Full=>first | rfl | k_is)
  (case s_BadColumns_BadColumns=>first | rfl | k_is)
  (case s_BadColumns_BadKey=>first | rfl | k_is)
  (case s_BadColumns_BadRefer=>first | rfl | k_is)
  (case s_BadColumns_NoTable=>first | rfl | k_is)
  (case s_BadColumns_PourError=>first | rfl | k_is)
  (case s_BadKey_BadName=>first | rfl | k_is)
  (case s_BadKey_Taken=>first | rfl | k_is)
  (case s_BadKey_Full=>first | rfl | k_is)
  (case s_BadKey_BadColumns=>first | rfl | k_is)
  (case s_BadKey_BadKey=>first | rfl | k_is)
  (case s_BadKey_BadRefer=>first | rfl | k_is)
  (case s_BadKey_NoTable=>first | rfl | k_is)
  (case s_BadKey_PourError=>first | rfl | k_is)
  (case s_BadName_BadName=>first | rfl | k_is)
  (case s_BadName_Taken=>first | rfl | k_is)
  (case s_BadName_Full=>first | rfl | k_is)
  (case s_BadName_BadColumns=>first | rfl | k_is)
  (case s_BadName_BadKey=>first | rfl | k_is)
  (case s_BadName_BadRefer=>first | rfl | k_is)
  (case s_BadName_NoTable=>first | rfl | k_is)
  (case s_BadName_PourError=>first | rfl | k_is)
  (case s_BadRefer_BadName=>first | rfl | k_is)
  (case s_BadRefer_Taken=>first | rfl | k_is)
  (case s_BadRefer_Full=>first | rfl | k_is)
  (case s_BadRefer_BadColumns=>first | rfl | k_is)
  (case s_BadRefer_BadKey=>first | rfl | k_is)
  (case s_BadRefer_BadRefer=>first | rfl | k_is)
  (case s_BadRefer_NoTable=>first | rfl | k_is)
  (case s_BadRefer_PourError=>first | rfl | k_is)
  (case s_Full_BadName=>first | rfl | k_is)
  (case s_Full_Taken=>first | rfl | k_is)
  (case s_Full_Full=>first | rfl | k_is)
  (case s_Full_BadColumns=>first | rfl | k_is)
  (case s_Full_BadKey=>first | rfl | k_is)
  (case s_Full_BadRefer=>first | rfl | k_is)
  (case s_Full_NoTable=>first | rfl | k_is)
  (case s_Full_PourError=>first | rfl | k_is)
  (case s_NoTable_BadName=>first | rfl | k_is)
  (case s_NoTable_Taken=>first | rfl | k_is)
  (case s_NoTable_Full=>first | rfl | k_is)
  (case s_NoTable_BadColumns=>first | rfl | k_is)
  (case s_NoTable_BadKey=>first | rfl | k_is)
  (case s_NoTable_BadRefer=>first | rfl | k_is)
  (case s_NoTable_NoTable=>first | rfl | k_is)
  (case s_NoTable_PourError=>first | rfl | k_is)
  (case s_Taken_BadName=>first | rfl | k_is)
  (case s_Taken_Taken=>first | rfl | k_is)
  (case s_Taken_Full=>first | rfl | k_is)
  (case s_Taken_BadColumns=>first | rfl | k_is)
  (case s_Taken_BadKey=>first | rfl | k_is)
  (case s_Taken_BadRefer=>first | rfl | k_is)
  (case s_Taken_NoTable=>first | rfl | k_is)
  (case s_Taken_PourError=>first | rfl | k_is)
  (case lc21=>k_is)
  (case v11_21=>rfl)
  (case v18_21=>rfl)
  (case v7_21=>rfl)
  (case v9_21=>rfl)
  (case v10_21=>rfl)
  (case ncP21=>decide +kernel)
  (case tP21=>k_is)
  (case tb21=>exact PySem.W.km_tabs_of Y _ (by k_mem))
  (case ndP=>decide +kernel)
#print axioms PySem.Challenge.cw_onepour_k24_tables_of_a_plan_holds
