import PyProof.Rows.All
import Wide.All
import OpenK.AllK
import Wide.FinOn
import HandS.ForMost
import HandS.Wide
import HandS.IsInst
import HandS.Defaults
import HandS.EndBits
import HandS.Exc
import HandS.Flow
import HandS.TupAny
import HandS.TupMul
import HandS.Zip
import HandS.Lambda
import KE.KDictKeyed
import HandS.Style
import HandS.TryMany
import HandS.ExcOwn
import HandS.WordsExc
import HandS.EndOwn
import HandS.Deep
import HandS.MakeKwOnly
import HandS.MakeKw
import KE.KUnpackStar
import KE.DataCmp
import HandS.ExcValue
import PyProof.Rows.TupIter
import HandS.Strs
import KE.KDictZip
import KE.GoesZip
import KE.GoesMore
import HandS.More
import HandS.ExcInit
import HandS.ExcField
import HandS.FStr
import KE.KDflt
import KE.KDictPairs
import HandS.CallLocal
import HandS.ReCall
import PyProof.FactsAll.tuple_2
import PyProof.FactsAll.tuple_3
import KE.KEqNest
import PyProof.NeKinds
import HandS.DictComp
import KE.DataMinMax
import HandS.SortKw
import HandS.Set
import HandS.SetTxt0
import HandS.SetBool
import KE.GoesEnum
import PyProof.EnumMake
import PyProof.Draws
import HandS.Text
import KE.KUnpack
import KE.SortKeyHeap
import PyProof.Rows.SetFrom
import HandS.OwnEq
import PyProof.InstEq
import HandS.Finally
import HandS.Small
import KE.DataFind
import HandS.Sort
import PyProof.ListRange
import KE.KIndexOf
import KE.KDictList
import HandS.SuiteRaise
import HandS.RaiseFrom
import HandS.ExcInitHot
import KE.KTryMore
import KE.KExcIs
import HandS.ExcIs
import HandS.Replace
import HandS.ReplaceLit
import HandS.ReplaceList
import KE.IntTextLaws
import HandS.Codes
import PySem.Challenge.RW_onepour_k10_texts_of_no_word
set_option Elab.async false
set_option linter.all false
set_option maxRecDepth 100000
set_option maxHeartbeats 4000000
namespace M3
open PySem L2
section
variable {X:Cx}
def newT (H:Hp) (xs:List V) (Q:VK):Prop:=∀(p:Addr) (o:Obj),H p=none→o.dict=none→Q (.ref p) (upd H p (.frz o (.tup xs)))
theorem frz_tup {P:Program} {w:World} {H:Hp} {h:Heap} {xs:List V} {its:List Value} {o:Obj} (ho:o={cls:=.type "tuple",data:=.seq its.toArray}) (hz:xs.length≤sizeLine) (r:Vals xs its):ObjOk P w H (h.push o) h.objs.size (.frz o (.tup xs)):=by
 subst ho
 exact ⟨Heap.get?_push_size _ rfl,hz,its,r,PyProof.Rows.IsTup.new _ _⟩
theorem lay_tup {pins:List (Addr×Obj)} {σ:St} {H:Hp} {s:Shared} {xs:List V} {its:List Value} {Q:VK} (I:Inv X pins σ H s) (hz:xs.length≤sizeLine) (r:Vals xs its) (q:newT H xs Q):
 EP X pins σ Q (.ref s.heap.objs.size) {s with heap:=s.heap.push {cls:=.type "tuple",data:=.seq its.toArray} }:=
 ⟨.ref s.heap.objs.size,_,I.laid (t':=s.toks) (fun _ _ e=>Heap.get?_push_of_some _ e) (Nat.le_refl _) (frz_tup rfl hz r),rfl,q _ _ (I.hok.fresh (Nat.le_refl _)) rfl⟩
def tTup (t:TA):TE:=fun σ H Q=>t σ H fun xs H1=>xs.length≤sizeLine∧newT H1 xs Q
theorem pe_tup {x1} {es:List Expr} {t:TA} {pos:Pos} (h:PA X es t):PE X (.Tuple es x1 pos) (tTup t):=by
 constructor
 intro pins s σ H Q I hq
 refine wpAny_Tuple_spliced (thn (h.run pos pins s σ H _ I hq) ?_)
 rintro us s1 ⟨xs,H1,I1,r,z,q⟩
 exact ⟨by rw [←r.length];exact z,lay_tup I1 z r q⟩
def rTup (K:PySem.W.Frag) (xs:List V) (H:Hp) (Q:VK):Prop:=∃p ys,xs=[.ref p]∧((SqL K H p ys∧newT H ys Q)∨(SqT K H p ys∧Q (.ref p) H))
theorem call_tupleF:CallR X (.type "tuple") (rTup X.K):=by
 intro pins s σ H xs us Q I r h
 obtain ⟨p,ys,rfl,h⟩:=h
 obtain ⟨u,rfl,ru⟩:=vals1 r
 cases ru
 rcases h with ⟨hs,q⟩ | ⟨hs,q⟩
 · obtain ⟨its,rv,pl,hz⟩:=I.list hs
   refine call_tuple_list pl.isList (fun h' kp=> ?_) (by rw [List.size_toArray, ←rv.length];exact hz)
   exact lay_tup (s:={s with heap:=h'}) (I.kept (t':=s.toks) kp) hz rv q
 · obtain ⟨its,_,p1,_⟩:=I.tuple hs
   exact call_tuple_same (items:=its.toArray) p1 ⟨.ref p,H,I,rfl,q⟩
def rSlF (K:PySem.W.Frag):V→Option Int→Option Int→Hp→VK→Prop:=fun x lo hi H Q=>∃a xs,x= .ref a∧SqT K H a xs∧
 ((HT.sIx xs.length 0 lo=0∧HT.sIx xs.length xs.length hi=xs.length)→Q (.ref a) H)∧(¬(HT.sIx xs.length 0 lo=0∧HT.sIx xs.length xs.length hi=xs.length)→newT H (cutV xs lo hi) Q)
theorem sl_tupF:SlR X (rSlF X.K):=by
 intro pins s σ H x v vl vu lo hi sl Q I rx hs pl pu h
 obtain ⟨a,xs,rfl,hx,q1,q2⟩:=h
 cases rx
 obtain ⟨its,r,ht,hz⟩:=I.tuple hx
 have el:its.toArray.size=xs.length:=by rw [List.size_toArray];exact r.length.symm
 refine ⟨"tuple",_,PyProof.Rows.slot_tuple_getitem.lookup,ht.typeIs, ?_⟩
 by_cases hw:HT.sIx xs.length 0 lo=0∧HT.sIx xs.length xs.length hi=xs.length
 · exact getItem_tuple_whole ht hs pl pu (by rw [el];exact hw) ⟨.ref a,H,I,rfl,q1 hw⟩
 · refine HT.getItem_tuple_cut ht hs pl pu (by rw [el];exact hw) ?_ (by rw [el];exact hz)
   rw [el]
   exact lay_tup I (Nat.le_trans (cutV_length xs lo hi) hz) ((r.drop (HT.sIx xs.length 0 lo)).take (HT.sIx xs.length xs.length hi-HT.sIx xs.length 0 lo)) (q2 hw)
def rCatF (K:PySem.W.Frag):R2:=fun x y H Q=>∃a b xs ys,x= .ref a∧y= .ref b∧SqT K H a xs∧SqT K H b ys∧xs.length+ys.length≤sizeLine∧
 (xs=[]→Q (.ref b) H)∧(xs≠[]→ys=[]→Q (.ref a) H)∧(xs≠[]→ys≠[]→newT H (xs++ys) Q)
theorem op_catF:OpR X (binaryOp .Add) (rCatF X.K):=by
 intro pins s σ H x y v u Q I rx ry h
 obtain ⟨a,b,xs,ys,rfl,rfl,ha,hb,hz,q0,q1,q2⟩:=h
 cases rx
 cases ry
 obtain ⟨its,r1,p1,_⟩:=I.tuple ha
 obtain ⟨jts,r2,p2,_⟩:=I.tuple hb
 by_cases hx:xs=[]
 · subst hx
   cases r1
   exact cat_tup0 p1 p2 ⟨.ref b,H,I,rfl,q0 rfl⟩
 · refine HT.cat_tup p1 p2 (fun z=>hx (r1.nil_iff.mp z)) (fun z=>⟨.ref a,H,I,rfl,q1 hx (r2.nil_iff.mp z)⟩) (fun z=> ?_) (by rw [←r1.length, ←r2.length];exact hz)
   exact lay_tup I (by rw [List.length_append];exact hz) (r1.append r2) (q2 hx fun w=>z (r2.nil_iff.mpr w))
end
end M3
namespace M3
open PySem L2
inductive T where
 | non | bl (b:Bool) | int (i:Int) | str (x:Str) | ty (n:String) | ref (a:Addr)
 | tup (xs:List T) | lst (xs:List T) | dic (kvs:List (Key×T)) | ins (C:Addr) (fs:List (Str×T))
 | kd (w:World) (es:List (T×T))
def vis:HO→Bool
 | .tbl _=>false
 | _=>true
def out (S:List Addr) (H:Hp):Hp:=fun a=>if a∈S then none else H a
theorem out_in {S:List Addr} {H:Hp} {a:Addr} (h:a∈S):out S H a=none:=by unfold out;rw [if_pos h]
theorem out_out {S:List Addr} {H:Hp} {a:Addr} (h:a ∉ S):out S H a=H a:=by unfold out;rw [if_neg h]
theorem out_some {S:List Addr} {H:Hp} {a:Addr} {o:HO} (h:out S H a=some o):H a=some o∧a ∉ S:=by
 by_cases e:a∈S
 · rw [out_in e] at h;cases h
 · rw [out_out e] at h;exact ⟨h,e⟩
def hid (S:List Addr) (H:Hp):Hp:=fun a=>(out S H a).bind fun o=>if vis o=true then some o else none
theorem hid_in {S:List Addr} {H:Hp} {a:Addr} (h:a∈S):hid S H a=none:=by unfold hid;rw [out_in h];rfl
theorem hid_all {S:List Addr} {H:Hp} {a:Addr} {o:HO} (h:hid S H a=some o):H a=some o∧a ∉ S∧vis o=true:=by
 unfold hid at h
 cases e:out S H a with
 | none=>rw [e] at h;cases h
 | some u=>
   rw [e] at h
   have h:(if vis u=true then some u else none)=some o:=h
   by_cases v:vis u=true
   · rw [if_pos v] at h
     cases h
     exact ⟨(out_some e).1,(out_some e).2,v⟩
   · rw [if_neg v] at h;cases h
theorem hid_some {S:List Addr} {H:Hp} {a:Addr} {o:HO} (h:hid S H a=some o):H a=some o∧a ∉ S:=⟨(hid_all h).1,(hid_all h).2.1⟩
theorem hid_vis {S:List Addr} {H:Hp} {a:Addr} {o:HO} (h:hid S H a=some o):vis o=true:=(hid_all h).2.2
theorem hid_mk {S:List Addr} {H:Hp} {a:Addr} {o:HO} (h:H a=some o) (n:a ∉ S) (v:vis o=true:=by first | rfl | exact hid_vis (by assumption)):hid S H a=some o:=by
 unfold hid
 rw [out_out n,h]
 show (if vis o=true then some o else none)=some o
 rw [if_pos v]
theorem hid_same {S:List Addr} {H:Hp}:Same (hid S H) H:=fun _ _ h=>(hid_some h).1
theorem hid_mono {S S':List Addr} {H:Hp} (h:∀a∈S',a∈S):Same (hid S H) (hid S' H):=fun a _ e=>by
 obtain ⟨e1,e2⟩:=hid_some e
 exact hid_mk e1 fun z=>e2 (h a z)
theorem Same.rd {H H':Hp} (e:Same H H') {a:Addr} {u:HO} (h:Rd H a u):Rd H' a u:=by
 rcases h with h | ⟨o,h⟩
 · exact .inl (e _ _ h)
 · exact .inr ⟨o,e _ _ h⟩
theorem Same.sqT {K:PySem.W.Frag} {H H':Hp} {a:Addr} {xs:List V} (e:Same H H') (h:SqT K H a xs):SqT K H' a xs:=by
 rcases h with h | h
 · exact .inl (Same.rd e h)
 · exact .inr h
def FqT (K:PySem.W.Frag) (H:Hp) (a:Addr) (xs:List V):Prop:=
 (∃o:Obj,o.dict=none∧H a=some (.frz o (.tup xs)))∨
   ∃(o:Obj) (its:Array Value) (n:Nat),K.lookup a=some o∧o.dict=none∧o.cls= .type "tuple"∧o.data= .seq its n∧its.size≤sizeLine∧Vals xs its.toList
theorem FqT.sq {K:PySem.W.Frag} {H:Hp} {a:Addr} {xs:List V} (h:FqT K H a xs):SqT K H a xs:=by
 rcases h with ⟨o,_,h⟩ | ⟨o,its,n,h1,_,h2,h3,h4,h5⟩
 · exact .inl (.inr ⟨o,h⟩)
 · exact .inr ⟨o,its,n,h1,h2,h3,h4,h5⟩
theorem FqT.of {K:PySem.W.Frag} {H:Hp} {a:Addr} {xs:List V} {o:Obj} (d:o.dict=none) (h:H a=some (.frz o (.tup xs))):FqT K H a xs:=.inl ⟨o,d,h⟩
theorem Same.fqT {K:PySem.W.Frag} {H H':Hp} {a:Addr} {xs:List V} (e:Same H H') (h:FqT K H a xs):FqT K H' a xs:=by
 rcases h with ⟨o,d,h⟩ | h
 · exact .inl ⟨o,d,e _ _ h⟩
 · exact .inr h
inductive Rep (K:PySem.W.Frag) (H:Hp):V→T→Prop where
 | non:Rep K H .non .non
 | bl (b:Bool):Rep K H (.bl b) (.bl b)
 | int (i:Int):Rep K H (.int i) (.int i)
 | str (x:Str):Rep K H (.str x) (.str x)
 | ty (n:String):Rep K H (.ty n) (.ty n)
 | ref (a:Addr):Rep K H (.ref a) (.ref a)
 | tup {a:Addr} {vs:List V} {ts:List T} (h:FqT K H a vs) (hl:vs.length=ts.length) (hr:∀(i:Nat) v t,vs[i]? =some v→ts[i]? =some t→Rep K H v t):Rep K H (.ref a) (.tup ts)
 | lst {a:Addr} {vs:List V} {ts:List T} (h:H a=some (.lst vs)) (hl:vs.length=ts.length) (hr:∀(i:Nat) v t,vs[i]? =some v→ts[i]? =some t→Rep K H v t):Rep K H (.ref a) (.lst ts)
 | dic {a:Addr} {kvs:List (Key×V)} {ts:List (Key×T)} (h:∃o,H a=some (.frz o (.dK kvs))) (hk:kvs.map (·.1)=ts.map (·.1))
    (hr:∀(i:Nat) v t,(kvs.map (·.2))[i]? =some v→(ts.map (·.2))[i]? =some t→Rep K H v t):Rep K H (.ref a) (.dic ts)
 | ins {a C dx:Addr} {fs:List (Str×V)} {ts:List (Str×T)} (h:H a=some (.ins C dx fs)) (hk:fs.map (·.1)=ts.map (·.1))
    (hr:∀(i:Nat) v t,(fs.map (·.2))[i]? =some v→(ts.map (·.2))[i]? =some t→Rep K H v t):Rep K H (.ref a) (.ins C ts)
abbrev RepL (K:PySem.W.Frag) (H:Hp):List V→List T→Prop:=Paired (Rep K H)
section
variable {K:PySem.W.Frag} {H H':Hp} {v:V} {t:T} {vs:List V} {ts:List T} {a:Addr}
theorem Rep.mono (r:Rep K H v t) (e:Same H H'):Rep K H' v t:=by
 induction r with
 | non=>exact .non
 | bl b=>exact .bl b
 | int i=>exact .int i
 | str x=>exact .str x
 | ty n=>exact .ty n
 | ref a=>exact .ref a
 | tup h hl _ ih=>exact .tup (Same.fqT e h) hl ih
 | lst h hl _ ih=>exact .lst (e _ _ h) hl ih
 | dic h hk _ ih=>exact .dic (let ⟨o,q⟩:=h; ⟨o,e _ _ q⟩) hk ih
 | ins h hk _ ih=>exact .ins (e _ _ h) hk ih
theorem repL_mk:∀ {vs:List V} {ts:List T},vs.length=ts.length→(∀(i:Nat) v t,vs[i]? =some v→ts[i]? =some t→Rep K H v t)→RepL K H vs ts
 | [],[],_,_=>.nil
 | v::vs,t::ts,hl,hr=>.cons (hr 0 v t rfl rfl) (repL_mk (by simpa using hl) fun i v t h1 h2=>hr (i+1) v t (by simpa using h1) (by simpa using h2))
 | [],_::_,hl,_=>by simp at hl
 | _::_,[],hl,_=>by simp at hl
theorem RepL.length (r:RepL K H vs ts):vs.length=ts.length:=Paired.length r
theorem RepL.at:∀ {vs:List V} {ts:List T} {i:Nat} {v:V} {t:T},RepL K H vs ts→vs[i]? =some v→ts[i]? =some t→Rep K H v t
 | _,_,_,_,_,.nil,e,_=>by simp at e
 | _,_,0,_,_,.cons r _,e,f=>by simp at e f;subst e;subst f;exact r
 | _,_,i+1,v,t,.cons _ q,e,f=>RepL.at (i:=i) (v:=v) (t:=t) q (by simpa using e) (by simpa using f)
theorem RepL.get:∀ {vs:List V} {ts:List T} {i:Nat} {t:T},RepL K H vs ts→ts[i]? =some t→∃v,vs[i]? =some v∧Rep K H v t
 | _,_,_,_,.nil,e=>by simp at e
 | _,_,0,_,.cons r _,e=>by simp at e;subst e;exact ⟨_,rfl,r⟩
 | _,_,i+1,t,.cons _ q,e=>by
   obtain ⟨v,h1,h2⟩:=RepL.get (i:=i) (t:=t) q (by simpa using e)
   exact ⟨v,by simpa using h1,h2⟩
theorem RepL.mono (r:RepL K H vs ts) (e:Same H H'):RepL K H' vs ts:=Paired.mapP r fun _ _ z=>z.mono e
theorem RepL.append:∀ {vs ws:List V} {ts us:List T},RepL K H vs ts→RepL K H ws us→RepL K H (vs++ws) (ts++us)
 | _,_,_,_,.nil,s=>s
 | _,_,_,_,.cons r t,s=>.cons r (RepL.append t s)
theorem RepL.take:∀ {vs:List V} {ts:List T} (n:Nat),RepL K H vs ts→RepL K H (vs.take n) (ts.take n)
 | _,_,0,_=>.nil
 | _,_,_+1,.nil=>.nil
 | _,_,n+1,.cons r t=>.cons r (RepL.take n t)
theorem RepL.drop:∀ {vs:List V} {ts:List T} (n:Nat),RepL K H vs ts→RepL K H (vs.drop n) (ts.drop n)
 | _,_,0,r=>r
 | _,_,_+1,.nil=>.nil
 | _,_,n+1,.cons _ t=>RepL.drop n t
theorem RepL.set {v:V} {t:T} (r:Rep K H v t):∀ {vs:List V} {ts:List T} (i:Nat),RepL K H vs ts→RepL K H (vs.set i v) (ts.set i t)
 | _,_,_,.nil=>.nil
 | _,_,0,.cons _ q=>.cons r q
 | _,_,i+1,.cons p q=>.cons p (RepL.set r i q)
theorem Rep.mkT (h:FqT K H a vs) (r:RepL K H vs ts):Rep K H (.ref a) (.tup ts):=.tup h r.length fun _ _ _=>r.at
theorem Rep.mkL (h:H a=some (.lst vs)) (r:RepL K H vs ts):Rep K H (.ref a) (.lst ts):=.lst h r.length fun _ _ _=>r.at
theorem Rep.tupI (r:Rep K H v (.tup ts)):∃a vs,v= .ref a∧SqT K H a vs∧RepL K H vs ts:=by
 cases r with
 | tup h hl hr=>exact ⟨_,_,rfl,h.sq,repL_mk hl hr⟩
def RepB (K:PySem.W.Frag) (w:Bool) (H:Hp) (v:V) (t:T):Prop:=Rep K H v t∨(w=true∧∃a vs ts,v= .ref a∧t= .tup ts∧SqT K H a vs∧RepL K H vs ts)
theorem RepB.f (r:RepB K false H v t):Rep K H v t:=by
 rcases r with r | ⟨z,_⟩
 · exact r
 · cases z
theorem RepB.tupI {w:Bool} (r:RepB K w H v (.tup ts)):∃a vs,v= .ref a∧SqT K H a vs∧RepL K H vs ts:=by
 rcases r with r | ⟨_,a,vs,us,rfl,e,h,q⟩
 · exact r.tupI
 · cases e;exact ⟨a,vs,rfl,h,q⟩
theorem Rep.lstI (r:Rep K H v (.lst ts)):∃a vs,v= .ref a∧H a=some (.lst vs)∧RepL K H vs ts:=by
 cases r with
 | lst h hl hr=>exact ⟨_,_,rfl,h,repL_mk hl hr⟩
theorem Rep.intI {i:Int} (r:Rep K H v (.int i)):v= .int i:=by cases r;rfl
theorem Rep.blI {b:Bool} (r:Rep K H v (.bl b)):v= .bl b:=by cases r;rfl
theorem Rep.strI {x:Str} (r:Rep K H v (.str x)):v= .str x:=by cases r;rfl
theorem Rep.nonI (r:Rep K H v .non):v= .non:=by cases r;rfl
theorem Rep.tyI {n:String} (r:Rep K H v (.ty n)):v= .ty n:=by cases r;rfl
theorem Rep.refI (r:Rep K H v (.ref a)):v= .ref a:=by cases r;rfl
end
inductive Sl where
 | no | val (t:T) | own (t:T)
def SameX (H H':Hp):Prop:=∀a q,H a=some (LamX.CodeO a q)→H' a=some (LamX.CodeO a q)
structure Cf where
 S0:List Addr
 I:Hp→Prop
 st:∀H H',(∀a∈S0,H' a=H a)→SameX H H'→I H→I H'
 on:∀H,I H→∀a∈S0,H a≠none
 gOk:HO→Prop
 gL:∀vs,gOk (.lst vs)
 gV:∀o,vis o=true→gOk o
 fr:Bool
def addrs (A:List (Option Addr)):List Addr:=A.filterMap id
def Cf.S (c:Cf) (G:List Addr) (A:List (Option Addr)):List Addr:=c.S0++G++addrs A
mutual
def nkT:T→Option NestedKey
 | .non=>some .none
 | .int i=>some (.num i)
 | .str x=>some (.text x)
 | .tup ts=>(nkTs ts).map .tup
 | _=>none
def nkTs:List T→Option (List NestedKey)
 | []=>some []
 | t::ts=>(nkT t).bind fun k=>(nkTs ts).map fun ks=>k::ks
end
def KdO (w:World) (a:Addr) (xs:List (NestedKey×Addr×V)):HO:=.ext fun h=>xs.length≤sizeLine∧(a==sysModules)=false∧∃(o:Obj) (es:Array DictEntry) (ep:Nat) (ys:List (NestedKey×Addr×Value)),
 Paired (fun (p:NestedKey×Addr×V) (q:NestedKey×Addr×Value)=>p.1=q.1∧p.2.1=q.2.1∧RelV p.2.2 q.2.2) xs ys∧h.get? a=some o∧o.ExactDict∧o.data= .dict es ep∧es.toList=ys.map (fun x=>⟨x.1.hash w,.ref x.2.1,x.2.2⟩)∧(ys.map (·.1)).Nodup
def KdRep (K:PySem.W.Frag) (Hv H:Hp) (w:World) (a:Addr) (es:List (T×T)):Prop:=∃xs,H a=some (KdO w a xs)∧
 Paired (fun (p:T×T) (q:NestedKey×Addr×V)=>nkT p.1=some q.1∧q.1.depth≤8∧Rep K Hv (.ref q.2.1) p.1∧Rep K Hv q.2.2 p.2) es xs
def OwnRep (K:PySem.W.Frag) (Hv H:Hp) (a:Addr):T→Prop
 | .lst xs=>∃vs,H a=some (.lst vs)∧RepL K Hv vs xs
 | .dic kvs=>∃ks,H a=some (.dK ks)∧ks.map (·.1)=kvs.map (·.1)∧RepL K Hv (ks.map (·.2)) (kvs.map (·.2))
 | .tup xs=>∃x C fs,xs=[.ref x,.ins C fs]∧a=x∧∃dx ks,H a=some (.ins C dx ks)∧ks.map (·.1)=fs.map (·.1)∧RepL K Hv (ks.map (·.2)) (fs.map (·.2))
 | .kd w es=>KdRep K Hv H w a es
 | _=>False
def SlRep (K:PySem.W.Frag) (Hv H:Hp) (s:Sl) (o:Option Addr) (x:Option V):Prop:=
 match s with
 | .no=>o=none
 | .val t=>o=none∧∃v,x=some v∧Rep K Hv v t
 | .own t=>∃a,o=some a∧x=some (.ref a)∧OwnRep K Hv H a t
structure R3 (K:PySem.W.Frag) (c:Cf) (Hb:Hp) (G:List Addr) (A:List (Option Addr)) (σ3:List Sl) (σ:St) (H:Hp):Prop where
 inv:c.I H
 base:Same (hid (c.S0++G) Hb) (hid (c.S G A) H)
 gk:∀a∈G,H a=Hb a∧H a≠none∧a ∉ c.S0
 gv:∀a∈G,∀o,H a=some o→c.gOk o
 nd:(addrs A).Nodup
 ns:∀a∈addrs A,a ∉ c.S0++G
 l1:A.length=σ3.length
 l2:σ.length=σ3.length
 at_:∀(i:Nat) s o x,σ3[i]? =some s→A[i]? =some o→σ[i]? =some x→SlRep K (hid (c.S G A) H) H s o x
structure Le (c:Cf) (G:List Addr) (A:List (Option Addr)) (H H':Hp):Prop where
 vis:Same (hid (c.S G A) H) (hid (c.S G A) H')
 own:∀a∈G++addrs A,H' a=H a
 inv:c.I H'
theorem Le.trans {c:Cf} {G:List Addr} {A:List (Option Addr)} {H H1 H2:Hp} (a:Le c G A H H1) (b:Le c G A H1 H2):Le c G A H H2:=
 ⟨Same.trans a.vis b.vis,fun x h=>(b.own x h).trans (a.own x h),b.inv⟩
theorem Le.refl {c:Cf} {G:List Addr} {A:List (Option Addr)} {H:Hp} (h:c.I H):Le c G A H H:=⟨Same.refl _,fun _ _=>rfl,h⟩
theorem mem_S {c:Cf} {G:List Addr} {A:List (Option Addr)} {a:Addr}:a∈c.S G A↔a∈c.S0∨a∈G∨a∈addrs A:=by
 unfold Cf.S
 rw [List.mem_append,List.mem_append,or_assoc]
theorem mem_addrs {A:List (Option Addr)} {a:Addr}:a∈addrs A↔some a∈A:=by
 unfold addrs
 rw [List.mem_filterMap]
 exact ⟨fun ⟨x,h,e⟩=>by cases e;exact h,fun h=>⟨_,h,rfl⟩⟩
section
variable {K:PySem.W.Frag} {c:Cf} {Hb H H':Hp} {G:List Addr} {A:List (Option Addr)} {σ3:List Sl} {σ:St} {v:V} {t:T}
theorem OwnRep.mono {Hv Hv':Hp} {a:Addr} {t:T} (r:OwnRep K Hv H a t) (e:Same Hv Hv') (h:H' a=H a):OwnRep K Hv' H' a t:=by
 cases t with
 | lst xs=>obtain ⟨vs,h1,h2⟩:=r;exact ⟨vs,h.trans h1,h2.mono e⟩
 | dic kvs=>obtain ⟨ks,h1,h2,h3⟩:=r;exact ⟨ks,h.trans h1,h2,h3.mono e⟩
 | tup xs=>obtain ⟨x,C,fs,h0,h4,dx,ks,h1,h2,h3⟩:=r;exact ⟨x,C,fs,h0,h4,dx,ks,h.trans h1,h2,h3.mono e⟩
 | kd w es=>obtain ⟨xs,h1,h2⟩:=r;exact ⟨xs,h.trans h1,Paired.mapP h2 fun p q z=>⟨z.1,z.2.1,z.2.2.1.mono e,z.2.2.2.mono e⟩⟩
 | _=>exact r
theorem OwnRep.there {Hv:Hp} {a:Addr} {t:T} (r:OwnRep K Hv H a t):H a≠none:=by
 cases t with
 | lst xs=>obtain ⟨vs,h1,h2⟩:=r;rw [h1];intro z;cases z
 | dic kvs=>obtain ⟨ks,h1,h2,h3⟩:=r;rw [h1];intro z;cases z
 | tup xs=>obtain ⟨x,C,fs,h0,h4,dx,ks,h1,h2,h3⟩:=r;rw [h1];intro z;cases z
 | kd w es=>obtain ⟨xs,h1,_⟩:=r;rw [h1];intro z;cases z
 | _=>exact r.elim
theorem R3.le (r:R3 K c Hb G A σ3 σ H) (l:Le c G A H H'):R3 K c Hb G A σ3 σ H' where
 inv:=l.inv
 base:=Same.trans r.base l.vis
 gk:=fun a h=>⟨(l.own a (List.mem_append.mpr (.inl h))).trans (r.gk a h).1,by rw [l.own a (List.mem_append.mpr (.inl h))];exact (r.gk a h).2.1,(r.gk a h).2.2⟩
 gv:=fun a h o e=>r.gv a h o (by rw [←l.own a (List.mem_append.mpr (.inl h))];exact e)
 nd:=r.nd
 ns:=r.ns
 l1:=r.l1
 l2:=r.l2
 at_:=fun i s o x h1 h2 h3=>by
  have z:=r.at_ i s o x h1 h2 h3
  cases s with
  | no=>exact z
  | val t=>obtain ⟨e,v,e2,q⟩:=z;exact ⟨e,v,e2,q.mono l.vis⟩
  | own t=>
    obtain ⟨a,e,e2,q⟩:=z
    refine ⟨a,e,e2,q.mono l.vis (l.own a (List.mem_append.mpr (.inr (mem_addrs.mpr ?_))))⟩
    subst e
    exact List.mem_of_getElem? h2
theorem R3.get (r:R3 K c Hb G A σ3 σ H) {i:Nat} (h:σ3[i]? =some (.val t)):∃v,σ[i]? =some (some v)∧Rep K (hid (c.S G A) H) v t:=by
 have hl:i<σ3.length:=(List.getElem?_eq_some_iff.mp h).1
 have h1:i<A.length:=by rw [r.l1];exact hl
 have h2:i<σ.length:=by rw [r.l2];exact hl
 obtain ⟨_,v,e,q⟩:=r.at_ i _ _ _ h (List.getElem?_eq_getElem h1) (List.getElem?_eq_getElem h2)
 exact ⟨v,by rw [List.getElem?_eq_getElem h2,e],q⟩
theorem R3.there (r:R3 K c Hb G A σ3 σ H) {a:Addr} (h:a∈c.S G A):H a≠none:=by
 rcases mem_S.mp h with h | h | h
 · exact c.on H r.inv a h
 · exact (r.gk a h).2.1
 · have h':=mem_addrs.mp h
   obtain ⟨i,hi⟩:=List.getElem?_of_mem h'
   have hl:i<A.length:=(List.getElem?_eq_some_iff.mp hi).1
   have h1:i<σ3.length:=by rw [←r.l1];exact hl
   have h2:i<σ.length:=by rw [r.l2];exact h1
   have z:=r.at_ i _ _ _ (List.getElem?_eq_getElem h1) hi (List.getElem?_eq_getElem h2)
   cases e:σ3[i] with
   | no=>rw [e] at z;cases z
   | val t=>rw [e] at z;obtain ⟨z,_⟩:=z;cases z
   | own t=>
     rw [e] at z
     obtain ⟨b,e1,e2,q⟩:=z
     cases e1
     exact q.there
theorem R3.free (r:R3 K c Hb G A σ3 σ H) {p:Addr} (h:H p=none):p ∉ c.S G A:=fun z=>r.there z h
theorem R3.new (r:R3 K c Hb G A σ3 σ H) {p:Addr} {o:HO} (h:H p=none):Le c G A H (upd H p o) where
 vis:=fun a u e=>by
  obtain ⟨e1,e2⟩:=hid_some e
  exact hid_mk (by rw [upd_ne (ne_of_none e1 h)];exact e1) e2
 own:=fun a ha=>by
  have hm:a∈c.S G A:=mem_S.mpr (by rcases List.mem_append.mp ha with z | z;exact .inr (.inl z);exact .inr (.inr z))
  have:a≠p:=fun z=>by subst z;exact r.there hm h
  rw [upd_ne this]
 inv:=c.st H _ (fun a ha=>by
  have hm:a∈c.S G A:=mem_S.mpr (.inl ha)
  have:a≠p:=fun z=>by subst z;exact r.there hm h
  rw [upd_ne this]) (fun a φ e=>by rw [upd_ne (ne_of_none e h)];exact e) r.inv
theorem R3.newAt (r:R3 K c Hb G A σ3 σ H) {p:Addr} {o:HO} (h:H p=none) (v:vis o=true:=by rfl):hid (c.S G A) (upd H p o) p=some o:=hid_mk upd_same (r.free h) v
theorem getElem?_set_cases {α:Type} {l:List α} {i j:Nat} {x y:α} (h:(l.set i x)[j]? =some y):(i=j∧y=x∧i<l.length)∨(i≠j∧l[j]? =some y):=by
 by_cases e:i=j
 · subst e
   have hl:i<l.length:=by
    have:=(List.getElem?_eq_some_iff.mp h).1
    simpa using this
   rw [List.getElem?_set_self hl] at h
   cases h
   exact .inl ⟨rfl,rfl,hl⟩
 · rw [List.getElem?_set_ne e] at h
   exact .inr ⟨e,h⟩
theorem addrs_set_sub {A:List (Option Addr)} {i:Nat}:∀a∈addrs (A.set i none),a∈addrs A:=fun a h=>by
 have h':=mem_addrs.mp h
 obtain ⟨j,hj⟩:=List.getElem?_of_mem h'
 rcases getElem?_set_cases hj with ⟨_,e,_⟩ | ⟨_,e⟩
 · cases e
 · exact mem_addrs.mpr (List.mem_of_getElem? e)
theorem S_sub {A A':List (Option Addr)} (h:∀a∈addrs A',a∈addrs A):∀a∈c.S G A',a∈c.S G A:=fun a z=>by
 rcases mem_S.mp z with z | z | z
 · exact mem_S.mpr (.inl z)
 · exact mem_S.mpr (.inr (.inl z))
 · exact mem_S.mpr (.inr (.inr (h a z)))
theorem nodup_filterMap_set:∀ {A:List (Option Addr)} {i:Nat},(addrs A).Nodup→(addrs (A.set i none)).Nodup
 | [],i,h=>by simpa using h
 | none::A,0,h=>h
 | some a::A,0,h=>(List.nodup_cons.mp (show (a::addrs A).Nodup from h)).2
 | none::A,i+1,h=>nodup_filterMap_set (A:=A) (i:=i) h
 | some a::A,i+1,h=>by
   have h':=List.nodup_cons.mp (show (a::addrs A).Nodup from h)
   exact List.nodup_cons.mpr ⟨fun z=>h'.1 (addrs_set_sub a z),nodup_filterMap_set (A:=A) (i:=i) h'.2⟩
theorem R3.set (r:R3 K c Hb G A σ3 σ H) (i:Nat) (q:Rep K (hid (c.S G A) H) v t):R3 K c Hb G (A.set i none) (σ3.set i (.val t)) (σ.set i (some v)) H:=by
 have sub:Same (hid (c.S G A) H) (hid (c.S G (A.set i none)) H):=hid_mono (S_sub addrs_set_sub)
 refine ⟨r.inv,Same.trans r.base sub,r.gk,r.gv,nodup_filterMap_set (A:=A) r.nd,fun a h=>r.ns a (addrs_set_sub a h),by rw [List.length_set,List.length_set,r.l1],by rw [List.length_set,List.length_set,r.l2], ?_⟩
 intro j s o x h1 h2 h3
 rcases getElem?_set_cases h1 with ⟨e,e1,_⟩ | ⟨e,e1⟩
 · subst e
   subst e1
   rcases getElem?_set_cases h2 with ⟨_,e2,_⟩ | ⟨e2,_⟩
   · subst e2
     rcases getElem?_set_cases h3 with ⟨_,e3,_⟩ | ⟨e3,_⟩
     · subst e3
       exact ⟨rfl,v,rfl,q.mono sub⟩
     · exact absurd rfl e3
   · exact absurd rfl e2
 · rw [List.getElem?_set_ne e] at h2 h3
   have z:=r.at_ j s o x e1 h2 h3
   cases s with
   | no=>exact z
   | val t=>obtain ⟨e,v,e2,q⟩:=z;exact ⟨e,v,e2,q.mono sub⟩
   | own t=>obtain ⟨a,e,e2,q⟩:=z;exact ⟨a,e,e2,q.mono sub rfl⟩
theorem R3.wipe1 (r:R3 K c Hb G A σ3 σ H) (i:Nat) (x:Option V):R3 K c Hb G (A.set i none) (σ3.set i .no) (σ.set i x) H:=by
 have sub:Same (hid (c.S G A) H) (hid (c.S G (A.set i none)) H):=hid_mono (S_sub addrs_set_sub)
 refine ⟨r.inv,Same.trans r.base sub,r.gk,r.gv,nodup_filterMap_set (A:=A) r.nd,fun a h=>r.ns a (addrs_set_sub a h),by rw [List.length_set,List.length_set,r.l1],by rw [List.length_set,List.length_set,r.l2], ?_⟩
 intro j s o x' h1 h2 h3
 rcases getElem?_set_cases h1 with ⟨e,e1,_⟩ | ⟨e,e1⟩
 · subst e
   subst e1
   rcases getElem?_set_cases h2 with ⟨_,e2,_⟩ | ⟨e2,_⟩
   · exact e2
   · exact absurd rfl e2
 · rw [List.getElem?_set_ne e] at h2 h3
   have z:=r.at_ j s o x' e1 h2 h3
   cases s with
   | no=>exact z
   | val t=>obtain ⟨e,v,e2,q⟩:=z;exact ⟨e,v,e2,q.mono sub⟩
   | own t=>obtain ⟨a,e,e2,q⟩:=z;exact ⟨a,e,e2,q.mono sub rfl⟩
end
end M3
namespace M3
open PySem L2
structure Xn where
 cls:Value
 fs:List (Str×T)
def XRep (K:PySem.W.Frag) (Hv:Hp) (cls:Value) (dd:Option Addr) (x:Xn):Prop:=
 x.cls=cls∧match dd with
  | none=>x.fs=[]
  | some d=>∃fs,Hv d=some (.xd fs)∧fs.map (·.1)=x.fs.map (·.1)∧RepL K Hv (fs.map (·.2)) (x.fs.map (·.2))
abbrev X3:=Xn→Prop
abbrev G3 (β:Type):=List Sl→(β→Prop)→X3→Prop
abbrev E3:=G3 T
abbrev B3:=G3 Bool
abbrev A3:=G3 (List T)
def LiftG (K:PySem.W.Frag) (c:Cf) (W:WX) {α β:Type} (rel:Hp→α→β→Prop) (te:St→Hp→(α→Hp→Prop)→Prop) (t:G3 β):Prop:=
 ∀σ3 Q3 X,t σ3 Q3 X→∀Hb G A σ H Q,R3 K c Hb G A σ3 σ H→
  (∀v d H',Le c G A H H'→rel (hid (c.S G A) H') v d→Q3 d→Q v H')→
  (∀cls dd x H',Le c G A H H'→XRep K (hid (c.S G A) H') cls dd x→X x→W cls dd σ H')→te σ H Q
abbrev Lift (K:PySem.W.Frag) (c:Cf) (W:WX) (te:TE) (t:E3):Prop:=LiftG K c W (Rep K) te t
abbrev LiftT (K:PySem.W.Frag) (c:Cf) (W:WX) (te:TT) (t:B3):Prop:=LiftG K c W (fun _ (b b':Bool)=>b=b') te t
abbrev LiftA (K:PySem.W.Frag) (c:Cf) (W:WX) (te:TA) (t:A3):Prop:=LiftG K c W (RepL K) te t
abbrev LiftO (K:PySem.W.Frag) (c:Cf) (W:WX) (te:TO) (t:G3 (Option Int)):Prop:=LiftG K c W (fun _ (b b':Option Int)=>b=b') te t
def ob {α:Type} (o:Option α) (Q:α→Prop):Prop:=match o with | some a=>Q a | none=>False
@[simp] theorem ob_some {α:Type} (a:α) (Q:α→Prop):ob (some a) Q=Q a:=rfl
@[simp] theorem ob_none {α:Type} (Q:α→Prop):ob none Q=False:=rfl
theorem ob_iff {α:Type} {o:Option α} {Q:α→Prop}:ob o Q↔∃a,o=some a∧Q a:=by
 cases o with
 | none=>exact ⟨fun h=>h.elim,fun ⟨_,h,_⟩=>by cases h⟩
 | some a=>exact ⟨fun h=>⟨a,rfl,h⟩,fun ⟨_,h,q⟩=>by cases h;exact q⟩
def asI:T→Option Int
 | .int i=>some i
 | _=>none
def asL:T→Option (List T)
 | .lst i=>some i
 | _=>none
def asT:T→Option (List T)
 | .tup i=>some i
 | _=>none
def asS:T→Option Str
 | .str i=>some i
 | _=>none
def asN:T→Option Unit
 | .non=>some ()
 | _=>none
def asB:T→Option Bool
 | .bl b=>some b
 | _=>none
def one {α:Type}:List α→Option α
 | [x]=>some x
 | _=>none
def two {α:Type}:List α→Option (α×α)
 | [x,y]=>some (x,y)
 | _=>none
@[simp] theorem asI_non:asI .non=none:=rfl
@[simp] theorem asI_bl (b:Bool):asI (.bl b)=none:=rfl
@[simp] theorem asI_int (b:Int):asI (.int b)=some b:=rfl
@[simp] theorem asI_str (b:Str):asI (.str b)=none:=rfl
@[simp] theorem asI_tup (b:List T):asI (.tup b)=none:=rfl
@[simp] theorem asI_lst (b:List T):asI (.lst b)=none:=rfl
@[simp] theorem asL_non:asL .non=none:=rfl
@[simp] theorem asL_bl (b:Bool):asL (.bl b)=none:=rfl
@[simp] theorem asL_int (b:Int):asL (.int b)=none:=rfl
@[simp] theorem asL_str (b:Str):asL (.str b)=none:=rfl
@[simp] theorem asL_tup (b:List T):asL (.tup b)=none:=rfl
@[simp] theorem asL_lst (b:List T):asL (.lst b)=some b:=rfl
@[simp] theorem asT_non:asT .non=none:=rfl
@[simp] theorem asT_bl (b:Bool):asT (.bl b)=none:=rfl
@[simp] theorem asT_int (b:Int):asT (.int b)=none:=rfl
@[simp] theorem asT_str (b:Str):asT (.str b)=none:=rfl
@[simp] theorem asT_tup (b:List T):asT (.tup b)=some b:=rfl
@[simp] theorem asT_lst (b:List T):asT (.lst b)=none:=rfl
@[simp] theorem asS_non:asS .non=none:=rfl
@[simp] theorem asS_bl (b:Bool):asS (.bl b)=none:=rfl
@[simp] theorem asS_int (b:Int):asS (.int b)=none:=rfl
@[simp] theorem asS_str (b:Str):asS (.str b)=some b:=rfl
@[simp] theorem asS_tup (b:List T):asS (.tup b)=none:=rfl
@[simp] theorem asS_lst (b:List T):asS (.lst b)=none:=rfl
@[simp] theorem asN_non:asN .non=some ():=rfl
@[simp] theorem asN_bl (b:Bool):asN (.bl b)=none:=rfl
@[simp] theorem asN_int (b:Int):asN (.int b)=none:=rfl
@[simp] theorem asN_str (b:Str):asN (.str b)=none:=rfl
@[simp] theorem asN_tup (b:List T):asN (.tup b)=none:=rfl
@[simp] theorem asN_lst (b:List T):asN (.lst b)=none:=rfl
@[simp] theorem asB_non:asB .non=none:=rfl
@[simp] theorem asB_bl (b:Bool):asB (.bl b)=some b:=rfl
@[simp] theorem asB_int (b:Int):asB (.int b)=none:=rfl
@[simp] theorem asB_str (b:Str):asB (.str b)=none:=rfl
@[simp] theorem asB_tup (b:List T):asB (.tup b)=none:=rfl
@[simp] theorem asB_lst (b:List T):asB (.lst b)=none:=rfl
@[simp] theorem one_1 {α:Type} (x:α):one [x]=some x:=rfl
@[simp] theorem two_2 {α:Type} (x y:α):two [x,y]=some (x,y):=rfl
theorem asI_is {x:T} {i:Int} (h:asI x=some i):x= .int i:=by cases x<;>cases h;rfl
theorem asL_is {x:T} {i:List T} (h:asL x=some i):x= .lst i:=by cases x<;>cases h;rfl
theorem asT_is {x:T} {i:List T} (h:asT x=some i):x= .tup i:=by cases x<;>cases h;rfl
theorem asS_is {x:T} {i:Str} (h:asS x=some i):x= .str i:=by cases x<;>cases h;rfl
theorem asN_is {x:T} {i:Unit} (h:asN x=some i):x= .non:=by cases x<;>cases h;rfl
theorem asB_is {x:T} {i:Bool} (h:asB x=some i):x= .bl i:=by cases x<;>cases h;rfl
theorem one_is {α:Type} {l:List α} {x:α} (h:one l=some x):l=[x]:=by
 match l,h with
 | [y],h=>cases h;rfl
theorem two_is {α:Type} {l:List α} {x:α×α} (h:two l=some x):l=[x.1,x.2]:=by
 match l,h with
 | [y,z],h=>cases h;rfl
def slot (σ:List Sl) (i:Nat):Option T:=match σ[i]? with | some (.val t)=>some t | _=>none
def v3 (i:Nat):E3:=fun σ Q _=>ob (slot σ i) Q
def k3 (t:T):E3:=fun _ Q _=>Q t
def op3 (r:T→T→(T→Prop)→Prop) (a b:E3):E3:=fun σ Q X=>a σ (fun x=>b σ (fun y=>r x y Q) X) X
def un3 (r:T→(T→Prop)→Prop) (a:E3):E3:=fun σ Q X=>a σ (fun x=>r x Q) X
def nil3:A3:=fun _ Q _=>Q []
def cons3 (a:E3) (r:A3):A3:=fun σ Q X=>a σ (fun x=>r σ (fun xs=>Q (x::xs)) X) X
def call3 (r:List T→(T→Prop)→Prop) (a:A3):E3:=fun σ Q X=>a σ (fun xs=>r xs Q) X
def RL2 (K:PySem.W.Frag) (r:R2) (r3:T→T→(T→Prop)→Prop):Prop:=
 ∀(c:Cf) x y Q3,r3 x y Q3→∀Hb G A σ3 σ H vx vy Q,R3 K c Hb G A σ3 σ H→Rep K (hid (c.S G A) H) vx x→Rep K (hid (c.S G A) H) vy y→
  (∀v d H',Le c G A H H'→Rep K (hid (c.S G A) H') v d→Q3 d→Q v H')→r vx vy H Q
def RL1 (K:PySem.W.Frag) (r:V→Hp→VK→Prop) (r3:T→(T→Prop)→Prop):Prop:=
 ∀(c:Cf) x Q3,r3 x Q3→∀Hb G A σ3 σ H vx Q,R3 K c Hb G A σ3 σ H→Rep K (hid (c.S G A) H) vx x→
  (∀v d H',Le c G A H H'→Rep K (hid (c.S G A) H') v d→Q3 d→Q v H')→r vx H Q
def RLn (K:PySem.W.Frag) (r:List V→Hp→VK→Prop) (r3:List T→(T→Prop)→Prop):Prop:=
 ∀(c:Cf) xs Q3,r3 xs Q3→∀Hb G A σ3 σ H vs Q,R3 K c Hb G A σ3 σ H→RepL K (hid (c.S G A) H) vs xs→
  (∀v d H',Le c G A H H'→Rep K (hid (c.S G A) H') v d→Q3 d→Q v H')→r vs H Q
section
variable {K:PySem.W.Frag} {c:Cf} {W:WX} {ta tb te:TE} {a b e:E3}
theorem slot_get {σ:List Sl} {i:Nat} {t:T} (h:slot σ i=some t):σ[i]? =some (.val t):=by
 unfold slot at h
 split at h
 · cases h;assumption
 · cases h
theorem lift_v (i:Nat):Lift K c W (tVar i) (v3 i):=by
 intro σ3 Q3 X h Hb G A σ H Q R k e
 obtain ⟨t,h1,h2⟩:=ob_iff.mp h
 obtain ⟨v,h3,h4⟩:=R.get (slot_get h1)
 exact ⟨v,h3,k v t H (Le.refl R.inv) h4 h2⟩
theorem lift_k {v:V} {t:T} (r:∀H,Rep K H v t):Lift K c W (tC v) (k3 t):=by
 intro σ3 Q3 X h Hb G A σ H Q R k e
 exact k v t H (Le.refl R.inv) (r _) h
theorem lift_int (i:Int):Lift K c W (tC (.int i)) (k3 (.int i)):=lift_k fun _=>.int i
theorem lift_str (x:Str):Lift K c W (tC (.str x)) (k3 (.str x)):=lift_k fun _=>.str x
theorem lift_bl (b:Bool):Lift K c W (tC (.bl b)) (k3 (.bl b)):=lift_k fun _=>.bl b
theorem lift_non:Lift K c W (tC .non) (k3 .non):=lift_k fun _=>.non
theorem lift_ty (n:String):Lift K c W (tC (.ty n)) (k3 (.ty n)):=lift_k fun _=>.ty n
theorem lift_op {r:R2} {r3:T→T→(T→Prop)→Prop} (hr:RL2 K r r3) (ha:Lift K c W ta a) (hb:Lift K c W tb b):Lift K c W (tOp r ta tb) (op3 r3 a b):=by
 intro σ3 Q3 X h Hb G A σ H Q R k e
 refine ha _ _ _ h Hb G A σ H _ R (fun vx x H1 L1 rx hx=> ?_) e
 refine hb _ _ _ hx Hb G A σ H1 _ (R.le L1) (fun vy y H2 L2 ry hy=> ?_) (fun cls dd x H' L=>e cls dd x H' (L1.trans L))
 exact hr c _ _ _ hy Hb G A σ3 σ H2 vx vy Q ((R.le L1).le L2) (rx.mono L2.vis) ry (fun v d H3 L3=>k v d H3 ((L1.trans L2).trans L3))
theorem lift_un {r:V→Hp→VK→Prop} {r3:T→(T→Prop)→Prop} (hr:RL1 K r r3) (ha:Lift K c W ta a):Lift K c W (tUn r ta) (un3 r3 a):=by
 intro σ3 Q3 X h Hb G A σ H Q R k e
 refine ha _ _ _ h Hb G A σ H _ R (fun vx x H1 L1 rx hx=> ?_) e
 exact hr c _ _ hx Hb G A σ3 σ H1 vx Q (R.le L1) rx (fun v d H3 L3=>k v d H3 (L1.trans L3))
theorem lift_nil:LiftA K c W tNil nil3:=by
 intro σ3 Q3 X h Hb G A σ H Q R k e
 exact k [] [] H (Le.refl R.inv) .nil h
theorem lift_cons {tr:TA} {r:A3} (ha:Lift K c W ta a) (hr:LiftA K c W tr r):LiftA K c W (tCons ta tr) (cons3 a r):=by
 intro σ3 Q3 X h Hb G A σ H Q R k e
 refine ha _ _ _ h Hb G A σ H _ R (fun vx x H1 L1 rx hx=> ?_) e
 refine hr _ _ _ hx Hb G A σ H1 _ (R.le L1) (fun vy y H2 L2 ry hy=> ?_) (fun cls dd x H' L=>e cls dd x H' (L1.trans L))
 exact k _ _ H2 (L1.trans L2) (.cons (rx.mono L2.vis) ry) hy
theorem lift_cb {r:List V→Hp→VK→Prop} {r3:List T→(T→Prop)→Prop} {t:TA} {x:A3} (hr:RLn K r r3) (ha:LiftA K c W t x):Lift K c W (tCB r t) (call3 r3 x):=by
 intro σ3 Q3 X h Hb G A σ H Q R k e
 refine ha _ _ _ h Hb G A σ H _ R (fun vx x H1 L1 rx hx=> ?_) e
 exact hr c _ _ hx Hb G A σ3 σ H1 vx Q (R.le L1) rx (fun v d H3 L3=>k v d H3 (L1.trans L3))
def tup3 (x:A3):E3:=fun σ Q X=>x σ (fun xs=>xs.length≤sizeLine∧Q (.tup xs)) X
def lst3 (x:A3):E3:=fun σ Q X=>x σ (fun xs=>xs.length≤sizeLine∧Q (.lst xs)) X
theorem lift_tup {t:TA} {x:A3} (ha:LiftA K c W t x):Lift K c W (tTup t) (tup3 x):=by
 intro σ3 Q3 X h Hb G A σ H Q R k e
 refine ha _ _ _ h Hb G A σ H _ R (fun vs xs H1 L1 rx hx=> ?_) e
 refine ⟨by rw [rx.length];exact hx.1,fun p o hp hd=> ?_⟩
 have L2:=(R.le L1).new (o:=.frz o (.tup vs)) hp
 exact k _ _ _ (L1.trans L2) (.mkT (FqT.of hd ((R.le L1).newAt hp)) (rx.mono L2.vis)) hx.2
theorem lift_lst {t:TA} {x:A3} (ha:LiftA K c W t x):Lift K c W (tLst t) (lst3 x):=by
 intro σ3 Q3 X h Hb G A σ H Q R k e
 refine ha _ _ _ h Hb G A σ H _ R (fun vs xs H1 L1 rx hx=> ?_) e
 refine ⟨by rw [rx.length];exact hx.1,fun p hp=> ?_⟩
 have L2:=(R.le L1).new (o:=.lst vs) hp
 exact k _ _ _ (L1.trans L2) (.mkL ((R.le L1).newAt hp) (rx.mono L2.vis)) hx.2
def tst3 (a:E3):B3:=fun σ Q X=>a σ (fun x=>ob (asB x) Q) X
def and3 (a b:B3):B3:=fun σ Q X=>a σ (fun x=>if x=true then b σ Q X else Q false) X
def or3 (a b:B3):B3:=fun σ Q X=>a σ (fun x=>if x=true then Q true else b σ Q X) X
def not3 (a:B3):B3:=fun σ Q X=>a σ (fun x=>Q (!x)) X
def andV3 (a b:E3):E3:=fun σ Q X=>a σ (fun x=>ob (asB x) fun k=>if k=true then b σ Q X else Q (.bl false)) X
def orV3 (a b:E3):E3:=fun σ Q X=>a σ (fun x=>ob (asB x) fun k=>if k=true then Q (.bl true) else b σ Q X) X
def notV3 (a:E3):E3:=fun σ Q X=>a σ (fun x=>ob (asB x) fun k=>Q (.bl (!k))) X
def if3 (t:B3) (a b:E3):E3:=fun σ Q X=>t σ (fun x=>if x=true then a σ Q X else b σ Q X) X
theorem lift_tst (ha:Lift K c W ta a):LiftT K c W (tTest ta) (tst3 a):=by
 intro σ3 Q3 X h Hb G A σ H Q R k e
 refine ha _ _ _ h Hb G A σ H _ R (fun vx x H1 L1 rx hx=> ?_) e
 obtain ⟨b,eb,q⟩:=ob_iff.mp hx
 cases asB_is eb
 exact ⟨b,rx.blI,k b b H1 L1 rfl q⟩
theorem lift_tB (ha:Lift K c W ta a):LiftT K c W (tB ta) (tst3 a):=lift_tst ha
theorem lift_and {t u:TT} {x y:B3} (ha:LiftT K c W t x) (hb:LiftT K c W u y):LiftT K c W (tAnd t u) (and3 x y):=by
 intro σ3 Q3 X h Hb G A σ H Q R k e
 refine ha _ _ _ h Hb G A σ H _ R (fun vx x H1 L1 rx hx=> ?_) e
 subst rx
 cases vx with
 | true=>exact iteT (hb _ _ _ (by simpa using hx) Hb G A σ H1 _ (R.le L1) (fun v d H' L=>k v d H' (L1.trans L)) (fun cls dd x H' L=>e cls dd x H' (L1.trans L)))
 | false=>exact iteF (k false false H1 L1 rfl (by simpa using hx))
theorem lift_or {t u:TT} {x y:B3} (ha:LiftT K c W t x) (hb:LiftT K c W u y):LiftT K c W (tOr t u) (or3 x y):=by
 intro σ3 Q3 X h Hb G A σ H Q R k e
 refine ha _ _ _ h Hb G A σ H _ R (fun vx x H1 L1 rx hx=> ?_) e
 subst rx
 cases vx with
 | false=>exact iteF (hb _ _ _ (by simpa using hx) Hb G A σ H1 _ (R.le L1) (fun v d H' L=>k v d H' (L1.trans L)) (fun cls dd x H' L=>e cls dd x H' (L1.trans L)))
 | true=>exact iteT (k true true H1 L1 rfl (by simpa using hx))
theorem lift_not {t:TT} {x:B3} (ha:LiftT K c W t x):LiftT K c W (tNot t) (not3 x):=by
 intro σ3 Q3 X h Hb G A σ H Q R k e
 refine ha _ _ _ h Hb G A σ H _ R (fun vx x H1 L1 rx hx=> ?_) e
 subst rx
 exact k _ _ H1 L1 rfl hx
theorem lift_andV (ha:Lift K c W ta a) (hb:Lift K c W tb b):Lift K c W (tAndV ta tb) (andV3 a b):=by
 intro σ3 Q3 X h Hb G A σ H Q R k e
 refine ha _ _ _ h Hb G A σ H _ R (fun vx x H1 L1 rx hx=> ?_) e
 obtain ⟨z,eb,hy⟩:=ob_iff.mp hx
 cases asB_is eb
 refine ⟨z,rx.blI, ?_⟩
 cases z with
 | true=>exact iteT (hb _ _ _ (by simpa using hy) Hb G A σ H1 _ (R.le L1) (fun v d H' L=>k v d H' (L1.trans L)) (fun cls dd x H' L=>e cls dd x H' (L1.trans L)))
 | false=>exact iteF (k _ _ H1 L1 (.bl false) (by simpa using hy))
theorem lift_notV (ha:Lift K c W ta a):Lift K c W (tNotV ta) (notV3 a):=by
 intro σ3 Q3 X h Hb G A σ H Q R k e
 refine ha _ _ _ h Hb G A σ H _ R (fun vx x H1 L1 rx hx=> ?_) e
 obtain ⟨z,eb,hy⟩:=ob_iff.mp hx
 cases asB_is eb
 exact ⟨z,rx.blI,k _ _ H1 L1 (.bl _) hy⟩
theorem lift_if {t:TT} {x:B3} (ht:LiftT K c W t x) (ha:Lift K c W ta a) (hb:Lift K c W tb b):Lift K c W (tIf t ta tb) (if3 x a b):=by
 intro σ3 Q3 X h Hb G A σ H Q R k e
 refine ht _ _ _ h Hb G A σ H _ R (fun vx x H1 L1 rx hx=> ?_) e
 subst rx
 cases vx with
 | true=>exact iteT (ha _ _ _ (by simpa using hx) Hb G A σ H1 _ (R.le L1) (fun v d H' L=>k v d H' (L1.trans L)) (fun cls dd x H' L=>e cls dd x H' (L1.trans L)))
 | false=>exact iteF (hb _ _ _ (by simpa using hx) Hb G A σ H1 _ (R.le L1) (fun v d H' L=>k v d H' (L1.trans L)) (fun cls dd x H' L=>e cls dd x H' (L1.trans L)))
def chain3 (r r':T→T→(T→Prop)→Prop) (a b d:E3):E3:=fun σ Q X=>a σ (fun x=>b σ (fun y=>r x y fun z=>ob (asB z) fun k=>if k=true then d σ (fun w=>r' y w Q) X else Q (.bl false)) X) X
theorem lift_chain {r r':R2} {q q':T→T→(T→Prop)→Prop} {tc:TE} {d:E3} (hr:RL2 K r q) (hr':RL2 K r' q') (ha:Lift K c W ta a) (hb:Lift K c W tb b) (hc:Lift K c W tc d):Lift K c W (tChain r r' ta tb tc) (chain3 q q' a b d):=by
 intro σ3 Q3 X h Hb G A σ H Q R k e
 refine ha _ _ _ h Hb G A σ H _ R (fun vx x H1 L1 rx hx=> ?_) e
 refine hb _ _ _ hx Hb G A σ H1 _ (R.le L1) (fun vy y H2 L2 ry hy=> ?_) (fun cls dd x H' L=>e cls dd x H' (L1.trans L))
 refine hr c _ _ _ hy Hb G A σ3 σ H2 vx vy _ ((R.le L1).le L2) (rx.mono L2.vis) ry (fun vz z H3 L3 rz hz=> ?_)
 obtain ⟨j,eb,hz2⟩:=ob_iff.mp hz
 cases asB_is eb
 refine ⟨j,rz.blI, ?_⟩
 have L:=(L1.trans L2).trans L3
 cases j with
 | false=>exact iteF (k _ _ H3 L (.bl false) (by simpa using hz2))
 | true=>
   refine iteT ?_
   refine hc _ _ _ (show d σ3 _ X by simpa using hz2) Hb G A σ H3 _ (R.le L) (fun vw w H4 L4 rw' hw=> ?_) (fun cls dd x H' L'=>e cls dd x H' (L.trans L'))
   exact hr' c _ _ _ hw Hb G A σ3 σ H4 vy vw Q ((R.le L).le L4) (ry.mono (Same.trans L3.vis L4.vis)) rw' (fun v d H5 L5=>k v d H5 ((L.trans L4).trans L5))
end
structure N3 where
 nx:List Sl→Prop
 rt:T→Prop
 bk:List Sl→Prop:=fun _=>False
 ct:List Sl→Prop:=fun _=>False
 xn:List Sl→Xn→Prop:=fun _ _=>False
abbrev S3:=N3→List Sl→Prop
structure Fin3 (K:PySem.W.Frag) (c:Cf) (Hb:Hp) (G:List Addr) (H:Hp):Prop where
 inv:c.I H
 base:Same (hid (c.S0++G) Hb) (hid (c.S0++G) H)
 gk:∀a∈G,H a=Hb a
theorem R3.fin {K:PySem.W.Frag} {c:Cf} {Hb H:Hp} {G:List Addr} {A:List (Option Addr)} {σ3:List Sl} {σ:St} (r:R3 K c Hb G A σ3 σ H):Fin3 K c Hb G H:=
 ⟨r.inv,Same.trans r.base (hid_mono fun a h=>by rcases List.mem_append.mp h with h | h;exact mem_S.mpr (.inl h);exact mem_S.mpr (.inr (.inl h))),fun a h=>(r.gk a h).1⟩
theorem hid_fin {c:Cf} {H:Hp} {G:List Addr} {A:List (Option Addr)}:Same (hid (c.S G A) H) (hid (c.S0++G) H):=
 hid_mono fun a h=>by rcases List.mem_append.mp h with h | h;exact mem_S.mpr (.inl h);exact mem_S.mpr (.inr (.inl h))
def FinO (K:PySem.W.Frag) (c:Cf) (Hb:Hp) (G:List Addr) (H:Hp) (v:V) (d:T):Prop:=
 ∃D,v= .ref D∧D ∉ c.S0++G∧c.I H∧Same (hid (c.S0++G) Hb) (hid (D::(c.S0++G)) H)∧(∀a∈G,H a=Hb a)∧OwnRep K (hid (D::(c.S0++G)) H) H D d
def FinR (K:PySem.W.Frag) (c:Cf) (Hb:Hp) (G:List Addr) (H:Hp) (v:V) (d:T):Prop:=
 match c.fr with
 | false=>Fin3 K c Hb G H∧Rep K (hid (c.S0++G) H) v d
 | true=>FinO K c Hb G H v d
theorem FinR.val {K:PySem.W.Frag} {c:Cf} {Hb:Hp} {G:List Addr} {H:Hp} {v:V} {d:T} (e:c.fr=false) (F:Fin3 K c Hb G H) (r:Rep K (hid (c.S0++G) H) v d):FinR K c Hb G H v d:=by
 unfold FinR
 rw [e]
 exact ⟨F,r⟩
theorem FinR.new {K:PySem.W.Frag} {c:Cf} {Hb:Hp} {G:List Addr} {H:Hp} {v:V} {d:T} (e:c.fr=true) (F:FinO K c Hb G H v d):FinR K c Hb G H v d:=by
 unfold FinR
 rw [e]
 exact F
structure To (K:PySem.W.Frag) (c:Cf) (W:WX) (Hb:Hp) (G:List Addr) (N:N3) (D:Ends):Prop where
 nx:∀A σ3 σ H,R3 K c Hb G A σ3 σ H→N.nx σ3→D.nx σ H
 rt:∀v d H,FinR K c Hb G H v d→N.rt d→D.rt v H
 bk:∀A σ3 σ H,R3 K c Hb G A σ3 σ H→N.bk σ3→D.bk σ H
 ct:∀A σ3 σ H,R3 K c Hb G A σ3 σ H→N.ct σ3→D.ct σ H
 xn:∀A σ3 σ H cls dd x,R3 K c Hb G A σ3 σ H→XRep K (hid (c.S G A) H) cls dd x→N.xn σ3 x→W cls dd σ H
def LiftS (K:PySem.W.Frag) (c:Cf) (W:WX) (ts:TS) (t:S3):Prop:=
 ∀N σ3,t N σ3→∀Hb G A σ H (D:Ends),R3 K c Hb G A σ3 σ H→To K c W Hb G N D→ts D σ H
def next3:S3:=fun N σ=>N.nx σ
def seq3 (t u:S3):S3:=fun N σ=>t {N with nx:=u N} σ
def brk3:S3:=fun N σ=>N.bk σ
def cont3:S3:=fun N σ=>N.ct σ
def drop3 (a:E3):S3:=fun N σ=>a σ (fun _=>N.nx σ) (N.xn σ)
def ret3 (a:E3):S3:=fun N σ=>a σ N.rt (N.xn σ)
def retN3:S3:=fun N _=>N.rt .non
def ifs3 (c:B3) (t u:S3):S3:=fun N σ=>c σ (fun b=>if b=true then t N σ else u N σ) (N.xn σ)
abbrev TG3:=T→List Sl→(List Sl→Prop)→Prop
def name3 (i:Nat):TG3:=fun d σ Q=>Q (σ.set i (.val d))
def Sets (vs:List Nat) (A A':List (Option Addr)) (σ σ':St):Prop:=σ'.length=σ.length∧(∀j:Nat,j ∉ vs→σ'[j]? =σ[j]? ∧A'[j]? =A[j]?)∧∀a∈addrs A',a∈addrs A
theorem Sets.mono {vs ws:List Nat} {A A':List (Option Addr)} {σ σ':St} (h:Sets vs A A' σ σ') (s:∀j∈vs,j∈ws):Sets ws A A' σ σ':=⟨h.1,fun j hj=>h.2.1 j fun z=>hj (s j z),h.2.2⟩
theorem Sets.trans {vs:List Nat} {A A1 A2:List (Option Addr)} {σ σ1 σ2:St} (a:Sets vs A A1 σ σ1) (b:Sets vs A1 A2 σ1 σ2):Sets vs A A2 σ σ2:=
 ⟨b.1.trans a.1,fun j hj=>⟨(b.2.1 j hj).1.trans (a.2.1 j hj).1,(b.2.1 j hj).2.trans (a.2.1 j hj).2⟩,fun x z=>a.2.2 x (b.2.2 x z)⟩
def LiftTgB (K:PySem.W.Frag) (c:Cf) (w:Bool) (vs:List Nat) (g:TG) (g3:TG3):Prop:=
 ∀d σ3 Q3,g3 d σ3 Q3→∀Hb G A σ H v Q,R3 K c Hb G A σ3 σ H→RepB K w (hid (c.S G A) H) v d→
  (∀A' σ3' σ' H',R3 K c Hb G A' σ3' σ' H'→H'=H→Sets vs A A' σ σ'→Q3 σ3'→Q σ' H')→g v σ H Q
abbrev LiftTg (K:PySem.W.Frag) (c:Cf) (vs:List Nat) (g:TG) (g3:TG3):Prop:=LiftTgB K c false vs g g3
def asg3 (a:E3) (g:TG3):S3:=fun N σ=>a σ (fun d=>g d σ N.nx) (N.xn σ)
section
variable {K:PySem.W.Frag} {c:Cf} {W:WX} {ta tb te:TE} {a b e:E3} {t u:TS} {x y:S3}
theorem lift_next:LiftS K c W tNext next3:=fun N σ3 h Hb G A σ H D R Z=>Z.nx _ _ _ _ R h
theorem lift_seq (h1:LiftS K c W t x) (h2:LiftS K c W u y):LiftS K c W (tSeq t u) (seq3 x y):=by
 intro N σ3 h Hb G A σ H D R Z
 exact h1 _ _ h Hb G A σ H _ R ⟨fun A' σ3' σ' H' R' q=>h2 _ _ q Hb G A' σ' H' D R' Z,Z.rt,Z.bk,Z.ct,Z.xn⟩
theorem lift_ret (ha:Lift K c W ta a) (ef:c.fr=false:=by rfl):LiftS K c W (tRet ta) (ret3 a):=by
 intro N σ3 h Hb G A σ H D R Z
 exact ha _ _ _ h Hb G A σ H _ R (fun v d H' L r q=>Z.rt _ _ _ (.val ef (R.le L).fin (r.mono hid_fin)) q) (fun cls dd x H' L r q=>Z.xn _ _ _ _ _ _ _ (R.le L) r q)
theorem lift_ifs {k:TT} {z:B3} (hc:LiftT K c W k z) (h1:LiftS K c W t x) (h2:LiftS K c W u y):LiftS K c W (tIfS k t u) (ifs3 z x y):=by
 intro N σ3 h Hb G A σ H D R Z
 refine hc _ _ _ h Hb G A σ H _ R (fun vx w H' L r q=> ?_) (fun cls dd x H' L r q=>Z.xn _ _ _ _ _ _ _ (R.le L) r q)
 subst r
 cases vx with
 | true=>exact iteT (h1 _ _ (by simpa using q) Hb G A σ H' D (R.le L) Z)
 | false=>exact iteF (h2 _ _ (by simpa using q) Hb G A σ H' D (R.le L) Z)
theorem lift_name (i:Nat) {vs:List Nat} (hi:i∈vs):LiftTg K c vs (gName i) (name3 i):=by
 intro d σ3 Q3 h Hb G A σ H v Q R r k
 exact k _ _ _ _ (R.set i r.f) rfl ⟨by rw [List.length_set],fun j hj=>by
  have:i≠j:=fun z=>by subst z;exact hj hi
  rw [List.getElem?_set_ne this,List.getElem?_set_ne this];exact ⟨rfl,rfl⟩,addrs_set_sub⟩ h
theorem lift_asg {vs:List Nat} {g:TG} {g3:TG3} (ha:Lift K c W ta a) (hg:LiftTg K c vs g g3):LiftS K c W (tAsg ta g) (asg3 a g3):=by
 intro N σ3 h Hb G A σ H D R Z
 refine ha _ _ _ h Hb G A σ H _ R (fun v d H' L r q=> ?_) (fun cls dd x H' L r q=>Z.xn _ _ _ _ _ _ _ (R.le L) r q)
 exact hg _ _ _ q Hb G A σ H' v _ (R.le L) (.inl r) (fun A' σ3' σ' H2 R' _ _ q'=>Z.nx _ _ _ _ R' q')
end
def gnil3:List T→List Sl→(List Sl→Prop)→Prop:=fun ds σ Q=>match ds with | []=>Q σ | _=>False
def gcons3 (g:TG3) (r:List T→List Sl→(List Sl→Prop)→Prop):List T→List Sl→(List Sl→Prop)→Prop:=fun ds σ Q=>match ds with | d::l=>g d σ fun σ'=>r l σ' Q | []=>False
def gtup3 (n:Nat) (r:List T→List Sl→(List Sl→Prop)→Prop):TG3:=fun d σ Q=>ob (asT d) fun ds=>ds.length=n∧r ds σ Q
def LiftTgs (K:PySem.W.Frag) (c:Cf) (ws:List Nat) (g:TGs) (g3:List T→List Sl→(List Sl→Prop)→Prop):Prop:=
 ∀ds σ3 Q3,g3 ds σ3 Q3→∀Hb G A σ H vs Q,R3 K c Hb G A σ3 σ H→RepL K (hid (c.S G A) H) vs ds→
  (∀A' σ3' σ' H',R3 K c Hb G A' σ3' σ' H'→H'=H→Sets ws A A' σ σ'→Q3 σ3'→Q σ' H')→g vs σ H Q
section
variable {K:PySem.W.Frag} {c:Cf} {ws:List Nat}
theorem lift_gnil:LiftTgs K c ws gNil gnil3:=by
 intro ds σ3 Q3 h Hb G A σ H vs Q R r k
 cases r with
 | cons _ _=>exact h.elim
 | nil=>exact ⟨rfl,k _ _ _ _ R rfl ⟨rfl,fun _ _=>⟨rfl,rfl⟩,fun _ z=>z⟩ h⟩
theorem lift_gcons {g:TG} {g3:TG3} {u:TGs} {u3:List T→List Sl→(List Sl→Prop)→Prop} (h1:LiftTg K c ws g g3) (h2:LiftTgs K c ws u u3):LiftTgs K c ws (gCons g u) (gcons3 g3 u3):=by
 intro ds σ3 Q3 h Hb G A σ H vs Q R r k
 cases r with
 | nil=>exact h.elim
 | cons r1 r2=>
   refine ⟨_,_,rfl,h1 _ _ _ h Hb G A σ H _ _ R (.inl r1) (fun A' σ3' σ' H' R' e sub q=> ?_)⟩
   subst e
   exact h2 _ _ _ q Hb G A' σ' H' _ _ R' (RepL.mono r2 (hid_mono (S_sub sub.2.2))) (fun A2 σ2 σ2' H2 R2 e2 sub2 q2=>k _ _ _ _ R2 e2 (sub.trans sub2) q2)
theorem lift_gtup {n:Nat} {u:TGs} {u3:List T→List Sl→(List Sl→Prop)→Prop} {w:Bool} (h:LiftTgs K c ws u u3):LiftTgB K c w ws (gTup K n u) (gtup3 n u3):=by
 intro d σ3 Q3 hh Hb G A σ H v Q R r k
 obtain ⟨ds,ed,hl,hh1⟩:=ob_iff.mp hh
 cases asT_is ed
 obtain ⟨a,vs,rfl,hs,rl⟩:=r.tupI
 exact ⟨a,vs,rfl,Same.sqT hid_same hs,by rw [rl.length];exact hl,h _ _ _ hh1 Hb G A σ H vs Q R rl k⟩
end
abbrev F3:=List T→(T→Prop)→X3→Prop
def sp3 (K:PySem.W.Frag) (n:Nat) (f:F3):Sp:=fun vs H Q E=>∃S ds,ds.length=n∧RepL K (hid S H) vs ds∧(∀a∈S,H a≠none)∧∃Q3 X,f ds Q3 X∧
 (∀v d H',Same (hid S H) (hid S H')→(∀a∈S,H' a=H a)→Rep K (hid S H') v d→Q3 d→Q v H')∧
 (∀cls dd x H',Same (hid S H) (hid S H')→(∀a∈S,H' a=H a)→XRep K (hid S H') cls dd x→X x→E cls dd H')
theorem sp3_len {K:PySem.W.Frag} {n:Nat} {f:F3} {ps:List Str} (h:ps.length=n):∀vs H Q E,sp3 K n f vs H Q E→vs.length=ps.length:=by
 intro vs H Q E h'
 obtain ⟨S,ds,hl,r,_⟩:=h'
 rw [r.length,hl,h]
def cf0:Cf:=⟨[],fun _=>True,fun _ _ _ _ h=>h,fun _ _ a h=>(by cases h),fun _=>True,fun _=>trivial,fun _ _=>trivial,false⟩
def start3 (n:Nat) (ds:List T):List Sl:=ds.map Sl.val++List.replicate (n-ds.length) Sl.no
theorem start_eq (N:List Str) (vs:List V):start N vs=vs.map some++List.replicate (N.length-vs.length) none:=rfl
theorem r3_start {K:PySem.W.Frag} {c:Cf} {H:Hp} {G:List Addr} {N:List Str} {vs:List V} {ds:List T} (hI:c.I H) (hG:∀a∈G,H a≠none∧a ∉ c.S0) (hV:∀o,c.gOk o) (r:RepL K (hid (c.S0++G) H) vs ds):
 R3 K c H G (List.replicate ((start3 N.length ds).length) none) (start3 N.length ds) (start N vs) H:=by
 have hA:addrs (List.replicate ((start3 N.length ds).length) none)=[]:=by
  unfold addrs
  rw [List.filterMap_replicate_of_none rfl]
 have hS:c.S G (List.replicate ((start3 N.length ds).length) none)=c.S0++G:=by
  unfold Cf.S
  rw [hA,List.append_nil]
 have hl:=r.length
 refine ⟨hI,by rw [hS];exact Same.refl _,fun a h=>⟨rfl,hG a h⟩,fun a _ o _=>hV o,by rw [hA];exact List.nodup_nil,(by rw [hA];intro a h;cases h),(by simp),(by rw [start_eq];unfold start3;simp [hl]), ?_⟩
 rw [hS]
 intro i s o x h1 h2 h3
 have ho:o=none:=by
  have:=List.mem_of_getElem? h2
  exact (List.mem_replicate.mp this).2
 subst ho
 unfold start3 at h1
 rw [start_eq] at h3
 by_cases hi:i<ds.length
 · rw [List.getElem?_append_left (by simpa using hi),List.getElem?_map] at h1
   rw [List.getElem?_append_left (by rw [List.length_map,hl];exact hi),List.getElem?_map] at h3
   cases e1:ds[i]? with
   | none=>rw [e1] at h1;cases h1
   | some d=>
     rw [e1] at h1
     cases h1
     obtain ⟨v,e2,rv⟩:=r.get e1
     rw [e2] at h3
     cases h3
     exact ⟨rfl,v,rfl,rv⟩
 · rw [List.getElem?_append_right (by simpa using hi)] at h1
   have:=List.mem_of_getElem? h1
   have hs:=(List.mem_replicate.mp this).2
   subst hs
   rfl
theorem body3 {K:PySem.W.Frag} {n:Nat} {f:F3} {N:List Str} {t:TS} {x:S3} {W:WX} {vs:List V} {H:Hp} {Q:VK} {E:XK} (h:sp3 K n f vs H Q E) (hW:∀cls dd σ H',E cls dd H'→W cls dd σ H')
 (lt:LiftS K cf0 W t x) (hb:∀ds Q3 X,ds.length=n→f ds Q3 X→x {nx:=fun _=>Q3 .non,rt:=Q3,xn:=fun _=>X} (start3 N.length ds)):t {nx:=fun _ H'=>Q .non H',rt:=Q} (start N vs) H:=by
 obtain ⟨S,ds,hl,r,hS,Q3,X,hf,hq,hx⟩:=h
 refine lt _ _ (hb ds Q3 X hl hf) H S _ _ H _ (r3_start (c:=cf0) (N:=N) trivial (fun a h=>⟨hS a h,fun z=>by cases z⟩) (fun _=>trivial) r) ⟨?_, ?_,fun _ _ _ _ _ z=>z.elim,fun _ _ _ _ _ z=>z.elim, ?_⟩
 · intro A σ3 σ H' R q
   exact hq _ _ _ R.fin.base (fun a h=>R.fin.gk a h) .non q
 · rintro v d H' ⟨F,rv⟩ q
   exact hq _ _ _ F.base (fun a h=>F.gk a h) rv q
 · intro A σ3 σ H' cls dd xn R rx q
   refine hW _ _ _ _ (hx cls dd xn H' R.fin.base (fun a h=>R.fin.gk a h) ?_ q)
   obtain ⟨e,rx⟩:=rx
   refine ⟨e, ?_⟩
   cases dd with
   | none=>exact rx
   | some d=>
     obtain ⟨fs,h1,h2,h3⟩:=rx
     exact ⟨fs,hid_fin _ _ h1,h2,h3.mono hid_fin⟩
theorem sameX_of {S:List Addr} {H H':Hp} (s1:Same (hid S H) (hid S H')) (s2:∀a∈S,H' a=H a):SameX H H':=fun a φ e=>by
 by_cases h:a∈S
 · rw [s2 a h];exact e
 · exact (hid_some (s1 _ _ (hid_mk e h))).1
theorem sp3_call {K:PySem.W.Frag} {c:Cf} {n:Nat} {f:F3} {Hb H1:Hp} {G:List Addr} {A:List (Option Addr)} {σ3:List Sl} {σ:St} {vs:List V} {ds:List T} {Q:VK} {E:XK} {Q3:T→Prop} {X:X3} (R1:R3 K c Hb G A σ3 σ H1)
 (rx:RepL K (hid (c.S G A) H1) vs ds) (hl:ds.length=n) (hf:f ds Q3 X) (k:∀v d H',Le c G A H1 H'→Rep K (hid (c.S G A) H') v d→Q3 d→Q v H') (e:∀cls dd x H',Le c G A H1 H'→XRep K (hid (c.S G A) H') cls dd x→X x→E cls dd H'):sp3 K n f vs H1 Q E:=by
 have le:∀H',Same (hid (c.S G A) H1) (hid (c.S G A) H')→(∀a∈c.S G A,H' a=H1 a)→Le c G A H1 H':=fun H' s1 s2=>
  ⟨s1,fun a ha=>s2 a (mem_S.mpr (by rcases List.mem_append.mp ha with z | z;exact .inr (.inl z);exact .inr (.inr z))),c.st H1 H' (fun a ha=>s2 a (mem_S.mpr (.inl ha))) (sameX_of s1 s2) R1.inv⟩
 exact ⟨c.S G A,ds,hl,rx,fun a h=>R1.there h,Q3,X,hf,fun v d H' s1 s2 rv q=>k v d H' (le H' s1 s2) rv q,fun cls dd xn H' s1 s2 rv q=>e cls dd xn H' (le H' s1 s2) rv q⟩
def fn3 (n:Nat) (f:F3) (x:A3) (dvs:List T):E3:=fun σ Q X=>x σ (fun ds=>(ds++dvs).length=n∧f (ds++dvs) Q X) X
def fn30 (n:Nat) (f:F3) (x:A3) (dvs:List T):E3:=fun σ Q X=>x σ (fun ds=>(ds++dvs).length=n∧f (ds++dvs) Q (fun _=>False)) X
theorem lift_call0 {K:PySem.W.Frag} {c:Cf} {n:Nat} {f:F3} {W:WX} {E:XK} {t:TA} {x:A3} {dvs:List V} {dts:List T} (ha:LiftA K c W t x) (hd:∀H,RepL K H dvs dts):
 Lift K c W (tCall (sp3 K n f) dvs E t) (fn30 n f x dts):=by
 intro σ3 Q3 X h Hb G A σ H Q R k e
 refine ha _ _ _ h Hb G A σ H _ R (fun vs ds H1 L1 rx hx=> ?_) e
 exact sp3_call (R.le L1) (rx.append (hd _)) hx.1 hx.2 (fun v d H' L r q=>k v d H' (L1.trans L) r q) (fun cls dd x H' L r q=>q.elim)
theorem lift_call {K:PySem.W.Frag} {c:Cf} {n:Nat} {f:F3} {W:WX} {E:XK} {t:TA} {x:A3} {dvs:List V} {dts:List T} (hE:∀cls dd σ H,W cls dd σ H→E cls dd H) (ha:LiftA K c W t x) (hd:∀H,RepL K H dvs dts):
 Lift K c W (tCall (sp3 K n f) dvs E t) (fn3 n f x dts):=by
 intro σ3 Q3 X h Hb G A σ H Q R k e
 refine ha _ _ _ h Hb G A σ H _ R (fun vs ds H1 L1 rx hx=> ?_) e
 exact sp3_call (R.le L1) (rx.append (hd _)) hx.1 hx.2 (fun v d H' L r q=>k v d H' (L1.trans L) r q) (fun cls dd x H' L r q=>hE _ _ σ _ (e cls dd x H' (L1.trans L) r q))
end M3
namespace M3
open PySem L2
def i2 (g:Int→Int→T):T→T→(T→Prop)→Prop:=fun x y Q=>ob (asI x) fun i=>ob (asI y) fun j=>Q (g i j)
def i2c (C:Int→Int→Prop) (g:Int→Int→T):T→T→(T→Prop)→Prop:=fun x y Q=>ob (asI x) fun i=>ob (asI y) fun j=>C i j∧Q (g i j)
def i1 (g:Int→T):T→(T→Prop)→Prop:=fun x Q=>ob (asI x) fun i=>Q (g i)
section
variable {K:PySem.W.Frag}
theorem rl_I0 {g:Int→Int→V} {g3:Int→Int→T} (h:∀i j H,Rep K H (g i j) (g3 i j)):RL2 K (rI0 g) (i2 g3):=by
 intro c x y Q3 hh Hb G A σ3 σ H vx vy Q R rx ry k
 obtain ⟨i,ei,hh1⟩:=ob_iff.mp hh
 obtain ⟨j,ej,q⟩:=ob_iff.mp hh1
 cases asI_is ei
 cases asI_is ej
 exact ⟨i,j,rx.intI,ry.intI,k _ _ H (Le.refl R.inv) (h i j _) q⟩
theorem rl_I {C:Int→Int→Prop} {g:Int→Int→V} {g3:Int→Int→T} (h:∀i j H,Rep K H (g i j) (g3 i j)):RL2 K (rI C g) (i2c C g3):=by
 intro c x y Q3 hh Hb G A σ3 σ H vx vy Q R rx ry k
 obtain ⟨i,ei,hh1⟩:=ob_iff.mp hh
 obtain ⟨j,ej,hc,q⟩:=ob_iff.mp hh1
 cases asI_is ei
 cases asI_is ej
 exact ⟨i,j,rx.intI,ry.intI,hc,k _ _ H (Le.refl R.inv) (h i j _) q⟩
theorem rl_U {g:Int→V} {g3:Int→T} (h:∀i H,Rep K H (g i) (g3 i)):RL1 K (rU g) (i1 g3):=by
 intro c x Q3 hh Hb G A σ3 σ H vx Q R rx k
 obtain ⟨i,ei,q⟩:=ob_iff.mp hh
 cases asI_is ei
 exact ⟨i,rx.intI,k _ _ H (Le.refl R.inv) (h i _) q⟩
abbrev add3:=i2 fun i j=>.int (i+j)
abbrev sub3:=i2 fun i j=>.int (i-j)
abbrev mulW3:=i2c CMulW fun i j=>.int (i * j)
abbrev fdivW3:=i2c CDivW fun i j=>.int (i / j)
abbrev mod3:=i2c (fun _ j=>0<j) fun i j=>.int (i % j)
abbrev pow3:=i2c CPow fun i j=>.int (i ^ j.toNat)
abbrev lt3:=i2 fun i j=>.bl (decide (i<j))
abbrev le3:=i2 fun i j=>.bl (decide (i≤j))
abbrev gt3:=i2 fun i j=>.bl (decide (j<i))
abbrev neg3:=i1 fun i=>.int (-i)
theorem rl_add:RL2 K (rI0 fun i j=>.int (i+j)) add3:=rl_I0 fun _ _ _=>.int _
theorem rl_sub:RL2 K (rI0 fun i j=>.int (i-j)) sub3:=rl_I0 fun _ _ _=>.int _
theorem rl_mulW:RL2 K (rI CMulW fun i j=>.int (i * j)) mulW3:=rl_I fun _ _ _=>.int _
theorem rl_fdivW:RL2 K (rI CDivW fun i j=>.int (i / j)) fdivW3:=rl_I fun _ _ _=>.int _
theorem rl_mod:RL2 K (rI (fun _ j=>0<j) fun i j=>.int (i % j)) mod3:=rl_I fun _ _ _=>.int _
theorem rl_pow:RL2 K (rI CPow fun i j=>.int (i ^ j.toNat)) pow3:=rl_I fun _ _ _=>.int _
theorem rl_lt:RL2 K (rI0 fun i j=>.bl (decide (i<j))) lt3:=rl_I0 fun _ _ _=>.bl _
theorem rl_le:RL2 K (rI0 fun i j=>.bl (decide (i≤j))) le3:=rl_I0 fun _ _ _=>.bl _
theorem rl_gt:RL2 K (rI0 fun i j=>.bl (decide (j<i))) gt3:=rl_I0 fun _ _ _=>.bl _
theorem rl_neg:RL1 K (rU fun i=>.int (-i)) neg3:=rl_U fun _ _=>.int _
def isNon:T→Bool
 | .non=>true
 | _=>false
def isN3:T→T→(T→Prop)→Prop:=fun x y Q=>ob (asN y) fun _=>Q (.bl (isNon x))
def notN3:T→T→(T→Prop)→Prop:=fun x y Q=>ob (asN y) fun _=>Q (.bl (!isNon x))
theorem Rep.isNon {H:Hp} {v:V} {t:T} (r:Rep K H v t):decide (v= .non)=M3.isNon t:=by cases r<;>rfl
theorem rl_isN:RL2 K (fun x y H Q=>y= .non∧Q (.bl (decide (x= .non))) H) isN3:=by
 intro c x y Q3 hh Hb G A σ3 σ H vx vy Q R rx ry k
 obtain ⟨_,en,q⟩:=ob_iff.mp hh
 cases asN_is en
 exact ⟨ry.nonI,by rw [rx.isNon];exact k _ _ H (Le.refl R.inv) (.bl _) q⟩
theorem rl_notN:RL2 K (fun x y H Q=>y= .non∧Q (.bl (!decide (x= .non))) H) notN3:=by
 intro c x y Q3 hh Hb G A σ3 σ H vx vy Q R rx ry k
 obtain ⟨_,en,q⟩:=ob_iff.mp hh
 cases asN_is en
 exact ⟨ry.nonI,by rw [rx.isNon];exact k _ _ H (Le.refl R.inv) (.bl _) q⟩
def flatT:T→Option V
 | .non=>some .non
 | .bl b=>some (.bl b)
 | .int i=>some (.int i)
 | .str x=>some (.str x)
 | _=>none
theorem Rep.flat {H:Hp} {v w:V} {t:T} (r:Rep K H v t) (h:flatT t=some w):v=w:=by cases r<;>cases h<;>rfl
def eqS3:T→T→(T→Prop)→Prop:=fun x y Q=>ob (flatT x) fun v=>ob (flatT y) fun w=>scal v w=true∧Q (.bl (decide (v=w)))
def neS3:T→T→(T→Prop)→Prop:=fun x y Q=>ob (flatT x) fun v=>ob (flatT y) fun w=>scal v w=true∧Q (.bl (!decide (v=w)))
theorem rl_eqS:RL2 K rEq eqS3:=by
 intro c x y Q3 hh Hb G A σ3 σ H vx vy Q R rx ry k
 obtain ⟨v,h1,hh1⟩:=ob_iff.mp hh
 obtain ⟨w,h2,h3,q⟩:=ob_iff.mp hh1
 rw [rx.flat h1,ry.flat h2]
 exact ⟨h3,k _ _ H (Le.refl R.inv) (.bl _) q⟩
theorem rl_neS:RL2 K rNe neS3:=by
 intro c x y Q3 hh Hb G A σ3 σ H vx vy Q R rx ry k
 obtain ⟨v,h1,hh1⟩:=ob_iff.mp hh
 obtain ⟨w,h2,h3,q⟩:=ob_iff.mp hh1
 rw [rx.flat h1,ry.flat h2]
 exact ⟨h3,k _ _ H (Le.refl R.inv) (.bl _) q⟩
def items:T→Option (List T)
 | .lst xs=>some xs
 | .tup xs=>some xs
 | _=>none
def ixL3:T→T→(T→Prop)→Prop:=fun x y Q=>ob (asL x) fun xs=>ob (asI y) fun i=>ob (atI xs i) Q
def ixT3:T→T→(T→Prop)→Prop:=fun x y Q=>ob (asT x) fun xs=>ob (asI y) fun i=>ob (atI xs i) Q
theorem RepL.atI {H:Hp} {vs:List V} {ts:List T} {i:Int} {t:T} (r:RepL K H vs ts) (h:L2.atI ts i=some t):∃v,L2.atI vs i=some v∧Rep K H v t:=by
 unfold L2.atI at h ⊢
 rw [r.length]
 cases e:ixN ts.length i with
 | none=>rw [e] at h;cases h
 | some j=>
   rw [e] at h
   exact r.get h
theorem rl_ixL:RL2 K (rIxL K) ixL3:=by
 intro c x y Q3 hh Hb G A σ3 σ H vx vy Q R rx ry k
 obtain ⟨xs,ex,hh1⟩:=ob_iff.mp hh
 obtain ⟨i,ei,hh2⟩:=ob_iff.mp hh1
 obtain ⟨t,h,q⟩:=ob_iff.mp hh2
 cases asL_is ex
 cases asI_is ei
 obtain ⟨a,vs,rfl,ha,rl⟩:=rx.lstI
 obtain ⟨v,h1,h2⟩:=rl.atI h
 exact ⟨a,vs,i,v,rfl,ry.intI,SqL.of (hid_same _ _ ha),h1,k _ _ H (Le.refl R.inv) h2 q⟩
theorem rl_ixT:RL2 K (rIxT K) ixT3:=by
 intro c x y Q3 hh Hb G A σ3 σ H vx vy Q R rx ry k
 obtain ⟨xs,ex,hh1⟩:=ob_iff.mp hh
 obtain ⟨i,ei,hh2⟩:=ob_iff.mp hh1
 obtain ⟨t,h,q⟩:=ob_iff.mp hh2
 cases asT_is ex
 cases asI_is ei
 obtain ⟨a,vs,rfl,ha,rl⟩:=rx.tupI
 obtain ⟨v,h1,h2⟩:=rl.atI h
 exact ⟨a,vs,i,v,rfl,ry.intI,Same.sqT hid_same ha,h1,k _ _ H (Le.refl R.inv) h2 q⟩
def ixS3:T→T→(T→Prop)→Prop:=fun x y Q=>ob (asS x) fun z=>ob (asI y) fun i=>z.length≤sizeLine∧ob (atI z.cps.toList i) fun c=>Q (.str ⟨#[c]⟩)
theorem rl_ixS:RL2 K rIxS ixS3:=by
 intro c x y Q3 hh Hb G A σ3 σ H vx vy Q R rx ry k
 obtain ⟨z,ez,hh1⟩:=ob_iff.mp hh
 obtain ⟨i,ei,h,hh2⟩:=ob_iff.mp hh1
 obtain ⟨t,h1,q⟩:=ob_iff.mp hh2
 cases asS_is ez
 cases asI_is ei
 exact ⟨z,i,t,rx.strI,ry.intI,h,h1,k _ _ H (Le.refl R.inv) (.str _) q⟩
theorem RL2.or {r r':R2} {q q':T→T→(T→Prop)→Prop} (h:RL2 K r q) (h':RL2 K r' q'):RL2 K (fun x y H Q=>r x y H Q∨r' x y H Q) (fun x y Q=>q x y Q∨q' x y Q):=by
 intro c x y Q3 hh Hb G A σ3 σ H vx vy Q R rx ry k
 rcases hh with hh | hh
 · exact .inl (h c x y Q3 hh Hb G A σ3 σ H vx vy Q R rx ry k)
 · exact .inr (h' c x y Q3 hh Hb G A σ3 σ H vx vy Q R rx ry k)
theorem RLn.or {r r':List V→Hp→VK→Prop} {q q':List T→(T→Prop)→Prop} (h:RLn K r q) (h':RLn K r' q'):RLn K (fun x H Q=>r x H Q∨r' x H Q) (fun x Q=>q x Q∨q' x Q):=by
 intro c x Q3 hh Hb G A σ3 σ H vx Q R rx k
 rcases hh with hh | hh
 · exact .inl (h c x Q3 hh Hb G A σ3 σ H vx Q R rx k)
 · exact .inr (h' c x Q3 hh Hb G A σ3 σ H vx Q R rx k)
def lenT:T→Option Nat
 | .lst xs=>some xs.length
 | .tup xs=>some xs.length
 | .str z=>if z.length≤sizeLine then some z.length else none
 | _=>none
def len3:List T→(T→Prop)→Prop:=fun xs Q=>ob (one xs) fun x=>ob (lenT x) fun n=>Q (.int n)
theorem repL_one {H:Hp} {vs:List V} {t:T} (r:RepL K H vs [t]):∃v,vs=[v]∧Rep K H v t:=by
 cases r with
 | cons r q=>cases q;exact ⟨_,rfl,r⟩
theorem repL_two {H:Hp} {vs:List V} {t u:T} (r:RepL K H vs [t,u]):∃v w,vs=[v,w]∧Rep K H v t∧Rep K H w u:=by
 cases r with
 | cons r q=>
   obtain ⟨w,rfl,h⟩:=repL_one q
   exact ⟨_,w,rfl,r,h⟩
theorem rl_len:RLn K (fun xs H Q=>∃x n,xs=[x]∧LenV K x H n∧Q (.int n) H) len3:=by
 intro c xs Q3 hh Hb G A σ3 σ H vs Q R rx k
 obtain ⟨x,ex,hh1⟩:=ob_iff.mp hh
 obtain ⟨n,hn,q⟩:=ob_iff.mp hh1
 cases one_is ex
 obtain ⟨v,rfl,r⟩:=repL_one rx
 refine ⟨v,n,rfl, ?_,k _ _ H (Le.refl R.inv) (.int _) q⟩
 cases x with
 | lst xs=>
   cases hn
   obtain ⟨a,vs,rfl,ha,rl⟩:=r.lstI
   exact .inl ⟨vs,SqL.of (hid_same _ _ ha),by rw [rl.length]⟩
 | tup xs=>
   cases hn
   obtain ⟨a,vs,rfl,ha,rl⟩:=r.tupI
   exact .inr ⟨vs,Same.sqT hid_same ha,by rw [rl.length]⟩
 | str z=>
   cases r.strI
   replace hn:(if z.length≤sizeLine then some z.length else none)=some n:=hn
   by_cases hz:z.length≤sizeLine
   · rw [if_pos hz] at hn;cases hn;exact ⟨hz,rfl⟩
   · rw [if_neg hz] at hn;cases hn
 | _=>cases hn
def bls:List T→Option (List Bool)
 | []=>some []
 | .bl b::r=>(bls r).map (b::·)
 | _=>none
theorem bls_map:∀bs:List Bool,bls (bs.map T.bl)=some bs
 | []=>rfl
 | b::bs=>by show (bls (bs.map T.bl)).map (b::·)=_;rw [bls_map bs];rfl
theorem RepL.bls {H:Hp}:∀ {vs:List V} {ts:List T} {bs:List Bool},RepL K H vs ts→M3.bls ts=some bs→vs=bs.map V.bl
 | _,[],bs,.nil,h=>by cases h;rfl
 | _,t::ts,bs,.cons r q,h=>by
   cases t with
   | bl b=>
     cases e:M3.bls ts with
     | none=>
       have:(M3.bls ts).map (b::·)=some bs:=h
       rw [e] at this;cases this
     | some l=>
       have h':(M3.bls ts).map (b::·)=some bs:=h
       rw [e] at h'
       cases h'
       rw [r.blI,RepL.bls q e,List.map_cons]
   | _=>cases h
def all3:List T→(T→Prop)→Prop:=fun xs Q=>ob (one xs) fun x=>ob (asL x) fun ts=>ob (bls ts) fun bs=>Q (.bl (bs.all id))
def any3:List T→(T→Prop)→Prop:=fun xs Q=>ob (one xs) fun x=>ob (asL x) fun ts=>ob (bls ts) fun bs=>Q (.bl (bs.any id))
theorem rl_all:RLn K (rAll K) all3:=by
 intro c xs Q3 hh Hb G A σ3 σ H vs Q R rx k
 obtain ⟨x,ex,hh1⟩:=ob_iff.mp hh
 obtain ⟨ts,et,hh2⟩:=ob_iff.mp hh1
 obtain ⟨bs,hn,q⟩:=ob_iff.mp hh2
 cases one_is ex
 cases asL_is et
 obtain ⟨v,rfl,r⟩:=repL_one rx
 obtain ⟨a,vs,rfl,ha,rl⟩:=r.lstI
 refine ⟨a,bs,rfl, ?_,k _ _ H (Le.refl R.inv) (.bl _) q⟩
 rw [←rl.bls hn]
 exact SqL.of (hid_same _ _ ha)
def abs3:List T→(T→Prop)→Prop:=fun xs Q=>ob (one xs) fun x=>ob (asI x) fun i=>Q (.int (if i<0 then -i else i))
def max23:List T→(T→Prop)→Prop:=fun xs Q=>ob (two xs) fun p=>ob (asI p.1) fun i=>ob (asI p.2) fun j=>Q (.int (if j>i then j else i))
def min23:List T→(T→Prop)→Prop:=fun xs Q=>ob (two xs) fun p=>ob (asI p.1) fun i=>ob (asI p.2) fun j=>Q (.int (if j<i then j else i))
theorem rl_max2:RLn K (fun xs H Q=>∃i j,xs=[.int i,.int j]∧Q (.int (if j>i then j else i)) H) max23:=by
 intro c xs Q3 hh Hb G A σ3 σ H vs Q R rx k
 obtain ⟨⟨x,y⟩,ex,hh1⟩:=ob_iff.mp hh
 obtain ⟨i,ei,hh2⟩:=ob_iff.mp hh1
 obtain ⟨j,ej,q⟩:=ob_iff.mp hh2
 cases two_is ex
 cases asI_is ei
 cases asI_is ej
 obtain ⟨v,w,rfl,r,s⟩:=repL_two rx
 cases r.intI
 cases s.intI
 exact ⟨i,j,rfl,k _ _ H (Le.refl R.inv) (.int _) q⟩
theorem rl_min2:RLn K (fun xs H Q=>∃i j,xs=[.int i,.int j]∧Q (.int (if j<i then j else i)) H) min23:=by
 intro c xs Q3 hh Hb G A σ3 σ H vs Q R rx k
 obtain ⟨⟨x,y⟩,ex,hh1⟩:=ob_iff.mp hh
 obtain ⟨i,ei,hh2⟩:=ob_iff.mp hh1
 obtain ⟨j,ej,q⟩:=ob_iff.mp hh2
 cases two_is ex
 cases asI_is ei
 cases asI_is ej
 obtain ⟨v,w,rfl,r,s⟩:=repL_two rx
 cases r.intI
 cases s.intI
 exact ⟨i,j,rfl,k _ _ H (Le.refl R.inv) (.int _) q⟩
def tyn:T→Option String
 | .non=>some "NoneType"
 | .bl _=>some "bool"
 | .int _=>some "int"
 | .str _=>some "str"
 | .tup _=>some "tuple"
 | .lst _=>some "list"
 | .dic _=>some "dict"
 | _=>none
theorem sqT_ty {H:Hp} {a:Addr} {vs:List V} (h:SqT K H a vs):TyX K H (.ref a) (.type "tuple"):=by
 rcases h with (h | ⟨o,h⟩) | ⟨o,its,n,h1,h2,_⟩
 · exact .base (.tup h)
 · exact .fTuple h
 · exact .kTuple h1 h2
theorem Rep.ty_ {H:Hp} {v:V} {t:T} {n:String} (r:Rep K H v t) (h:tyn t=some n):TyX K H v (.type n):=by
 cases r with
 | non=>cases h;exact .base .non
 | bl b=>cases h;exact .base (.bl b)
 | int i=>cases h;exact .base (.int i)
 | str x=>cases h;exact .base (.str x)
 | ty n=>cases h
 | ref a=>cases h
 | tup h'=>cases h;exact sqT_ty h'.sq
 | lst h'=>cases h;exact .base (.lst h')
 | dic h'=>
   cases h
   obtain ⟨o,h'⟩:=h'
   exact .fDict h'
 | ins h'=>cases h
def isiB (x c:T):Option Bool:=match c with | .ty n=>(tyn x).bind fun a=>kitB a n | _=>none
def isi3:List T→(T→Prop)→Prop:=fun xs Q=>ob (two xs) fun p=>ob (isiB p.1 p.2) fun b=>Q (.bl b)
theorem TyX.mono {H H':Hp} {v:V} {t:Value} (e:Same H H') (h:TyX K H v t):TyX K H' v t:=by
 cases h with
 | base h=>
   refine .base ?_
   cases h with
   | non=>exact .non
   | bl b=>exact .bl b
   | int i=>exact .int i
   | str x=>exact .str x
   | flt x=>exact .flt x
   | lst h=>exact .lst (e _ _ h)
   | frz h=>exact .frz (e _ _ h)
   | tup h=>exact .tup (e _ _ h)
   | dK h=>exact .dK (e _ _ h)
   | dT h=>exact .dT (e _ _ h)
   | ins h cl ha hn ht hm=>exact .ins (e _ _ h) cl ha hn ht hm
 | byt b=>exact .byt b
 | set h=>exact .set (e _ _ h)
 | kList h c=>exact .kList h c
 | kTuple h c=>exact .kTuple h c
 | kDict h c=>exact .kDict h c
 | fTuple h=>exact .fTuple (e _ _ h)
 | fDict h=>exact .fDict (e _ _ h)
theorem rl_isi:RLn K (rIsi K) isi3:=by
 intro c xs Q3 hh Hb G A σ3 σ H vs Q R rx k
 obtain ⟨⟨x,y⟩,ex,hh1⟩:=ob_iff.mp hh
 obtain ⟨b,hb,q⟩:=ob_iff.mp hh1
 cases two_is ex
 obtain ⟨n,a,rfl,h1,h2⟩:∃n a,y= .ty n∧tyn x=some a∧kitB a n=some b:=by
  cases y with
  | ty n=>
    cases e:tyn x with
    | none=>
      have hb:(tyn x).bind (fun a=>kitB a n)=some b:=hb
      rw [e] at hb
      cases hb
    | some a=>
      have hb:(tyn x).bind (fun a=>kitB a n)=some b:=hb
      rw [e] at hb
      exact ⟨n,a,rfl,rfl,hb⟩
  | _=>cases hb
 obtain ⟨v,w,rfl,r,s⟩:=repL_two rx
 cases s.tyI
 exact ⟨v,_,_,_,b,rfl,.ty n,TyX.mono hid_same (r.ty_ h1),kit_ty h2,k _ _ H (Le.refl R.inv) (.bl _) q⟩
end
theorem kb_non_bool:kitB "NoneType" "bool"=some false:=by decide +kernel
theorem kb_non_int:kitB "NoneType" "int"=some false:=by decide +kernel
theorem kb_non_str:kitB "NoneType" "str"=some false:=by decide +kernel
theorem kb_non_list:kitB "NoneType" "list"=some false:=by decide +kernel
theorem kb_non_tuple:kitB "NoneType" "tuple"=some false:=by decide +kernel
theorem kb_bool_bool:kitB "bool" "bool"=some true:=by decide +kernel
theorem kb_bool_int:kitB "bool" "int"=some true:=by decide +kernel
theorem kb_bool_str:kitB "bool" "str"=some false:=by decide +kernel
theorem kb_bool_list:kitB "bool" "list"=some false:=by decide +kernel
theorem kb_bool_tuple:kitB "bool" "tuple"=some false:=by decide +kernel
theorem kb_int_bool:kitB "int" "bool"=some false:=by decide +kernel
theorem kb_int_int:kitB "int" "int"=some true:=by decide +kernel
theorem kb_int_str:kitB "int" "str"=some false:=by decide +kernel
theorem kb_int_list:kitB "int" "list"=some false:=by decide +kernel
theorem kb_int_tuple:kitB "int" "tuple"=some false:=by decide +kernel
theorem kb_str_bool:kitB "str" "bool"=some false:=by decide +kernel
theorem kb_str_int:kitB "str" "int"=some false:=by decide +kernel
theorem kb_str_str:kitB "str" "str"=some true:=by decide +kernel
theorem kb_str_list:kitB "str" "list"=some false:=by decide +kernel
theorem kb_str_tuple:kitB "str" "tuple"=some false:=by decide +kernel
theorem kb_list_bool:kitB "list" "bool"=some false:=by decide +kernel
theorem kb_list_int:kitB "list" "int"=some false:=by decide +kernel
theorem kb_list_str:kitB "list" "str"=some false:=by decide +kernel
theorem kb_list_list:kitB "list" "list"=some true:=by decide +kernel
theorem kb_list_tuple:kitB "list" "tuple"=some false:=by decide +kernel
theorem kb_tuple_bool:kitB "tuple" "bool"=some false:=by decide +kernel
theorem kb_tuple_int:kitB "tuple" "int"=some false:=by decide +kernel
theorem kb_tuple_str:kitB "tuple" "str"=some false:=by decide +kernel
theorem kb_tuple_list:kitB "tuple" "list"=some false:=by decide +kernel
theorem kb_tuple_tuple:kitB "tuple" "tuple"=some true:=by decide +kernel
theorem kbs:kitB "NoneType" "bool"=some false∧kitB "NoneType" "int"=some false∧kitB "NoneType" "str"=some false∧kitB "NoneType" "list"=some false∧kitB "NoneType" "tuple"=some false∧kitB "bool" "bool"=some true∧kitB "bool" "int"=some true∧kitB "bool" "str"=some false∧kitB "bool" "list"=some false∧kitB "bool" "tuple"=some false∧kitB "int" "bool"=some false∧kitB "int" "int"=some true∧kitB "int" "str"=some false∧kitB "int" "list"=some false∧kitB "int" "tuple"=some false∧kitB "str" "bool"=some false∧kitB "str" "int"=some false∧kitB "str" "str"=some true∧kitB "str" "list"=some false∧kitB "str" "tuple"=some false∧kitB "list" "bool"=some false∧kitB "list" "int"=some false∧kitB "list" "str"=some false∧kitB "list" "list"=some true∧kitB "list" "tuple"=some false∧kitB "tuple" "bool"=some false∧kitB "tuple" "int"=some false∧kitB "tuple" "str"=some false∧kitB "tuple" "list"=some false∧kitB "tuple" "tuple"=some true:=⟨kb_non_bool,kb_non_int,kb_non_str,kb_non_list,kb_non_tuple,kb_bool_bool,kb_bool_int,kb_bool_str,kb_bool_list,kb_bool_tuple,kb_int_bool,kb_int_int,kb_int_str,kb_int_list,kb_int_tuple,kb_str_bool,kb_str_int,kb_str_str,kb_str_list,kb_str_tuple,kb_list_bool,kb_list_int,kb_list_str,kb_list_list,kb_list_tuple,kb_tuple_bool,kb_tuple_int,kb_tuple_str,kb_tuple_list,kb_tuple_tuple⟩
end M3
namespace M3
open PySem L2
structure WalksB (K:PySem.W.Frag) (w:Bool) (V0:Hp) (J:It) (ds:List T):Prop where
 go:∀(i:Nat) d S H,ds[i]? =some d→Same V0 (hid S H)→J.go i H
 yld:∀(i:Nat) d S H x H',ds[i]? =some d→Same V0 (hid S H)→(∀a∈S,H a≠none)→J.yld i H x H'→(H'=H∨∃p o,H p=none∧H'=upd H p o)∧RepB K w (hid S H') x d
 stop:∀S H,Same V0 (hid S H)→J.stop ds.length H
abbrev Walks (K:PySem.W.Frag) (V0:Hp) (J:It) (ds:List T):Prop:=WalksB K false V0 J ds
def LiftIB (K:PySem.W.Frag) (c:Cf) (w:Bool) (W:WX) (wi:TI) (t:A3):Prop:=
 ∀σ3 Q3 X,t σ3 Q3 X→∀Hb G A σ H R',R3 K c Hb G A σ3 σ H→
  (∀J ds H',Le c G A H H'→WalksB K w (hid (c.S G A) H') J ds→Q3 ds→R' J H')→
  (∀cls dd x H',Le c G A H H'→XRep K (hid (c.S G A) H') cls dd x→X x→W cls dd σ H')→wi σ H R'
abbrev LiftI (K:PySem.W.Frag) (c:Cf) (W:WX) (wi:TI) (t:A3):Prop:=LiftIB K c false W wi t
section
variable {K:PySem.W.Frag} {c:Cf} {W:WX} {ta tb te:TE} {a b e:E3}
theorem walks_list {V0:Hp} {a:Addr} {vs:List V} {ds:List T} (h:V0 a=some (.lst vs)) (r:RepL K V0 vs ds):Walks K V0 (Itl K a) ds where
 go:=fun i d S H hd e=>by
  obtain ⟨v,hv,_⟩:=r.get hd
  exact ⟨vs,v,SqL.of (hid_same _ _ (e _ _ h)),hv⟩
 yld:=fun i d S H x H' hd e _ y=>by
  obtain ⟨v,hv,rv⟩:=r.get hd
  obtain ⟨rfl,y⟩:=y
  have z:=y vs (SqL.of (hid_same _ _ (e _ _ h)))
  rw [hv] at z
  cases z
  exact ⟨.inl rfl,.inl (rv.mono e)⟩
 stop:=fun S H e=>⟨vs,SqL.of (hid_same _ _ (e _ _ h)),by rw [r.length];exact Nat.le_refl _⟩
theorem walks_tup {V0:Hp} {a:Addr} {vs:List V} {ds:List T} (h:SqT K V0 a vs) (r:RepL K V0 vs ds):Walks K V0 (Itt K a) ds where
 go:=fun i d S H hd e=>by
  obtain ⟨v,hv,_⟩:=r.get hd
  exact ⟨vs,v,Same.sqT hid_same (Same.sqT e h),hv⟩
 yld:=fun i d S H x H' hd e _ y=>by
  obtain ⟨v,hv,rv⟩:=r.get hd
  obtain ⟨rfl,y⟩:=y
  have z:=y vs (Same.sqT hid_same (Same.sqT e h))
  rw [hv] at z
  cases z
  exact ⟨.inl rfl,.inl (rv.mono e)⟩
 stop:=fun S H e=>⟨vs,Same.sqT hid_same (Same.sqT e h),by rw [r.length];exact Nat.le_refl _⟩
def rangeT (lo:Int) (n:Nat):List T:=(List.range n).map fun i=>.int (lo+(i:Nat))
theorem walks_range {V0:Hp} (lo:Int) (n:Nat):Walks K V0 (Itr lo n) (rangeT lo n) where
 go:=fun i d S H hd e=>by
  have:=(List.getElem?_eq_some_iff.mp hd).1
  show i<n
  simpa [rangeT] using this
 yld:=fun i d S H x H' hd e _ y=>by
  obtain ⟨rfl,rfl⟩:=y
  have hl:=(List.getElem?_eq_some_iff.mp hd).1
  have hl:i<n:=by simpa [rangeT] using hl
  have z:(rangeT lo n)[i]? =some (.int (lo+(i:Nat))):=by
   unfold rangeT
   rw [List.getElem?_map,List.getElem?_range hl]
   rfl
  rw [z] at hd
  cases hd
  exact ⟨.inl rfl,.inl (.int _)⟩
 stop:=fun S H e=>by
  show n≤_
  simp [rangeT]
def iterR3 (x:A3):A3:=fun σ Q X=>x σ (fun ds=>ob (one ds) fun d=>ob (asI d) fun j=> -(2 ^ 62)≤j∧j<2 ^ 62∧Q (rangeT 0 j.toNat)) X
theorem lift_iR {t:TA} {x:A3} (ha:LiftA K c W t x):LiftI K c W (iRng1 t) (iterR3 x):=by
 intro σ3 Q3 X h Hb G A σ H R' R k e
 refine ha _ _ _ h Hb G A σ H _ R (fun v d H1 L1 r q=> ?_) e
 obtain ⟨d,ed,q1⟩:=ob_iff.mp q
 obtain ⟨j,ej,h1,h2,q2⟩:=ob_iff.mp q1
 cases one_is ed
 cases asI_is ej
 obtain ⟨v,rfl,rv⟩:=repL_one r
 cases rv.intI
 exact ⟨j,rfl,h1,h2,k _ _ H1 L1 (walks_range 0 j.toNat) q2⟩
def pairT:List T→List T→List T
 | x::xs,y::ys=>.tup [x,y]::pairT xs ys
 | _,_=>[]
theorem pairT_get:∀ {xs ys:List T} {i:Nat} {d:T},(pairT xs ys)[i]? =some d→∃x y,xs[i]? =some x∧ys[i]? =some y∧d= .tup [x,y]
 | [],_,i,d,h=>by simp [pairT] at h
 | _::_,[],i,d,h=>by simp [pairT] at h
 | x::xs,y::ys,0,d,h=>⟨x,y,rfl,rfl,by simpa [pairT] using h.symm⟩
 | x::xs,y::ys,i+1,d,h=>by
   have h':(pairT xs ys)[i]? =some d:=by simpa [pairT] using h
   obtain ⟨x',y',h1,h2,h3⟩:=pairT_get h'
   exact ⟨x',y',by simpa using h1,by simpa using h2,h3⟩
theorem pairT_len:∀(xs ys:List T),(pairT xs ys).length=min xs.length ys.length
 | [],_=>by simp [pairT]
 | _::_,[]=>by simp [pairT]
 | x::xs,y::ys=>by simp [pairT,pairT_len xs ys]
theorem yld_pair {S:List Addr} {H H':Hp} {Tt:Addr} {v w:V} {x y:T} (hS:∀a∈S,H a≠none) (hT:H Tt=none) (e:H'=upd H Tt (.tup [v,w])) (r1:Rep K (hid S H) v x) (r2:Rep K (hid S H) w y):
 (H'=H∨∃p o,H p=none∧H'=upd H p o)∧RepB K true (hid S H') (.ref Tt) (.tup [x,y]):=by
 subst e
 have hn:Tt ∉ S:=fun z=>hS Tt z hT
 have sm:Same (hid S H) (hid S (upd H Tt (.tup [v,w]))):=fun a o z=>by
  obtain ⟨z1,z2⟩:=hid_some z
  exact hid_mk (by rw [upd_ne (ne_of_none z1 hT)];exact z1) z2
 exact ⟨.inr ⟨Tt,_,hT,rfl⟩,.inr ⟨rfl,_,_,_,rfl,rfl,SqT.of (hid_mk upd_same hn),.cons (r1.mono sm) (.cons (r2.mono sm) .nil)⟩⟩
theorem walks_zipL {V0:Hp} {a b:Addr} {vs ws:List V} {xs ys:List T} (ha:V0 a=some (.lst vs)) (hb:V0 b=some (.lst ws)) (r:RepL K V0 vs xs) (s:RepL K V0 ws ys):WalksB K true V0 (Itz K a b) (pairT xs ys) where
 go:=fun i d S H hd e=>by
  obtain ⟨x,y,h1,h2,_⟩:=pairT_get hd
  obtain ⟨v,hv,_⟩:=r.get h1
  obtain ⟨w,hw,_⟩:=s.get h2
  exact ⟨vs,ws,v,w,SqL.of (hid_same _ _ (e _ _ ha)),SqL.of (hid_same _ _ (e _ _ hb)),hv,hw⟩
 yld:=fun i d S H x H' hd e hS y=>by
  obtain ⟨x1,y1,h1,h2,rfl⟩:=pairT_get hd
  obtain ⟨v,hv,rv⟩:=r.get h1
  obtain ⟨w,hw,rw'⟩:=s.get h2
  obtain ⟨Tt,p,q,rfl,hT,e',f1,f2⟩:=y
  have z1:=f1 vs (SqL.of (hid_same _ _ (e _ _ ha)))
  have z2:=f2 ws (SqL.of (hid_same _ _ (e _ _ hb)))
  rw [hv] at z1
  rw [hw] at z2
  cases z1
  cases z2
  exact yld_pair hS hT e' (rv.mono e) (rw'.mono e)
 stop:=fun S H e=>⟨vs,ws,SqL.of (hid_same _ _ (e _ _ ha)),SqL.of (hid_same _ _ (e _ _ hb)),by rw [pairT_len,r.length,s.length];omega⟩
theorem walks_zipT {V0:Hp} {a b:Addr} {vs ws:List V} {xs ys:List T} (ha:SqT K V0 a vs) (hb:SqT K V0 b ws) (r:RepL K V0 vs xs) (s:RepL K V0 ws ys):WalksB K true V0 (RZ.ItzT K a b) (pairT xs ys) where
 go:=fun i d S H hd e=>by
  obtain ⟨x,y,h1,h2,_⟩:=pairT_get hd
  obtain ⟨v,hv,_⟩:=r.get h1
  obtain ⟨w,hw,_⟩:=s.get h2
  exact ⟨vs,ws,v,w,Same.sqT hid_same (Same.sqT e ha),Same.sqT hid_same (Same.sqT e hb),hv,hw⟩
 yld:=fun i d S H x H' hd e hS y=>by
  obtain ⟨x1,y1,h1,h2,rfl⟩:=pairT_get hd
  obtain ⟨v,hv,rv⟩:=r.get h1
  obtain ⟨w,hw,rw'⟩:=s.get h2
  obtain ⟨Tt,p,q,rfl,hT,e',f1,f2⟩:=y
  have z1:=f1 vs (Same.sqT hid_same (Same.sqT e ha))
  have z2:=f2 ws (Same.sqT hid_same (Same.sqT e hb))
  rw [hv] at z1
  rw [hw] at z2
  cases z1
  cases z2
  exact yld_pair hS hT e' (rv.mono e) (rw'.mono e)
 stop:=fun S H e=>⟨vs,ws,Same.sqT hid_same (Same.sqT e ha),Same.sqT hid_same (Same.sqT e hb),by rw [pairT_len,r.length,s.length];omega⟩
def zipT:T→T→Option (List T)
 | .lst xs,.lst ys=>some (pairT xs ys)
 | .tup xs,.tup ys=>some (pairT xs ys)
 | _,_=>none
def iterZ3 (x:A3):A3:=fun σ Q X=>x σ (fun ds=>ob (two ds) fun p=>ob (zipT p.1 p.2) Q) X
theorem zipT_is {x y:T} {l:List T} (h:zipT x y=some l):∃xs ys,l=pairT xs ys∧((x= .lst xs∧y= .lst ys)∨(x= .tup xs∧y= .tup ys)):=by
 cases x<;>cases y<;>cases h<;>first | exact ⟨_,_,rfl,.inl ⟨rfl,rfl⟩⟩ | exact ⟨_,_,rfl,.inr ⟨rfl,rfl⟩⟩
theorem lift_iZ {t:TA} {x:A3} (ha:LiftA K c W t x):LiftIB K c true W (RZ.iZipA K t) (iterZ3 x):=by
 intro σ3 Q3 X h Hb G A σ H R' R k e
 refine ha _ _ _ h Hb G A σ H _ R (fun v d H1 L1 r q=> ?_) e
 obtain ⟨⟨d,d'⟩,ed,q1⟩:=ob_iff.mp q
 obtain ⟨l,el,q2⟩:=ob_iff.mp q1
 cases two_is ed
 obtain ⟨xs,ys,rfl,hh⟩:=zipT_is el
 rcases hh with ⟨rfl,rfl⟩ | ⟨rfl,rfl⟩
 · obtain ⟨v,w,rfl,rv,rw'⟩:=repL_two r
   obtain ⟨p,vs,rfl,hp,rl⟩:=rv.lstI
   obtain ⟨p2,ws,rfl,hp2,rl2⟩:=rw'.lstI
   exact ⟨p,p2,vs,ws,rfl,.inl ⟨SqL.of (hid_same _ _ hp),SqL.of (hid_same _ _ hp2),k _ _ H1 L1 (walks_zipL hp hp2 rl rl2) q2⟩⟩
 · obtain ⟨v,w,rfl,rv,rw'⟩:=repL_two r
   obtain ⟨p,vs,rfl,hp,rl⟩:=rv.tupI
   obtain ⟨p2,ws,rfl,hp2,rl2⟩:=rw'.tupI
   exact ⟨p,p2,vs,ws,rfl,.inr ⟨Same.sqT hid_same hp,Same.sqT hid_same hp2,k _ _ H1 L1 (walks_zipT hp hp2 rl rl2) q2⟩⟩
end
section
variable {K:PySem.W.Frag} {c:Cf} {Hb H H1 H':Hp} {G:List Addr} {A A':List (Option Addr)} {σ3 σ3':List Sl} {σ σ':St}
theorem R3.rebase (r:R3 K c Hb G A σ3 σ H):R3 K c (out (addrs A) H) G A σ3 σ H where
 inv:=r.inv
 base:=fun a o e=>by
  obtain ⟨e1,e2⟩:=hid_some e
  obtain ⟨e3,e4⟩:=out_some e1
  exact hid_mk e3 fun z=>by
   rcases mem_S.mp z with z | z | z
   · exact e2 (List.mem_append.mpr (.inl z))
   · exact e2 (List.mem_append.mpr (.inr z))
   · exact e4 z
 gk:=fun a h=>⟨by rw [out_out (fun z=>r.ns a z (List.mem_append.mpr (.inr h)))],(r.gk a h).2⟩
 gv:=r.gv
 nd:=r.nd
 ns:=r.ns
 l1:=r.l1
 l2:=r.l2
 at_:=r.at_
theorem rebase_vis:Same (hid (c.S G A) H1) (hid (c.S0++G) (out (addrs A) H1)):=fun a o e=>by
 obtain ⟨e1,e2⟩:=hid_some e
 refine hid_mk (by rw [out_out fun z=>e2 (mem_S.mpr (.inr (.inr z)))];exact e1) (fun z=>e2 ?_)
 rcases List.mem_append.mp z with z | z
 · exact mem_S.mpr (.inl z)
 · exact mem_S.mpr (.inr (.inl z))
theorem Fin3.debase (r:R3 K c Hb G A σ3 σ H1) (q:Fin3 K c (out (addrs A) H1) G H'):Fin3 K c Hb G H' where
 inv:=q.inv
 base:=Same.trans r.base (Same.trans rebase_vis q.base)
 gk:=fun a h=>by rw [q.gk a h,out_out (fun z=>r.ns a z (List.mem_append.mpr (.inr h))),(r.gk a h).1]
theorem FinR.debase {v:V} {d:T} (r:R3 K c Hb G A σ3 σ H1) (q:FinR K c (out (addrs A) H1) G H' v d):FinR K c Hb G H' v d:=by
 cases e:c.fr with
 | false=>
   unfold FinR at q ⊢
   rw [e] at q ⊢
   exact ⟨Fin3.debase r q.1,q.2⟩
 | true=>
   unfold FinR at q ⊢
   rw [e] at q ⊢
   obtain ⟨D,h1,h2,h3,h4,h5,h6⟩:=q
   exact ⟨D,h1,h2,h3,Same.trans r.base (Same.trans rebase_vis h4),fun a h=>by rw [h5 a h,out_out (fun z=>r.ns a z (List.mem_append.mpr (.inr h))),(r.gk a h).1],h6⟩
theorem R3.debase (r:R3 K c Hb G A σ3 σ H1) (q:R3 K c (out (addrs A) H1) G A' σ3' σ' H'):R3 K c Hb G A' σ3' σ' H' where
 inv:=q.inv
 base:=Same.trans r.base (Same.trans rebase_vis q.base)
 gk:=fun a h=>⟨by rw [(q.gk a h).1,out_out (fun z=>r.ns a z (List.mem_append.mpr (.inr h))),(r.gk a h).1],(q.gk a h).2⟩
 gv:=q.gv
 nd:=q.nd
 ns:=q.ns
 l1:=q.l1
 l2:=q.l2
 at_:=q.at_
end
def loop3 (g:TG3) (tb:S3) (N:N3):List T→List Sl→Prop
 | [],σ=>N.nx σ
 | x::r,σ=>g x σ fun σ'=>tb {nx:=loop3 g tb N r,ct:=loop3 g tb N r,bk:=N.nx,rt:=N.rt,xn:=N.xn} σ'
def for3 (s:A3) (g:TG3) (tb:S3):S3:=fun N σ=>s σ (fun ds=>loop3 g tb N ds σ) (N.xn σ)
section
variable {K:PySem.W.Frag} {c:Cf} {W:WX}
theorem lift_for {wk:Bool} {vs:List Nat} {wi:TI} {s:A3} {g:TG} {g3:TG3} {tb:TS} {b:S3} (hi:LiftIB K c wk W wi s) (hg:LiftTgB K c wk vs g g3) (hb:LiftS K c W tb b):LiftS K c W (tFor wi g tb) (for3 s g3 b):=by
 intro N σ3 h Hb G A σ H D R Z
 refine hi _ _ _ h Hb G A σ H _ R (fun J ds H1 L1 w q=> ?_) (fun cls dd x H' L r q=>Z.xn _ _ _ _ _ _ _ (R.le L) r q)
 have R1:=R.le L1
 refine ⟨fun i m σ' H'=>m=ds.length-i∧i≤ds.length∧∃A' σ3',R3 K c (out (addrs A) H1) G A' σ3' σ' H'∧loop3 g3 b N (ds.drop i) σ3',⟨ds.length,rfl,Nat.zero_le _,A,σ3,R1.rebase,by simpa using q⟩, ?_⟩
 rintro i m σ' H' ⟨rfl,hi,A',σ3',R',q'⟩
 have vis:Same (hid (c.S G A) H1) (hid (c.S G A') H'):=Same.trans rebase_vis R'.base
 by_cases hl:i=ds.length
 · subst hl
   left
   refine ⟨w.stop _ _ vis,Z.nx _ _ _ _ (R1.debase R') ?_⟩
   have e:ds.drop ds.length=[]:=List.drop_length
   rw [e] at q'
   exact q'
 · right
   have hlt:i<ds.length:=Nat.lt_of_le_of_ne hi hl
   have hd:ds[i]? =some ds[i]:=List.getElem?_eq_getElem hlt
   rw [List.drop_eq_getElem_cons hlt] at q'
   refine ⟨w.go i _ _ _ hd vis,fun σ2 H2=>∃A2 σ32,R3 K c (out (addrs A) H1) G A2 σ32 σ2 H2∧loop3 g3 b N (ds.drop (i+1)) σ32, ?_, ?_⟩
   · rintro σ2 H2 ⟨A2,σ32,R2,q2⟩
     exact ⟨ds.length-(i+1),by omega,rfl,hlt,A2,σ32,R2,q2⟩
   · intro x H2 y
     obtain ⟨hn,rx⟩:=w.yld i _ _ _ x H2 hd vis (fun a h=>R'.there h) y
     have R2:R3 K c (out (addrs A) H1) G A' σ3' σ' H2:=by
      rcases hn with rfl | ⟨p,o,hp,rfl⟩
      · exact R'
      · exact R'.le (R'.new hp)
     refine hg _ _ _ q' _ G A' σ' H2 x _ R2 rx (fun A4 σ4 σ4' H4 R4 _ _ q4=> ?_)
     refine hb _ _ q4 _ G A4 σ4' H4 _ R4 ⟨?_, ?_, ?_, ?_, ?_⟩
     · exact fun A5 σ5 σ5' H5 R5 q5=>⟨A5,σ5,R5,q5⟩
     · exact fun v d H5 F q5=>Z.rt v d H5 (FinR.debase R1 F) q5
     · exact fun A5 σ5 σ5' H5 R5 q5=>Z.nx _ _ _ _ (R1.debase R5) q5
     · exact fun A5 σ5 σ5' H5 R5 q5=>⟨A5,σ5,R5,q5⟩
     · exact fun A5 σ5 σ5' H5 cls dd xn R5 rx q5=>Z.xn _ _ _ _ _ _ _ (R1.debase R5) rx q5
theorem loop3_inv {g:TG3} {tb:S3} {N:N3} (P:List T→List Sl→Prop):∀(ds:List T) (σ:List Sl),P ds σ→(∀σ,P [] σ→N.nx σ)→
 (∀x r σ,P (x::r) σ→g x σ fun σ'=>∀nx:List Sl→Prop,(∀σ2,P r σ2→nx σ2)→tb {nx:=nx,ct:=nx,bk:=N.nx,rt:=N.rt,xn:=N.xn} σ')→
 (∀d σ (Q Q':List Sl→Prop),(∀σ,Q σ→Q' σ)→g d σ Q→g d σ Q')→loop3 g tb N ds σ
 | [],σ,h,h0,hs,hm=>h0 σ h
 | x::r,σ,h,h0,hs,hm=>hm _ _ _ _ (fun σ' q=>q (loop3 g tb N r) fun σ2 h2=>loop3_inv P r σ2 h2 h0 hs hm) (hs x r σ h)
end
def wipe3 (σ:List Sl):List Nat→List Sl
 | []=>σ
 | v::vs=>(wipe3 σ vs).set v .no
def comp3 (g:TG3) (tt:B3) (te:E3) (σ:List Sl) (X:X3) (Q:List T→Prop):List T→List T→Prop
 | [],acc=>Q acc
 | x::r,acc=>g x σ fun σ'=>tt σ' (fun b=>if b=true then te σ' (fun y=>acc.length<sizeLine∧comp3 g tt te σ X Q r (acc++[y])) X else comp3 g tt te σ X Q r acc) X
def noOwn (σ:List Sl) (vs:List Nat):Prop:=∀i∈vs,∀t,σ[i]? ≠some (.own t)
def lc3 (s:A3) (g:TG3) (tt:B3) (te:E3) (vs:List Nat):E3:=fun σ Q X=>noOwn σ vs∧s σ (fun ds=>comp3 g tt te (wipe3 σ vs) X (fun ys=>Q (.lst ys)) ds []) X
def yes3:B3:=fun _ Q _=>Q true
section
variable {K:PySem.W.Frag} {c:Cf} {W:WX} {Hb H H1 H':Hp} {G:List Addr} {A A':List (Option Addr)} {σ3 σ3':List Sl} {σ σ':St}
theorem lift_yes:LiftT K c W tYes yes3:=by
 intro σ3 Q3 X h Hb G A σ H Q R k e
 exact k true true H (Le.refl R.inv) rfl h
theorem wipe3_own:∀ {vs:List Nat} {σ:List Sl} {i:Nat} {t:T},(wipe3 σ vs)[i]? =some (.own t)→σ[i]? =some (.own t)
 | [],_,_,_,h=>h
 | v::vs,σ,i,t,h=>by
   rcases getElem?_set_cases (show ((wipe3 σ vs).set v .no)[i]? =some (.own t) from h) with ⟨_,e,_⟩ | ⟨_,e⟩
   · cases e
   · exact wipe3_own e
theorem set_eq_self {α:Type} {l:List α} {i:Nat} {x:α} (h:l[i]? =some x∨l.length≤i):l.set i x=l:=by
 apply List.ext_getElem?
 intro j
 by_cases e:i=j
 · subst e
   rcases h with h | h
   · rw [List.getElem?_set_self (List.getElem?_eq_some_iff.mp h).1,h]
   · rw [List.getElem?_eq_none (by simpa using h),List.getElem?_eq_none h]
 · rw [List.getElem?_set_ne e]
theorem R3.wiped (r:R3 K c Hb G A σ3 σ H):∀ {vs:List Nat},noOwn σ3 vs→R3 K c Hb G A (wipe3 σ3 vs) (wipe σ vs) H
 | [],_=>r
 | v::vs,h=>by
   have ih:=R3.wiped r (vs:=vs) fun i hi=>h i (List.mem_cons_of_mem _ hi)
   have z:=ih.wipe1 v none
   have e:A.set v none=A:=by
    apply set_eq_self
    by_cases hv:v<A.length
    · left
      have h1:v<(wipe3 σ3 vs).length:=by rw [←ih.l1];exact hv
      have h2:v<(wipe σ vs).length:=by rw [ih.l2];exact h1
      have q:=ih.at_ v _ _ _ (List.getElem?_eq_getElem h1) (List.getElem?_eq_getElem hv) (List.getElem?_eq_getElem h2)
      rw [List.getElem?_eq_getElem hv]
      cases e:(wipe3 σ3 vs)[v] with
      | no=>rw [e] at q;rw [q]
      | val t=>rw [e] at q;rw [q.1]
      | own t=>
        have w1:(wipe3 σ3 vs)[v]? =some (.own t):=by rw [List.getElem?_eq_getElem h1,e]
        exact absurd (wipe3_own w1) (h v (List.mem_cons_self ..) t)
    · exact .inr (Nat.le_of_not_lt hv)
   rw [e] at z
   exact z
theorem wipe_eq:∀ {vs:List Nat} {σ σ':St},σ'.length=σ.length→(∀j:Nat,j ∉ vs→σ'[j]? =σ[j]?)→wipe σ' vs=wipe σ vs:=by
 intro vs σ σ' hl h
 apply List.ext_getElem?
 intro j
 by_cases hj:j∈vs
 · have z:∀ {vs:List Nat} (σ:St),j∈vs→(wipe σ vs)[j]? =if j<σ.length then some none else none:=by
    intro vs
    induction vs with
    | nil=>intro σ h;cases h
    | cons v vs ih=>
      intro σ hm
      show ((wipe σ vs).set v none)[j]? =_
      by_cases e:v=j
      · subst e
        by_cases hv:v<σ.length
        · rw [List.getElem?_set_self (by rw [wipe_length];exact hv),if_pos hv]
        · rw [List.getElem?_eq_none (by simp [wipe_length];omega),if_neg hv]
      · rw [List.getElem?_set_ne e]
        rcases List.mem_cons.mp hm with q | q
        · exact absurd q.symm e
        · exact ih σ q
   rw [z σ' hj,z σ hj,hl]
 · rw [wipe_out hj,wipe_out hj,h j hj]
theorem wipe_wipe {vs:List Nat} {σ:St}:wipe (wipe σ vs) vs=wipe σ vs:=wipe_eq (wipe_length _ _) fun j hj=>wipe_out hj
theorem R3.under (r:R3 K c Hb G A σ3 σ H1) {D:Addr} {o:HO} (hD:H1 D=none) (hd:H D=some o) (vis:Same (hid (c.S G A) H1) (hid (D::c.S G A) H)) (own:∀a∈G++addrs A,H a=H1 a) (inv:c.I H) (ho:c.gOk o):
 R3 K c (out (addrs A) H) (D::G) A σ3 σ H:=by
 have nD:D ∉ c.S G A:=r.free hD
 have sub:∀a,a∈c.S (D::G) A↔a∈D::c.S G A:=fun a=>by
  rw [mem_S,List.mem_cons,List.mem_cons,mem_S]
  exact ⟨fun h=>by rcases h with h | (h | h) | h<;>simp [h],fun h=>by rcases h with h | h | h | h<;>simp [h]⟩
 have vis2:Same (hid (c.S G A) H1) (hid (c.S (D::G) A) H):=Same.trans vis (hid_mono fun a h=>(sub a).mp h)
 refine ⟨inv, ?_, ?_, ?_,r.nd, ?_,r.l1,r.l2, ?_⟩
 · intro a o e
   obtain ⟨e1,e2⟩:=hid_some e
   obtain ⟨e3,e4⟩:=out_some e1
   exact hid_mk e3 fun z=>by
    rcases mem_S.mp z with z | z | z
    · exact e2 (List.mem_append.mpr (.inl z))
    · exact e2 (List.mem_append.mpr (.inr z))
    · exact e4 z
 · intro a h
   rcases List.mem_cons.mp h with rfl | h
   · exact ⟨by rw [out_out (fun z=>nD (mem_S.mpr (.inr (.inr z))))],(by rw [hd];intro z;cases z),fun z=>nD (mem_S.mpr (.inl z))⟩
   · have e:=own a (List.mem_append.mpr (.inl h))
     exact ⟨by rw [out_out (fun z=>r.ns a z (List.mem_append.mpr (.inr h)))],by rw [e];exact (r.gk a h).2.1,(r.gk a h).2.2⟩
 · intro a h u e
   rcases List.mem_cons.mp h with rfl | h
   · rw [hd] at e;cases e;exact ho
   · exact r.gv a h u (by rw [←own a (List.mem_append.mpr (.inl h))];exact e)
 · intro a h z
   rcases List.mem_append.mp z with z | z
   · exact r.ns a h (List.mem_append.mpr (.inl z))
   · rcases List.mem_cons.mp z with rfl | z
     · exact nD (mem_S.mpr (.inr (.inr h)))
     · exact r.ns a h (List.mem_append.mpr (.inr z))
 · intro i s o x h1 h2 h3
   have z:=r.at_ i s o x h1 h2 h3
   cases s with
   | no=>exact z
   | val t=>obtain ⟨e,v,e2,q⟩:=z;exact ⟨e,v,e2,q.mono vis2⟩
   | own t=>
     obtain ⟨a,e,e2,q⟩:=z
     refine ⟨a,e,e2,q.mono vis2 (own a (List.mem_append.mpr (.inr (mem_addrs.mpr ?_))))⟩
     subst e
     exact List.mem_of_getElem? h2
theorem hid_upd_in {S:List Addr} {H:Hp} {D:Addr} {o:HO} (h:D∈S):hid S (upd H D o)=hid S H:=by
 funext a
 by_cases e:a∈S
 · rw [hid_in e,hid_in e]
 · unfold hid
   rw [out_out e,out_out e,upd_ne (fun z=>e (by rw [z];exact h))]
theorem lift_lc {wk:Bool} {vs:List Nat} {wi:TI} {s:A3} {g:TG} {g3:TG3} {tt:TT} {b:B3} {te:TE} {e3:E3} (hi:LiftIB K c wk W wi s) (hg:LiftTgB K c wk vs g g3) (ht:LiftT K c W tt b) (he:Lift K c W te e3)
 (hW:∀cls dd σ σ' H,W cls dd σ H→W cls dd σ' H):Lift K c W (tLc wi g tt te vs) (lc3 s g3 b e3 vs):=by
 intro σ3 Q3 X h Hb G A σ H Q R k e
 obtain ⟨no,h⟩:=h
 refine hi _ _ _ h Hb G A σ H _ R (fun J ds H1 L1 w q=> ?_) e
 have R1:=R.le L1
 intro D hD
 have nD:D ∉ c.S G A:=R1.free hD
 have RW:=R1.wiped (vs:=vs) no
 refine ⟨fun i m H'=>m=ds.length-i∧i≤ds.length∧∃accV acc,H' D=some (.lst accV)∧RepL K (hid (D::c.S G A) H') accV acc∧comp3 g3 b e3 (wipe3 σ3 vs) X (fun ys=>Q3 (.lst ys)) (ds.drop i) acc∧
  Same (hid (c.S G A) H1) (hid (D::c.S G A) H')∧(∀a∈G++addrs A,H' a=H1 a)∧c.I H',⟨ds.length,rfl,Nat.zero_le _,[],[],upd_same,.nil,by simpa using q, ?_, ?_, ?_⟩, ?_⟩
 · rw [hid_upd_in (List.mem_cons_self ..)]
   intro a o z
   obtain ⟨z1,z2⟩:=hid_some z
   exact hid_mk z1 fun y=>by
    rcases List.mem_cons.mp y with y | y
    · subst y;rw [hD] at z1;cases z1
    · exact z2 y
 · exact (R1.new (o:=.lst []) hD).own
 · exact (R1.new (o:=.lst []) hD).inv
 rintro i m H2 ⟨rfl,hi,accV,acc,hd2,racc,q2,vis,own,inv⟩
 have vis':Same (hid (c.S G A) H1) (hid (c.S G A) H2):=Same.trans vis (hid_mono fun a h=>List.mem_cons_of_mem _ h)
 by_cases hl:i=ds.length
 · subst hl
   left
   refine ⟨w.stop _ _ vis', ?_⟩
   have e':ds.drop ds.length=[]:=List.drop_length
   rw [e'] at q2
   exact k _ _ H2 (L1.trans ⟨vis',own,inv⟩) (.mkL (hid_mk hd2 nD) (racc.mono (hid_mono fun a h=>List.mem_cons_of_mem _ h))) q2
 · right
   have hlt:i<ds.length:=Nat.lt_of_le_of_ne hi hl
   have hdd:ds[i]? =some ds[i]:=List.getElem?_eq_getElem hlt
   rw [List.drop_eq_getElem_cons hlt] at q2
   refine ⟨w.go i _ _ _ hdd vis',fun H3=>∃accV acc,H3 D=some (.lst accV)∧RepL K (hid (D::c.S G A) H3) accV acc∧comp3 g3 b e3 (wipe3 σ3 vs) X (fun ys=>Q3 (.lst ys)) (ds.drop (i+1)) acc∧
    Same (hid (c.S G A) H1) (hid (D::c.S G A) H3)∧(∀a∈G++addrs A,H3 a=H1 a)∧c.I H3, ?_, ?_⟩
   · rintro H3 ⟨accV,acc,z⟩
     exact ⟨ds.length-(i+1),by omega,rfl,hlt,accV,acc,z⟩
   · intro x H3 y
     have RU:=RW.under hD hd2 vis own inv (c.gL _)
     have sD:∀a,a∈c.S (D::G) A↔a∈D::c.S G A:=fun a=>by
      rw [mem_S,List.mem_cons,List.mem_cons,mem_S]
      exact ⟨fun h=>by rcases h with h | (h | h) | h<;>simp [h],fun h=>by rcases h with h | h | h | h<;>simp [h]⟩
     have sm1:∀H,Same (hid (c.S (D::G) A) H) (hid (D::c.S G A) H):=fun H=>hid_mono fun a h=>(sD a).mpr h
     have sm2:∀H,Same (hid (D::c.S G A) H) (hid (c.S (D::G) A) H):=fun H=>hid_mono fun a h=>(sD a).mp h
     obtain ⟨hn,rx⟩:=w.yld i _ (c.S (D::G) A) _ x H3 hdd (Same.trans vis (sm2 _)) (fun a h=>RU.there h) y
     have L3:Le c (D::G) A H2 H3:=by
      rcases hn with rfl | ⟨p,o,hp,rfl⟩
      · exact Le.refl inv
      · exact RU.new hp
     have R3':=RU.le L3
     have back:∀H',Le c (D::G) A H2 H'→Same (hid (c.S G A) H1) (hid (D::c.S G A) H')∧(∀a∈G++addrs A,H' a=H1 a)∧c.I H'∧H' D=some (.lst accV):=fun H' L=>by
      refine ⟨Same.trans vis (Same.trans (sm2 _) (Same.trans L.vis (sm1 _))),fun a h=> ?_,L.inv, ?_⟩
      · rw [L.own a (by rcases List.mem_append.mp h with h | h<;>simp [h]),own a h]
      · rw [L.own D (by simp),hd2]
     have exn:∀(σ':St) cls dd x H',Le c (D::G) A H2 H'→XRep K (hid (c.S (D::G) A) H') cls dd x→X x→W cls dd σ' H':=fun σ' cls dd x H' L r hx=>by
      obtain ⟨b1,b2,b3,b4⟩:=back H' L
      refine hW cls dd σ σ' H' (e cls dd x H' (L1.trans ⟨Same.trans b1 (hid_mono fun a h=>List.mem_cons_of_mem _ h),b2,b3⟩) ?_ hx)
      have sm:Same (hid (c.S (D::G) A) H') (hid (c.S G A) H'):=Same.trans (sm1 _) (hid_mono fun a h=>List.mem_cons_of_mem _ h)
      obtain ⟨r1,r2⟩:=r
      refine ⟨r1, ?_⟩
      cases dd with
      | none=>exact r2
      | some d=>
        obtain ⟨fs,f1,f2,f3⟩:=r2
        exact ⟨fs,sm _ _ f1,f2,f3.mono sm⟩
     refine hg _ _ _ q2 _ (D::G) A _ H3 x _ R3' rx (fun A4 σ4 σ4' H4 R4 e4 st q4=> ?_)
     subst e4
     refine ⟨?_, ?_⟩
     · rw [wipe_eq st.1 (fun j hj=>(st.2.1 j hj).1),wipe_wipe]
     have hA4:A4=A:=by
      apply List.ext_getElem?
      intro j
      by_cases hj:j∈vs
      · have l4:A4.length=A.length:=by rw [R4.l1,RW.l1, ←RW.l2, ←R4.l2,st.1]
        by_cases hjl:j<A.length
        · have g4:j<A4.length:=by rw [l4];exact hjl
          have hno:A[j]? =some none:=by
           have h1:j<(wipe3 σ3 vs).length:=by rw [←RW.l1];exact hjl
           have h2:j<(wipe σ vs).length:=by rw [RW.l2];exact h1
           have z:=RW.at_ j _ _ _ (List.getElem?_eq_getElem h1) (List.getElem?_eq_getElem hjl) (List.getElem?_eq_getElem h2)
           rw [List.getElem?_eq_getElem hjl]
           cases ee:(wipe3 σ3 vs)[j] with
           | no=>rw [ee] at z;rw [z]
           | val t=>rw [ee] at z;rw [z.1]
           | own t=>
             have w1:(wipe3 σ3 vs)[j]? =some (.own t):=by rw [List.getElem?_eq_getElem h1,ee]
             exact absurd (wipe3_own w1) (no j hj t)
          rw [hno]
          cases ea:A4[j] with
          | none=>rw [List.getElem?_eq_getElem g4,ea]
          | some p=>
            have m4:p∈addrs A4:=mem_addrs.mpr (by rw [←ea];exact List.getElem_mem g4)
            have m:p∈addrs A:=st.2.2 p m4
            obtain ⟨i',hi'⟩:=List.getElem?_of_mem (mem_addrs.mp m)
            have hij:i'≠j:=fun z=>by subst z;rw [hno] at hi';cases hi'
            by_cases hv:i'∈vs
            · have hjl':=(List.getElem?_eq_some_iff.mp hi').1
              have h1:i'<(wipe3 σ3 vs).length:=by rw [←RW.l1];exact hjl'
              have h2:i'<(wipe σ vs).length:=by rw [RW.l2];exact h1
              have z:=RW.at_ i' _ _ _ (List.getElem?_eq_getElem h1) hi' (List.getElem?_eq_getElem h2)
              cases ee:(wipe3 σ3 vs)[i'] with
              | no=>rw [ee] at z;cases z
              | val t=>rw [ee] at z;cases z.1
              | own t=>
                have w1:(wipe3 σ3 vs)[i']? =some (.own t):=by rw [List.getElem?_eq_getElem h1,ee]
                exact absurd (wipe3_own w1) (no i' hv t)
            · have:A4[i']? =some (some p):=by rw [(st.2.1 i' hv).2];exact hi'
              have two:∀ {B:List (Option Addr)} {i j:Nat},(addrs B).Nodup→B[i]? =some (some p)→B[j]? =some (some p)→i=j:=by
               intro B
               induction B with
               | nil=>intro i j _ h;simp at h
               | cons b B ih=>
                 intro i j hN h1 h2
                 cases i with
                 | zero=>
                   cases j with
                   | zero=>rfl
                   | succ j=>
                     simp at h1 h2
                     subst h1
                     exact absurd (mem_addrs.mpr (List.mem_of_getElem? h2)) (List.nodup_cons.mp (show (p::addrs B).Nodup from hN)).1
                 | succ i=>
                   cases j with
                   | zero=>
                     simp at h1 h2
                     subst h2
                     exact absurd (mem_addrs.mpr (List.mem_of_getElem? h1)) (List.nodup_cons.mp (show (p::addrs B).Nodup from hN)).1
                   | succ j=>
                     simp at h1 h2
                     have hN':(addrs B).Nodup:=by
                      cases b with
                      | none=>exact hN
                      | some q=>exact (List.nodup_cons.mp (show (q::addrs B).Nodup from hN)).2
                     rw [ih hN' h1 h2]
              exact absurd (two R4.nd this (by rw [List.getElem?_eq_getElem g4,ea])) hij
        · rw [List.getElem?_eq_none (by omega),List.getElem?_eq_none (by omega)]
      · exact (st.2.1 j hj).2
     subst hA4
     refine ht _ _ _ q4 _ (D::G) A4 σ4' H4 _ R4 (fun bv bb H5 L5 rb q5=> ?_) (fun cls dd x H' L=>exn _ cls dd x H' (L3.trans L))
     subst rb
     cases bv with
     | false=>
       refine iteF ?_
       obtain ⟨b1,b2,b3,b4⟩:=back H5 (L3.trans L5)
       exact ⟨accV,acc,b4,racc.mono (Same.trans (sm2 _) (Same.trans (L3.trans L5).vis (sm1 _))),by simpa using q5,b1,b2,b3⟩
     | true=>
       refine iteT ?_
       refine he _ _ _ (show e3 σ4 _ X by simpa using q5) _ (D::G) A4 σ4' H5 _ (R4.le L5) (fun y d H6 L6 ry q6=> ?_) (fun cls dd x H' L=>exn _ cls dd x H' ((L3.trans L5).trans L))
       obtain ⟨b1,b2,b3,b4⟩:=back H6 ((L3.trans L5).trans L6)
       have racc6:=racc.mono (Same.trans (sm2 _) (Same.trans ((L3.trans L5).trans L6).vis (sm1 _)))
       refine ⟨accV,b4,by rw [racc.length];exact q6.1,accV++[y],acc++[d],upd_same, ?_,q6.2, ?_, ?_, ?_⟩
       · rw [hid_upd_in (List.mem_cons_self ..)]
         exact racc6.append (.cons (ry.mono (sm1 _)) .nil)
       · rw [hid_upd_in (List.mem_cons_self ..)]
         exact b1
       · intro a ha
         have:a≠D:=fun z=>by
          subst z
          exact nD (mem_S.mpr (by rcases List.mem_append.mp ha with z | z;exact .inr (.inl z);exact .inr (.inr z)))
         rw [upd_ne this]
         exact b2 a ha
       · exact c.st H6 _ (fun a ha=>by rw [upd_ne (fun z=>nD (by rw [←z];exact mem_S.mpr (.inl ha)))]) (fun a φ e=>by rw [upd_ne (ne_of e b4 (by intro z;cases z))];exact e) b3
end
end M3
namespace M3
open PySem L2
structure Cl (P:Program) (w:World) (K:PySem.W.Frag) (mg:Str→Option Value) (base:Heap) (CX:CXT) (x:Str) (k:Nat) (dvs:List V) (sp:Sp):Prop where
 ex:∃(f:Addr) (fd:FuncData) (ps:List Str) (ds:List Value),FnOk P w K mg base CX k f fd ps sp∧mg x=some (.ref f)∧PySem.W.keepIn K (.ref f)=true∧Binds K fd ps ds∧Vals dvs ds
section
variable {X:Cx} {CX:CXT} {k n:Nat} {sp:Sp} {dvs:List V} {E:XK} {x:Str} {p pos:Pos} {e:Expr} {es:List Expr} {kws:List Keyword} {ks:List Str} {t tk:TA} {gV:List V→List V→List V}
theorem pe_cl (C:Cl X.prog X.w X.K X.mg X.base CX x k dvs sp) (hr:Room k X.A) (hg:Gl X x) (hx:Passes CX X E)
 (ha:PA X (e::es) t) (hdb:(x==("__debug__":Str))=false:=by decide) (he:starEach (e::es) X.env=(false,eval e X.env)::starEach es X.env:=by rfl) (hpl:(backTo pos (starEach es X.env)).any (·.1)=false:=by rfl):
 PE X (.Call (.Name x p) (e::es) [] pos) (tCall sp dvs E t):=by
 obtain ⟨f,fd,ps,ds,F,hm,hk,hb,hd⟩:=C.ex
 exact pe_call F hr hg hm hk hb hd hx ha hdb he hpl
end
def fnN30 (n:Nat) (f:F3) (g:List T→List T→List T) (m j:Nat) (x y:A3):E3:=fun σ Q X=>x σ (fun ds=>y σ (fun es=>ds.length=m∧es.length=j∧(g ds es).length=n∧f (g ds es) Q (fun _=>False)) X) X
def fnN3 (n:Nat) (f:F3) (g:List T→List T→List T) (m j:Nat) (x y:A3):E3:=fun σ Q X=>x σ (fun ds=>y σ (fun es=>ds.length=m∧es.length=j∧(g ds es).length=n∧f (g ds es) Q X) X) X
section
variable {K:PySem.W.Frag} {c:Cf} {W:WX}
theorem lift_po0:LiftO K c W tNoPart (fun _ Q _=>Q none):=by
 intro σ3 Q3 X h Hb G A σ H Q R k e
 exact k none none H (Le.refl R.inv) rfl h
def part3 (a:E3):G3 (Option Int):=fun σ Q X=>a σ (fun x=>ob (asI x) fun i=>Q (some i)) X
theorem lift_po {ta:TE} {a:E3} (ha:Lift K c W ta a):LiftO K c W (tPart ta) (part3 a):=by
 intro σ3 Q3 X h Hb G A σ H Q R k e
 refine ha _ _ _ h Hb G A σ H _ R (fun vx x H1 L1 rx hx=> ?_) e
 obtain ⟨i,ei,q⟩:=ob_iff.mp hx
 cases asI_is ei
 exact ⟨i,rx.intI,k _ _ H1 L1 rfl q⟩
def cut {α:Type} (xs:List α) (lo hi:Option Int):List α:=(xs.drop (HT.sIx xs.length 0 lo)).take (HT.sIx xs.length xs.length hi-HT.sIx xs.length 0 lo)
theorem RepL.cut {H:Hp} {vs:List V} {ts:List T} (r:RepL K H vs ts) (lo hi:Option Int):RepL K H (cutV vs lo hi) (M3.cut ts lo hi):=by
 unfold cutV M3.cut
 rw [r.length]
 exact (r.drop _).take _
def sl3 (q:T→Option Int→Option Int→(T→Prop)→Prop) (a:E3) (l h:G3 (Option Int)):E3:=fun σ Q X=>a σ (fun x=>l σ (fun lo=>h σ (fun hi=>q x lo hi Q) X) X) X
def RLs (K:PySem.W.Frag) (r:V→Option Int→Option Int→Hp→VK→Prop) (q:T→Option Int→Option Int→(T→Prop)→Prop):Prop:=
 ∀(c:Cf) x lo hi Q3,q x lo hi Q3→∀Hb G A σ3 σ H vx Q,R3 K c Hb G A σ3 σ H→Rep K (hid (c.S G A) H) vx x→
  (∀v d H',Le c G A H H'→Rep K (hid (c.S G A) H') v d→Q3 d→Q v H')→r vx lo hi H Q
theorem lift_sl {r:V→Option Int→Option Int→Hp→VK→Prop} {q:T→Option Int→Option Int→(T→Prop)→Prop} {ta:TE} {a:E3} {tl th:TO} {l h:G3 (Option Int)} (hr:RLs K r q) (ha:Lift K c W ta a) (hl:LiftO K c W tl l) (hh:LiftO K c W th h):
 Lift K c W (tSl r ta tl th) (sl3 q a l h):=by
 intro σ3 Q3 X hq Hb G A σ H Q R k e
 refine ha _ _ _ hq Hb G A σ H _ R (fun vx x H1 L1 rx hx=> ?_) e
 refine hl _ _ _ hx Hb G A σ H1 _ (R.le L1) (fun lo lo' H2 L2 e2 hy=> ?_) (fun cls dd x H' L=>e cls dd x H' (L1.trans L))
 subst e2
 refine hh _ _ _ hy Hb G A σ H2 _ ((R.le L1).le L2) (fun hi hi' H3 L3 e3 hz=> ?_) (fun cls dd x H' L=>e cls dd x H' ((L1.trans L2).trans L))
 subst e3
 exact hr c _ _ _ _ hz Hb G A σ3 σ H3 vx Q (((R.le L1).le L2).le L3) (rx.mono (Same.trans L2.vis L3.vis)) (fun v d H' L=>k v d H' (((L1.trans L2).trans L3).trans L))
def cutL3:T→Option Int→Option Int→(T→Prop)→Prop:=fun x lo hi Q=>ob (asL x) fun xs=>Q (.lst (cut xs lo hi))
def cutT3:T→Option Int→Option Int→(T→Prop)→Prop:=fun x lo hi Q=>ob (asT x) fun xs=>Q (.tup (cut xs lo hi))
def cutS3:T→Option Int→Option Int→(T→Prop)→Prop:=fun x lo hi Q=>ob (asS x) fun z=>z.length≤sizeLine∧Q (.str (cutS z lo hi))
theorem rl_slL:RLs K (rSlL K) cutL3:=by
 intro c x lo hi Q3 hh Hb G A σ3 σ H vx Q R rx k
 obtain ⟨xs,ex,q⟩:=ob_iff.mp hh
 cases asL_is ex
 obtain ⟨a,vs,rfl,ha,rl⟩:=rx.lstI
 refine ⟨a,vs,rfl,SqL.of (hid_same _ _ ha),fun p hp=> ?_⟩
 have L:=R.new (o:=.lst (cutV vs lo hi)) hp
 exact k _ _ _ L (.mkL (R.newAt hp) ((rl.mono L.vis).cut lo hi)) q
theorem cut_whole {α:Type} {xs:List α} {lo hi:Option Int} (h:HT.sIx xs.length 0 lo=0∧HT.sIx xs.length xs.length hi=xs.length):cut xs lo hi=xs:=by
 unfold cut
 rw [h.1,h.2,List.drop_zero,Nat.sub_zero,List.take_length]
theorem rl_slT:RLs K (rSlF K) cutT3:=by
 intro c x lo hi Q3 hh Hb G A σ3 σ H vx Q R rx k
 obtain ⟨xs,ex,q⟩:=ob_iff.mp hh
 cases asT_is ex
 obtain ⟨a,vs,rfl,ha,rl⟩:=rx.tupI
 refine ⟨a,vs,rfl,Same.sqT hid_same ha,fun hw=> ?_,fun _ p o hp hd=> ?_⟩
 · rw [rl.length] at hw
   refine k _ _ _ (Le.refl R.inv) rx ?_
   rw [cut_whole hw] at q
   exact q
 · have L:=R.new (o:=.frz o (.tup (cutV vs lo hi))) hp
   exact k _ _ _ L (.mkT (FqT.of hd (R.newAt hp)) ((rl.mono L.vis).cut lo hi)) q
theorem rl_slS:RLs K rSlS cutS3:=by
 intro c x lo hi Q3 hh Hb G A σ3 σ H vx Q R rx k
 obtain ⟨z,ez,hz,q⟩:=ob_iff.mp hh
 cases asS_is ez
 exact ⟨z,rx.strI,hz,k _ _ H (Le.refl R.inv) (.str _) q⟩
def catL3:T→T→(T→Prop)→Prop:=fun x y Q=>ob (asL x) fun xs=>ob (asL y) fun ys=>xs.length+ys.length≤sizeLine∧Q (.lst (xs++ys))
def catT3:T→T→(T→Prop)→Prop:=fun x y Q=>ob (asT x) fun xs=>ob (asT y) fun ys=>xs.length+ys.length≤sizeLine∧Q (.tup (xs++ys))
def catS3:T→T→(T→Prop)→Prop:=fun x y Q=>ob (asS x) fun a=>ob (asS y) fun b=>a.length+b.length≤sizeLine∧Q (.str (a++b))
def repL3:T→T→(T→Prop)→Prop:=fun x y Q=>ob (asL x) fun xs=>ob (asI y) fun k=> -(2 ^ 63)≤k∧k<2 ^ 63∧xs.length * k.toNat≤sizeLine∧Q (.lst (List.replicate k.toNat xs).flatten)
theorem rl_catL:RL2 K rCat catL3:=by
 intro c x y Q3 hh Hb G A σ3 σ H vx vy Q R rx ry k
 obtain ⟨xs,ex,hh1⟩:=ob_iff.mp hh
 obtain ⟨ys,ey,hl,q⟩:=ob_iff.mp hh1
 cases asL_is ex
 cases asL_is ey
 obtain ⟨a,vs,rfl,ha,rl⟩:=rx.lstI
 obtain ⟨b,ws,rfl,hb,rm⟩:=ry.lstI
 refine ⟨a,b,vs,ws,rfl,rfl,hid_same _ _ ha,hid_same _ _ hb,by rw [rl.length,rm.length];exact hl,fun p hp=> ?_⟩
 have L:=R.new (o:=.lst (vs++ws)) hp
 exact k _ _ _ L (.mkL (R.newAt hp) ((rl.mono L.vis).append (rm.mono L.vis))) q
theorem rl_catT:RL2 K (rCatF K) catT3:=by
 intro c x y Q3 hh Hb G A σ3 σ H vx vy Q R rx ry k
 obtain ⟨xs,ex,hh1⟩:=ob_iff.mp hh
 obtain ⟨ys,ey,hl,q⟩:=ob_iff.mp hh1
 cases asT_is ex
 cases asT_is ey
 obtain ⟨a,vs,rfl,ha,rl⟩:=rx.tupI
 obtain ⟨b,ws,rfl,hb,rm⟩:=ry.tupI
 refine ⟨a,b,vs,ws,rfl,rfl,Same.sqT hid_same ha,Same.sqT hid_same hb,by rw [rl.length,rm.length];exact hl,fun h=> ?_,fun _ h=> ?_,fun _ _ p o hp hd=> ?_⟩
 · subst h
   cases rl
   exact k _ _ _ (Le.refl R.inv) ry q
 · subst h
   cases rm
   rw [List.append_nil] at q
   exact k _ _ _ (Le.refl R.inv) rx q
 · have L:=R.new (o:=.frz o (.tup (vs++ws))) hp
   exact k _ _ _ L (.mkT (FqT.of hd (R.newAt hp)) ((rl.mono L.vis).append (rm.mono L.vis))) q
theorem rl_catS:RL2 K (fun x y H Q=>∃i j,x= .str i∧y= .str j∧i.length+j.length≤sizeLine∧Q (.str (i++j)) H) catS3:=by
 intro c x y Q3 hh Hb G A σ3 σ H vx vy Q R rx ry k
 obtain ⟨a,ea,hh1⟩:=ob_iff.mp hh
 obtain ⟨b,eb,hl,q⟩:=ob_iff.mp hh1
 cases asS_is ea
 cases asS_is eb
 exact ⟨a,b,rx.strI,ry.strI,hl,k _ _ H (Le.refl R.inv) (.str _) q⟩
theorem RepL.times {H:Hp} {vs:List V} {ts:List T} (r:RepL K H vs ts):∀n:Nat,RepL K H (List.replicate n vs).flatten (List.replicate n ts).flatten
 | 0=>.nil
 | n+1=>by
   rw [List.replicate_succ,List.replicate_succ,List.flatten_cons,List.flatten_cons]
   exact r.append (RepL.times r n)
theorem rl_repL:RL2 K rRep repL3:=by
 intro c x y Q3 hh Hb G A σ3 σ H vx vy Q R rx ry k
 obtain ⟨xs,ex,hh1⟩:=ob_iff.mp hh
 obtain ⟨n,en,h1,h2,hl,q⟩:=ob_iff.mp hh1
 cases asL_is ex
 cases asI_is en
 obtain ⟨a,vs,rfl,ha,rl⟩:=rx.lstI
 refine ⟨a,n,vs,rfl,ry.intI,hid_same _ _ ha,h1,h2,by rw [rl.length];exact hl,fun p hp=> ?_⟩
 have L:=R.new (o:=.lst (List.replicate n.toNat vs).flatten) hp
 exact k _ _ _ L (.mkL (R.newAt hp) ((rl.mono L.vis).times _)) q
def tuple3:List T→(T→Prop)→Prop:=fun xs Q=>ob (one xs) fun x=>ob (items x) fun ys=>Q (.tup ys)
theorem items_cases {x:T} {ys:List T} (h:items x=some ys):x= .lst ys∨x= .tup ys:=by
 cases x<;>simp [items] at h<;>subst h<;>simp
theorem rl_tuple:RLn K (rTup K) tuple3:=by
 intro c xs Q3 hh Hb G A σ3 σ H vs Q R rx k
 obtain ⟨x,ex,hh1⟩:=ob_iff.mp hh
 obtain ⟨ys,hi,q⟩:=ob_iff.mp hh1
 cases one_is ex
 obtain ⟨v,rfl,r⟩:=repL_one rx
 rcases items_cases hi with rfl | rfl
 · obtain ⟨a,vs,rfl,ha,rl⟩:=r.lstI
   refine ⟨a,vs,rfl,.inl ⟨SqL.of (hid_same _ _ ha),fun p o hp hd=> ?_⟩⟩
   have L:=R.new (o:=.frz o (.tup vs)) hp
   exact k _ _ _ L (.mkT (FqT.of hd (R.newAt hp)) (rl.mono L.vis)) q
 · obtain ⟨a,vs,rfl,ha,rl⟩:=r.tupI
   exact ⟨a,vs,rfl,.inr ⟨Same.sqT hid_same ha,k _ _ _ (Le.refl R.inv) r q⟩⟩
end
end M3
namespace M3
open PySem L2
def PotAt (p cc:Addr) (H:Hp):Prop:=
 ∃(cs:List Int) (i n s:Int),H p=some (.lst [.ref cc,.int i,.int n,.int s])∧H cc=some (.lst (cs.map V.int))∧0≤i∧i<cs.length∧cs.length≤1000∧(∀z∈cs,0≤z)∧0≤s∧s<2147483647
theorem PotAt.ne {p cc:Addr} {H:Hp} (h:PotAt p cc H):p≠cc:=by
 obtain ⟨cs,i,n,s,h1,h2,_⟩:=h
 refine ne_of h1 h2 fun z=> ?_
 have z:[V.ref cc,V.int i,V.int n,V.int s]=cs.map V.int:=HO.lst.inj z
 cases cs with
 | nil=>cases z
 | cons a cs=>rw [List.map_cons] at z;injection z with z _;cases z
theorem PotAt.stay {p cc:Addr} {H H':Hp} (h:PotAt p cc H) (e1:H' p=H p) (e2:H' cc=H cc):PotAt p cc H':=by
 obtain ⟨cs,i,n,s,h1,h2,r⟩:=h
 exact ⟨cs,i,n,s,by rw [e1];exact h1,by rw [e2];exact h2,r⟩
theorem tabs_stay {T:List (Addr×Str)} {H H':Hp} (h:LamX.Tabs T H) (e:∀a∈T.map (·.1),H' a=H a) (x:SameX H H'):LamX.Tabs T H':=fun q hq=>by
 obtain ⟨ps,h1,h2,h3⟩:=h q hq
 refine ⟨ps,by rw [e q.1 (List.mem_map.mpr ⟨q,hq,rfl⟩)];exact h1,h2,fun pos cv z=> ?_⟩
 obtain ⟨c,e1,e2⟩:=h3 pos cv z
 exact ⟨c,e1,x _ _ e2⟩
def potR (fr:Bool) (p cc:Addr) (T:List (Addr×Str)):Cf where
 S0:=p::cc::T.map (·.1)
 I:=fun H=>PotAt p cc H∧LamX.Tabs T H
 st:=fun H H' e x h=>⟨h.1.stay (e p (by simp)) (e cc (by simp)),tabs_stay h.2 (fun a ha=>e a (by simp at ha ⊢;exact .inr (.inr ha))) x⟩
 on:=fun H h a ha=>by
  obtain ⟨⟨cs,i,n,s,h1,h2,r⟩,ht⟩:=h
  rcases List.mem_cons.mp ha with rfl | ha
  · rw [h1];intro z;cases z
  · rcases List.mem_cons.mp ha with rfl | ha
    · rw [h2];intro z;cases z
    · obtain ⟨q,hq,rfl⟩:=List.mem_map.mp ha
      obtain ⟨ps,z,_⟩:=ht q hq
      rw [z];intro y;cases y
 gOk:=fun o=>T=[]∨vis o=true
 gL:=fun _=>.inr rfl
 gV:=fun _ h=>.inr h
 fr:=fr
abbrev potT (p cc:Addr) (T:List (Addr×Str)):Cf:=potR false p cc T
abbrev potCf (p cc:Addr):Cf:=potT p cc []
theorem tabs_nil {H:Hp}:LamX.Tabs [] H:=fun q hq=>by cases hq
def spP (K:PySem.W.Frag) (n:Nat) (f:F3):Sp:=fun vs H Q E=>∃p cc G ds,PotAt p cc H∧(∀a∈G,H a≠none∧a ∉ (potCf p cc).S0)∧(T.ref p::ds).length=n∧RepL K (hid ((potCf p cc).S0++G) H) vs (T.ref p::ds)∧∃Q3 X,f (T.ref p::ds) Q3 X∧
 (∀v d H',PotAt p cc H'→Same (hid ((potCf p cc).S0++G) H) (hid ((potCf p cc).S0++G) H')→(∀a∈G,H' a=H a)→Rep K (hid ((potCf p cc).S0++G) H') v d→Q3 d→Q v H')∧
 (∀cls dd x H',PotAt p cc H'→Same (hid ((potCf p cc).S0++G) H) (hid ((potCf p cc).S0++G) H')→(∀a∈G,H' a=H a)→XRep K (hid ((potCf p cc).S0++G) H') cls dd x→X x→E cls dd H')
theorem spP_len {K:PySem.W.Frag} {n:Nat} {f:F3} {ps:List Str} (h:ps.length=n):∀vs H Q E,spP K n f vs H Q E→vs.length=ps.length:=by
 intro vs H Q E h'
 obtain ⟨p,cc,G,ds,_,_,hl,r,_⟩:=h'
 rw [r.length,hl,h]
theorem bodyP {K:PySem.W.Frag} {n:Nat} {f:F3} {N:List Str} {t:TS} {x:Addr→S3} {W:WX} {vs:List V} {H:Hp} {Q:VK} {E:XK} (h:spP K n f vs H Q E) (hW:∀cls dd σ H',E cls dd H'→W cls dd σ H')
 (lt:∀p cc,LiftS K (potCf p cc) W t (x p)) (hb:∀p ds Q3 X,(T.ref p::ds).length=n→f (T.ref p::ds) Q3 X→x p {nx:=fun _=>Q3 .non,rt:=Q3,xn:=fun _=>X} (start3 N.length (T.ref p::ds))):t {nx:=fun _ H'=>Q .non H',rt:=Q} (start N vs) H:=by
 obtain ⟨p,cc,G,ds,hp,hG,hl,r,Q3,X,hf,hq,hx⟩:=h
 refine lt p cc _ _ (hb p ds Q3 X hl hf) H G _ _ H _ (r3_start (c:=potCf p cc) (N:=N) ⟨hp,tabs_nil⟩ hG (fun _=>.inl rfl) r) ⟨?_, ?_,fun _ _ _ _ _ z=>z.elim,fun _ _ _ _ _ z=>z.elim, ?_⟩
 · intro A σ3 σ H' R q
   exact hq _ _ _ R.inv.1 R.fin.base (fun a h=>R.fin.gk a h) .non q
 · rintro v d H' ⟨F,rv⟩ q
   exact hq _ _ _ F.inv.1 F.base (fun a h=>F.gk a h) rv q
 · intro A σ3 σ H' cls dd xn R rx q
   refine hW _ _ _ _ (hx cls dd xn H' R.inv.1 R.fin.base (fun a h=>R.fin.gk a h) ?_ q)
   obtain ⟨e,rx⟩:=rx
   refine ⟨e, ?_⟩
   cases dd with
   | none=>exact rx
   | some d=>
     obtain ⟨fs,h1,h2,h3⟩:=rx
     exact ⟨fs,hid_fin _ _ h1,h2,h3.mono hid_fin⟩
def fnP30 (p:Addr) (n:Nat) (f:F3) (x:A3) (dvs:List T):E3:=fun σ Q X=>x σ (fun ds=>ds.head? =some (T.ref p)∧(ds++dvs).length=n∧f (ds++dvs) Q (fun _=>False)) X
def fnP3 (p:Addr) (n:Nat) (f:F3) (x:A3) (dvs:List T):E3:=fun σ Q X=>x σ (fun ds=>ds.head? =some (T.ref p)∧(ds++dvs).length=n∧f (ds++dvs) Q X) X
theorem spP_call {K:PySem.W.Frag} {p cc:Addr} {fr:Bool} {Ts:List (Addr×Str)} {n:Nat} {f:F3} {Hb H1:Hp} {G:List Addr} {A:List (Option Addr)} {σ3:List Sl} {σ:St} {vs:List V} {ds:List T} {Q:VK} {E:XK} {Q3:T→Prop} {X:X3} (R1:R3 K (potR fr p cc Ts) Hb G A σ3 σ H1)
 (rx:RepL K (hid ((potR fr p cc Ts).S G A) H1) vs (T.ref p::ds)) (hl:(T.ref p::ds).length=n) (hf:f (T.ref p::ds) Q3 X) (k:∀v d H',Le (potR fr p cc Ts) G A H1 H'→Rep K (hid ((potR fr p cc Ts).S G A) H') v d→Q3 d→Q v H')
 (e:∀cls dd x H',Le (potR fr p cc Ts) G A H1 H'→XRep K (hid ((potR fr p cc Ts).S G A) H') cls dd x→X x→E cls dd H'):spP K n f vs H1 Q E:=by
 have eS:∀a,a∈(potCf p cc).S0++(((potR fr p cc Ts).S G A).filter fun a=>decide (a≠p∧a≠cc))↔a∈(potR fr p cc Ts).S G A:=fun a=>by
  have h0:p∈(potR fr p cc Ts).S G A:=mem_S.mpr (.inl (by simp [potR]))
  have h1:cc∈(potR fr p cc Ts).S G A:=mem_S.mpr (.inl (by simp [potR]))
  constructor
  · intro h
    rcases List.mem_append.mp h with h | h
    · simp [potCf,potR] at h
      rcases h with rfl | rfl
      · exact h0
      · exact h1
    · exact (List.mem_filter.mp h).1
  · intro h
    by_cases z:a≠p∧a≠cc
    · exact List.mem_append.mpr (.inr (List.mem_filter.mpr ⟨h,by simpa using z⟩))
    · refine List.mem_append.mpr (.inl ?_)
      simp only [potCf,potR,List.map_nil,List.mem_cons,List.not_mem_nil,or_false]
      by_cases q:a=p
      · exact .inl q
      · by_cases q':a=cc
        · exact .inr q'
        · exact absurd ⟨q,q'⟩ z
 have eH:∀H,hid ((potCf p cc).S0++(((potR fr p cc Ts).S G A).filter fun a=>decide (a≠p∧a≠cc))) H=hid ((potR fr p cc Ts).S G A) H:=fun H=>by
  funext a
  by_cases h:a∈(potR fr p cc Ts).S G A
  · rw [hid_in h,hid_in ((eS a).mpr h)]
  · have h':=fun z=>h ((eS a).mp z)
    unfold hid
    rw [out_out h,out_out h']
 have hG:∀a∈((potR fr p cc Ts).S G A).filter (fun a=>decide (a≠p∧a≠cc)),H1 a≠none∧a ∉ (potCf p cc).S0:=fun a ha=>by
  obtain ⟨h1,h2⟩:=List.mem_filter.mp ha
  have h2:a≠p∧a≠cc:=by simpa using h2
  exact ⟨R1.there h1,by simp [potCf,potR,h2.1,h2.2]⟩
 have le:∀H',PotAt p cc H'→Same (hid ((potR fr p cc Ts).S G A) H1) (hid ((potR fr p cc Ts).S G A) H')→(∀a∈((potR fr p cc Ts).S G A).filter (fun a=>decide (a≠p∧a≠cc)),H' a=H1 a)→Le (potR fr p cc Ts) G A H1 H':=fun H' hp s1 s2=>by
  have s3:∀a∈(potR fr p cc Ts).S G A,a≠p→a≠cc→H' a=H1 a:=fun a h1 h2 h3=>s2 a (List.mem_filter.mpr ⟨h1,by simp [h2,h3]⟩)
  obtain ⟨hp0,ht⟩:=R1.inv
  have npc:∀a o,H1 a=some o→(∀vs,o≠ .lst vs)→a≠p∧a≠cc:=fun a o e hne=>by
   obtain ⟨cs,i,n,s,h1,h2,_⟩:=hp0
   exact ⟨ne_of e h1 (hne _),ne_of e h2 (hne _)⟩
  refine ⟨s1,fun a ha=> ?_,hp, ?_⟩
  · have hm:a∈(potR fr p cc Ts).S G A:=mem_S.mpr (by rcases List.mem_append.mp ha with z | z;exact .inr (.inl z);exact .inr (.inr z))
    have hn:a ∉ (potR fr p cc Ts).S0:=by
     rcases List.mem_append.mp ha with z | z
     · exact (R1.gk a z).2.2
     · exact fun q=>R1.ns a z (List.mem_append.mpr (.inl q))
    exact s3 a hm (fun z=>hn (by simp [potR,z])) (fun z=>hn (by simp [potR,z]))
  · refine tabs_stay ht (fun a ha=> ?_) (fun a φ e=> ?_)
    · obtain ⟨q,hq,rfl⟩:=List.mem_map.mp ha
      obtain ⟨ps,z,_⟩:=ht q hq
      have:=npc _ _ z (fun vs y=>by cases y)
      exact s3 _ (mem_S.mpr (.inl (by simp [potR];exact .inr (.inr ⟨_,hq⟩)))) this.1 this.2
    · by_cases h:a∈(potR fr p cc Ts).S G A
      · have:=npc _ _ e (fun vs y=>by cases y)
        rw [s3 a h this.1 this.2];exact e
      · exact (hid_some (s1 _ _ (hid_mk e h))).1
 refine ⟨p,cc,_,ds,R1.inv.1,hG,hl,by rw [eH];exact rx,Q3,X,hf, ?_, ?_⟩
 · rw [eH]
   intro v d H' hp s1 s2 rv q
   rw [eH] at s1 rv
   exact k v d H' (le H' hp s1 s2) rv q
 · rw [eH]
   intro cls dd xn H' hp s1 s2 rv q
   rw [eH] at s1 rv
   exact e cls dd xn H' (le H' hp s1 s2) rv q
theorem lift_callP0 {K:PySem.W.Frag} {p cc:Addr} {fr:Bool} {Ts:List (Addr×Str)} {n:Nat} {f:F3} {W:WX} {E:XK} {t:TA} {x:A3} {dvs:List V} {dts:List T} (ha:LiftA K (potR fr p cc Ts) W t x) (hd:∀H,RepL K H dvs dts):
 Lift K (potR fr p cc Ts) W (tCall (spP K n f) dvs E t) (fnP30 p n f x dts):=by
 intro σ3 Q3 X h Hb G A σ H Q R k e
 refine ha _ _ _ h Hb G A σ H _ R (fun vs ds H1 L1 rx hx=> ?_) e
 obtain ⟨hd0,hl,hf⟩:=hx
 obtain ⟨r,rfl⟩:∃r,ds=T.ref p::r:=by
  cases ds with
  | nil=>cases hd0
  | cons a r=>cases hd0;exact ⟨r,rfl⟩
 exact spP_call (R.le L1) (rx.append (hd _)) hl hf (fun v d H' L r q=>k v d H' (L1.trans L) r q) (fun cls dd x H' L r q=>q.elim)
theorem lift_callP {K:PySem.W.Frag} {p cc:Addr} {fr:Bool} {Ts:List (Addr×Str)} {n:Nat} {f:F3} {W:WX} {E:XK} {t:TA} {x:A3} {dvs:List V} {dts:List T} (hE:∀cls dd σ H,W cls dd σ H→E cls dd H) (ha:LiftA K (potR fr p cc Ts) W t x) (hd:∀H,RepL K H dvs dts):
 Lift K (potR fr p cc Ts) W (tCall (spP K n f) dvs E t) (fnP3 p n f x dts):=by
 intro σ3 Q3 X h Hb G A σ H Q R k e
 refine ha _ _ _ h Hb G A σ H _ R (fun vs ds H1 L1 rx hx=> ?_) e
 obtain ⟨hd0,hl,hf⟩:=hx
 obtain ⟨r,rfl⟩:∃r,ds=T.ref p::r:=by
  cases ds with
  | nil=>cases hd0
  | cons a r=>cases hd0;exact ⟨r,rfl⟩
 exact spP_call (R.le L1) (rx.append (hd _)) hl hf (fun v d H' L r q=>k v d H' (L1.trans L) r q) (fun cls dd x H' L r q=>hE _ _ σ _ (e cls dd x H' (L1.trans L) r q))
def take3:F3:=fun ds Q _=>ob (two ds) fun p=>ob (asI p.2) fun m=>0<m∧m<2 ^ 200∧∀r,0≤r→r<m→Q (.int r)
def spTake:Sp:=fun vs H Q _=>∃p cc m,vs=[.ref p,.int m]∧PotAt p cc H∧0<m∧m<2 ^ 200∧∀r H',0≤r→r<m→PotAt p cc H'→(∀a,a≠p→a≠cc→H' a=H a)→Q (.int r) H'
theorem take_imp {K:PySem.W.Frag}:∀vs H Q E,spP K 2 take3 vs H Q E→spTake vs H Q E:=by
 intro vs H Q E h
 obtain ⟨p,cc,G,ds,hp,hG,hl,r,Q3,X,hf,hq,hx⟩:=h
 obtain ⟨⟨p',m'⟩,e,hf⟩:=ob_iff.mp hf
 obtain ⟨m,em,h0,h1,hd⟩:=ob_iff.mp hf
 cases asI_is em
 have e:=two_is e
 injection e with e1 e2
 subst e2
 obtain ⟨v,w,rfl,rv,rw'⟩:=repL_two r
 cases rv.refI
 cases rw'.intI
 refine ⟨p,cc,m,rfl,hp,h0,h1,fun r H' r0 r1 hp' he=> ?_⟩
 have nin:∀a,a ∉ (potCf p cc).S0→a≠p∧a≠cc:=fun a ha=>⟨fun z=>ha (by rw [z];exact List.mem_cons_self ..),fun z=>ha (by rw [z];exact List.mem_cons_of_mem _ (List.mem_cons_self ..))⟩
 refine hq _ (.int r) H' hp' (fun a o e=> ?_) (fun a ha=> ?_) (.int r) (hd r r0 r1)
 · obtain ⟨e1,e2⟩:=hid_some e
   have ha:=nin a fun z=>e2 (List.mem_append.mpr (.inl z))
   exact hid_mk (by rw [he a ha.1 ha.2];exact e1) e2
 · have:=nin a (hG a ha).2
   exact he a this.1 this.2
theorem get_list {X:Cx}:PGet X (rIxL X.K):=by
 intro pins s σ H x y v u Q I rx ry h
 obtain ⟨p,xs,i,z,rfl,rfl,hq,he,q⟩:=h
 cases rx
 obtain ⟨t,rfl⟩:=ry
 obtain ⟨its,r,pl,hz⟩:=I.list hq
 obtain ⟨j,h1,h2,h3,h4,h5⟩:=atI_get he
 obtain ⟨w,ew,rw'⟩:=r.get h2
 have hl:=r.length
 have hn:=line63
 have fin:EP X pins σ Q w s:=⟨z,H,I,rw',q⟩
 by_cases h0:0≤i
 · have hj:i.toNat=j:=by
    rw [seqIndex_of h0 h5] at h1
    exact Option.some.inj h1
   exact wpAny_getItem_list pl.isList h0 (by omega) (by rw [hj];simpa using ew) fin
 · have hj:(i+(its.toArray.size:Int)).toNat=j:=by
    rw [seqIndex_neg (by omega) h4] at h1
    rw [List.size_toArray, ←hl]
    exact Option.some.inj h1
   exact wpAny_getItem_list_neg pl.isList (by omega) (by rw [List.size_toArray]<;>omega) (by omega) (by rw [hj];simpa using ew) fin
section
variable {K:PySem.W.Frag}
def isB3:T→T→(T→Prop)→Prop:=fun x y Q=>ob (asB x) fun a=>ob (asB y) fun b=>Q (.bl (decide (a=b)))
def toI:T→Option Int
 | .int i=>some i
 | .bl b=>some (if b then 1 else 0)
 | _=>none
def int13:List T→(T→Prop)→Prop:=fun xs Q=>ob (one xs) fun x=>ob (toI x) fun i=>Q (.int i)
theorem rl_int1:RLn K (fun xs H Q=>(∃i,xs=[.int i]∧Q (.int i) H)∨∃k,xs=[.bl k]∧Q (.int (if k then 1 else 0)) H) int13:=by
 intro c xs Q3 hh Hb G A σ3 σ H vs Q R rx k
 obtain ⟨x,ex,hh1⟩:=ob_iff.mp hh
 obtain ⟨i,ei,q⟩:=ob_iff.mp hh1
 cases one_is ex
 obtain ⟨v,rfl,r⟩:=repL_one rx
 cases x with
 | int i=>
   cases ei
   cases r.intI
   exact .inl ⟨_,rfl,k _ _ H (Le.refl R.inv) (.int _) q⟩
 | bl b=>
   cases ei
   cases r.blI
   exact .inr ⟨b,rfl,k _ _ H (Le.refl R.inv) (.int _) q⟩
 | _=>cases ei
end
end M3
namespace M3
open PySem L2
section
variable {X:Cx} {K:PySem.W.Frag} {pos:Pos}
theorem ix_listK (h:X.K=K):IxR X (rIxL K):=h ▸ ix_list
theorem ix_tupK (h:X.K=K):IxR X (rIxT K):=h ▸ ix_tup
theorem ix_strK (h:X.K=K):IxR X rIxS:=ix_str
theorem call_lenK (h:X.K=K):CallR X (.builtin "len") (fun xs H Q=>∃x n,xs=[x]∧LenV K x H n∧Q (.int n) H):=h ▸ call_len
theorem call_isiK' (h:X.K=K):CallR X (.builtin "isinstance") (rIsi K):=h ▸ call_isi
theorem cr_allK (h:X.K=K) (hc:X.calm=true):CallR X (.builtin "all") (rAll K):=h ▸ cr_all hc
theorem sl_listK (h:X.K=K):SlR X (rSlL K):=h ▸ sl_list
theorem sl_tupK (h:X.K=K):SlR X (rSlF K):=h ▸ sl_tupF
theorem sl_strK (h:X.K=K):SlR X rSlS:=sl_str
theorem op_catTK (h:X.K=K):OpR X (binaryOp .Add) (rCatF K):=h ▸ op_catF
theorem call_tupleK (h:X.K=K):CallR X (.type "tuple") (rTup K):=h ▸ call_tupleF
theorem pi_zipK {e e2:Expr} {ta:TA} {p tpos:Pos} {elts:List Expr} {kk:Nat} (h:X.K=K) (hg:Gl X "zip") (hm:X.mg "zip"=none) (ha:PA X [e,e2] ta)
 (hs:starEach [e,e2] X.env=(false,eval e X.env)::starEach [e2] X.env:=by rfl) (hpl:(backTo pos (starEach [e2] X.env)).any (·.1)=false:=by rfl):
 PI X (.Tuple elts kk tpos) (.Call (.Name "zip" p) [e,e2] [] pos) (RZ.iZipA K ta):=h ▸ RZ.pi_zipA hg hm ha hs hpl
theorem pg_tupK {es:List Expr} {k:Nat} {t:TGs} {n:Nat} (h:X.K=K) (hc:X.calm=true) (hp:PGs X es t)
 (hn:(assignEach es X.env).length=n:=by rfl) (hst:(assignEach es X.env).findIdx? (·.1)=none:=by rfl):PG X (.Tuple es k pos) (gTup K n t):=h ▸ pg_tup hc hp hn hst
def tTrK (K:PySem.W.Frag) (ta:TE):TT:=fun σ H Q=>ta σ H fun x H'=>∃k,TruV K x H' k∧Q k H'
theorem pt_truthK {a:Expr} {ta:TE} (h:X.K=K) (ha:PE X a ta) (he:∀whole,isTrue a X.env whole=(do let v ←whole;standAt a.pos;holding [v] (truthy v))):PT X a (tTrK K ta):=h ▸ pt_truth ha he
end
section
variable {K:PySem.W.Frag} {c:Cf} {W:WX}
def truT:T→Option Bool
 | .non=>some false
 | .bl b=>some b
 | .int i=>some (i != 0)
 | .str y=>if y.length≤sizeLine then some ((y.length:Int) != 0) else none
 | .lst xs=>some (!xs.isEmpty)
 | .tup xs=>some (!xs.isEmpty)
 | _=>none
def truth3 (a:E3):B3:=fun σ Q X=>a σ (fun x=>ob (truT x) Q) X
theorem RepL.isEmpty {H:Hp} {vs:List V} {ts:List T} (r:RepL K H vs ts):vs.isEmpty=ts.isEmpty:=by cases r<;>rfl
theorem lift_truth {ta:TE} {a:E3} (ha:Lift K c W ta a):LiftT K c W (tTrK K ta) (truth3 a):=by
 intro σ3 Q3 X h Hb G A σ H Q R k e
 refine ha _ _ _ h Hb G A σ H _ R (fun vx x H1 L1 rx hx=> ?_) e
 obtain ⟨b,hb,q⟩:=ob_iff.mp hx
 refine ⟨b, ?_,k b b H1 L1 rfl q⟩
 cases x with
 | non=>cases rx.nonI;cases hb;exact rfl
 | bl i=>cases rx.blI;cases hb;exact rfl
 | int i=>cases rx.intI;cases hb;exact rfl
 | str y=>
   cases rx.strI
   replace hb:(if y.length≤sizeLine then some ((y.length:Int) != 0) else none)=some b:=hb
   by_cases hy:y.length≤sizeLine
   · rw [if_pos hy] at hb;cases hb;exact ⟨hy,rfl⟩
   · rw [if_neg hy] at hb;cases hb
 | lst xs=>
   obtain ⟨a,vs,rfl,hq,rl⟩:=rx.lstI
   cases hb
   exact .inl ⟨vs,SqL.of (hid_same _ _ hq),by rw [rl.isEmpty]⟩
 | tup xs=>
   obtain ⟨a,vs,rfl,hq,rl⟩:=rx.tupI
   cases hb
   exact .inr (.inl ⟨vs,Same.sqT hid_same hq,by rw [rl.isEmpty]⟩)
 | _=>cases hb
end
end M3
namespace M3
open PySem L2
theorem r3_pot {K:PySem.W.Frag} {p cc:Addr} {Ts:List (Addr×Str)} {H:Hp} (m:Nat) (a:Addr) (hp:PotAt p cc H) (ht:LamX.Tabs Ts H):
 R3 K (potT p cc Ts) H [] (List.replicate (m+2) none) (Sl.no::Sl.val (.ref p)::List.replicate m Sl.no) (some (V.ref a)::some (V.ref p)::List.replicate m none) H:=by
 have hA:addrs (List.replicate (m+2) (none:Option Addr))=[]:=by
  unfold addrs
  rw [List.filterMap_replicate_of_none rfl]
 refine ⟨⟨hp,ht⟩, ?_,fun a h=>(by cases h),fun a h=>(by cases h),(by rw [hA];exact List.nodup_nil),fun a h=>(by rw [hA] at h;cases h),(by simp),(by simp), ?_⟩
 · unfold Cf.S
   rw [hA,List.append_nil,List.append_nil]
   exact Same.refl _
 · intro i s o x h1 h2 h3
   have ho:o=none:=(List.mem_replicate.mp (List.mem_of_getElem? h2)).2
   subst ho
   match i,h1,h3 with
   | 0,h1,h3=>cases h1;exact rfl
   | 1,h1,h3=>cases h1;cases h3;exact ⟨rfl,_,rfl,.ref p⟩
   | i+2,h1,h3=>
     have hs:s= .no:=(List.mem_replicate.mp (List.mem_of_getElem? (show (List.replicate m Sl.no)[i]? =some s by simpa using h1))).2
     subst hs
     exact rfl
theorem law_restT {K:PySem.W.Frag} {p cc:Addr} {Ts:List (Addr×Str)} {W:WX} {t:TS} {x:S3} {H:Hp} {Q:VK} {a:Addr} (m:Nat) (lt:LiftS K (potT p cc Ts) W t x) (hp:PotAt p cc H) (ht:LamX.Tabs Ts H) (hQ:∀H',Q (.bl true) H')
 (hx:x {nx:=fun _=>False,rt:=fun d=>d= .bl true} (Sl.no::Sl.val (.ref p)::List.replicate m Sl.no)):t {nx:=fun _ H'=>Q .non H',rt:=Q} (some (V.ref a)::some (V.ref p)::List.replicate m none) H:=by
 refine lt _ _ hx H [] _ _ H _ (r3_pot m a hp ht) ⟨fun _ _ _ _ _ z=>z.elim,fun v d H' F e=> ?_,fun _ _ _ _ _ z=>z.elim,fun _ _ _ _ _ z=>z.elim,fun _ _ _ _ _ _ _ _ _ z=>z.elim⟩
 obtain ⟨_,r⟩:=F
 subst e
 rw [r.blI]
 exact hQ H'
theorem ob_atI {xs:List T} {r:Int} {Q:T→Prop} (h0:0≤r) (h1:r<xs.length) (h:∀x∈xs,Q x):ob (atI xs r) Q:=by
 obtain ⟨j,rfl⟩:∃j:Nat,r=(j:Int):=⟨r.toNat,by omega⟩
 have hj:j<xs.length:=by omega
 have e:atI xs (j:Int)=some xs[j]:=atI_nat (List.getElem?_eq_getElem hj)
 rw [e]
 exact h _ (List.getElem_mem hj)
theorem draw_all {xs:List T} {n:Int} {Q:T→Prop} (hn:n=xs.length) (h:∀x∈xs,Q x):∀r:Int,0≤r→r<n→ob (atI xs r) Q:=fun r h0 h1=>ob_atI h0 (by omega) h
theorem seq_by {t u:S3} {N:N3} {σ:List Sl} (M:List Sl→Prop) (h:∀nx:List Sl→Prop,(∀σ',M σ'→nx σ')→t {N with nx:=nx} σ) (k:∀σ',M σ'→u N σ'):seq3 t u N σ:=h (u N) k
theorem loop_name {i:Nat} {tb:S3} {N:N3} (P:List T→List Sl→Prop) (ds:List T) (σ:List Sl) (h:P ds σ) (h0:∀σ,P [] σ→N.nx σ)
 (hs:∀x r σ,P (x::r) σ→∀nx:List Sl→Prop,(∀σ2,P r σ2→nx σ2)→tb {nx:=nx,ct:=nx,bk:=N.nx,rt:=N.rt,xn:=N.xn} (σ.set i (.val x))):loop3 (name3 i) tb N ds σ:=
 loop3_inv P ds σ h h0 (fun x r σ hp=>fun nx hn=>hs x r σ hp nx hn) (fun d σ Q Q' hq h=>hq _ h)
end M3
namespace M3
open PySem L2
section
variable {X:Cx} {K:PySem.W.Frag}
theorem op_inK (h:X.K=K):OpR X (compareOp .In) (rIn K false):=h ▸ op_in_seq
theorem op_notInK (h:X.K=K):OpR X (compareOp .NotIn) (rIn K true):=h ▸ op_notIn_seq
end
section
variable {K:PySem.W.Frag}
def flats:List T→Option (List V)
 | []=>some []
 | t::ts=>(flatT t).bind fun v=>(flats ts).map (v::·)
theorem flat_flat {t:T} {v:V} (h:flatT t=some v):flatV v=true:=by cases t<;>cases h<;>rfl
theorem RepL.flats {H:Hp}:∀ {vs:List V} {ts:List T} {ws:List V},RepL K H vs ts→M3.flats ts=some ws→vs=ws∧ws.all flatV=true
 | _,[],ws,.nil,h=>by cases h;exact ⟨rfl,rfl⟩
 | _,t::ts,ws,.cons r q,h=>by
   have h:(flatT t).bind (fun v=>(M3.flats ts).map (v::·))=some ws:=h
   cases e:flatT t with
   | none=>rw [e] at h;cases h
   | some v=>
     rw [e] at h
     cases e2:M3.flats ts with
     | none=>rw [e2] at h;cases h
     | some l=>
       rw [e2] at h
       cases h
       obtain ⟨h1,h2⟩:=RepL.flats q e2
       rw [r.flat e,h1]
       exact ⟨rfl,by rw [List.all_cons,flat_flat e,h2];rfl⟩
def in3 (neg:Bool):T→T→(T→Prop)→Prop:=fun x y Q=>ob (flatT x) fun v=>ob (items y) fun ys=>ob (flats ys) fun vs=>Q (.bl (if neg then !inV v vs else inV v vs))
theorem rl_in (neg:Bool):RL2 K (rIn K neg) (in3 neg):=by
 intro c x y Q3 hh Hb G A σ3 σ H vx vy Q R rx ry k
 obtain ⟨v,ev,h1⟩:=ob_iff.mp hh
 obtain ⟨ys,ey,h2⟩:=ob_iff.mp h1
 obtain ⟨vs,es,q⟩:=ob_iff.mp h2
 have e:=rx.flat ev
 subst e
 rcases items_cases ey with rfl | rfl
 · obtain ⟨a,ws,rfl,ha,rl⟩:=ry.lstI
   obtain ⟨e1,e2⟩:=rl.flats es
   subst e1
   exact ⟨a,ws,rfl,.inl (SqL.of (hid_same _ _ ha)),flat_flat ev,e2,k _ _ H (Le.refl R.inv) (.bl _) q⟩
 · obtain ⟨a,ws,rfl,ha,rl⟩:=ry.tupI
   obtain ⟨e1,e2⟩:=rl.flats es
   subst e1
   exact ⟨a,ws,rfl,.inr (Same.sqT hid_same ha),flat_flat ev,e2,k _ _ H (Le.refl R.inv) (.bl _) q⟩
end
end M3
namespace M3
open PySem L2
section
variable {K:PySem.W.Frag} {c:Cf} {W:WX}
def raise3 (cls:Value):S3:=fun N σ=>N.xn σ ⟨cls,[]⟩
end
def tOne (s:Str):TS:=tRet (tTup (tCons (tC (.str s)) tNil))
theorem one_line:(1:Nat)≤sizeLine:=by decide
end M3
namespace M3
open PySem L2
section
variable {X:Cx} {K:PySem.W.Frag}
theorem op_eqDK (h:X.K=K) (hu:X.A.units+64<cLine):OpR X (compareOp .Eq) (rEqD K):=h ▸ op_eqD hu
theorem op_neDK (h:X.K=K) (hu:X.A.units+64<cLine):OpR X (compareOp .NotEq) (rNeD K):=h ▸ op_neD hu
end
mutual
def dat:T→Option PyData
 | .non=>some .none
 | .bl b=>some (.bool b)
 | .int i=>some (.int i)
 | .str x=>some (.str x)
 | .tup xs=>(dats xs).map .tuple
 | .lst xs=>(dats xs).map .list
 | .ty _=>none
 | .ref _=>none
 | .dic _=>none
 | .ins _ _=>none
 | .kd _ _=>none
def dats:List T→Option (List PyData)
 | []=>some []
 | t::ts=>(dat t).bind fun d=>(dats ts).map (d::·)
end
mutual
theorem dp_of {K:PySem.W.Frag} {H H':Hp} (s:Same H H'):∀(t:T) (v:V) (d:PyData),Rep K H v t→dat t=some d→Dp K H' v d
 | .non,v,d,r,h=>by
   cases h
   cases r
   exact .non
 | .bl b,v,d,r,h=>by
   cases h
   cases r
   exact .bl _
 | .int i,v,d,r,h=>by
   cases h
   cases r
   exact .int _
 | .str x,v,d,r,h=>by
   cases h
   cases r
   exact .str _
 | .tup xs,v,d,r,h=>by
   obtain ⟨a,vs,rfl,ha,rl⟩:=r.tupI
   have h:(dats xs).map PyData.tuple=some d:=by simpa [dat] using h
   cases e:dats xs with
   | none=>rw [e] at h;cases h
   | some ds=>
     rw [e] at h
     cases h
     exact .tup (Same.sqT s ha) (dps_of s xs vs ds rl e)
 | .lst xs,v,d,r,h=>by
   obtain ⟨a,vs,rfl,ha,rl⟩:=r.lstI
   have h:(dats xs).map PyData.list=some d:=by simpa [dat] using h
   cases e:dats xs with
   | none=>rw [e] at h;cases h
   | some ds=>
     rw [e] at h
     cases h
     exact .lst (SqL.of (s _ _ ha)) (dps_of s xs vs ds rl e)
 | .ty _,v,d,r,h=>by simp [dat] at h
 | .ref _,v,d,r,h=>by simp [dat] at h
 | .dic _,v,d,r,h=>by simp [dat] at h
 | .ins _ _,v,d,r,h=>by simp [dat] at h
 | .kd _ _,v,d,r,h=>by simp [dat] at h
theorem dps_of {K:PySem.W.Frag} {H H':Hp} (s:Same H H'):∀(ts:List T) (vs:List V) (ds:List PyData),RepL K H vs ts→dats ts=some ds→DpAll K H' vs ds
 | [],vs,ds,r,h=>by
   cases h
   cases r
   exact .nil
 | t::ts,vs,ds,r,h=>by
   have h:(dat t).bind (fun d=>(dats ts).map (d::·))=some ds:=by simpa [dats] using h
   cases e:dat t with
   | none=>rw [e] at h;cases h
   | some d=>
     rw [e] at h
     cases e2:dats ts with
     | none=>rw [e2] at h;cases h
     | some es=>
       rw [e2] at h
       cases h
       cases r with
       | cons r1 r2=>exact .cons (dp_of s t _ _ r1 e) (dps_of s ts _ _ r2 e2)
end
section
variable {K:PySem.W.Frag}
def eqD3:T→T→(T→Prop)→Prop:=fun x y Q=>ob (dat x) fun d=>ob (dat y) fun e=>SeqAt.shaped d=true∧SeqAt.shaped e=true∧Q (.bl (PyData.eqv d e))
def neD3:T→T→(T→Prop)→Prop:=fun x y Q=>ob (dat x) fun d=>ob (dat y) fun e=>SeqAt.shaped d=true∧SeqAt.shaped e=true∧Q (.bl (!PyData.eqv d e))
theorem rl_eqD:RL2 K (rEqD K) eqD3:=by
 intro c x y Q3 hh Hb G A σ3 σ H vx vy Q R rx ry k
 obtain ⟨d,ed,h1⟩:=ob_iff.mp hh
 obtain ⟨e,ee,s1,s2,q⟩:=ob_iff.mp h1
 exact ⟨d,e,dp_of hid_same _ _ _ rx ed,dp_of hid_same _ _ _ ry ee,s1,s2,k _ _ H (Le.refl R.inv) (.bl _) q⟩
theorem rl_neD:RL2 K (rNeD K) neD3:=by
 intro c x y Q3 hh Hb G A σ3 σ H vx vy Q R rx ry k
 obtain ⟨d,ed,h1⟩:=ob_iff.mp hh
 obtain ⟨e,ee,s1,s2,q⟩:=ob_iff.mp h1
 exact ⟨d,e,dp_of hid_same _ _ _ rx ed,dp_of hid_same _ _ _ ry ee,s1,s2,k _ _ H (Le.refl R.inv) (.bl _) q⟩
end
end M3
namespace M3
open PySem L2
structure Cs where
 at_:Str→Addr
 em:Value→Value→Option Bool
 w:World
def csOf (w:World) (K:PySem.W.Frag) (mg:Str→Option Value):Cs:=⟨fun x=>match mg x with | some (.ref a)=>a | _=>0,PySem.W.exmOne K,w⟩
theorem csOf_at {w:World} {K:PySem.W.Frag} {mg:Str→Option Value} {x:Str} {a:Addr} (h:mg x=some (.ref a)):(csOf w K mg).at_ x=a:=by
 show (match mg x with | some (.ref a)=>a | _=>0)=a
 rw [h]
theorem OpR.or {X:Cx} {f:Value→Value→Sem Value} {r r':R2} (a:OpR X f r) (b:OpR X f r'):OpR X f (fun x y H Q=>r x y H Q∨r' x y H Q):=fun pins s σ H x y v u Q I rx ry h=>by
 rcases h with h | h
 · exact a pins s σ H x y v u Q I rx ry h
 · exact b pins s σ H x y v u Q I rx ry h
theorem ixR_or {X:Cx} {r r':R2} (a:IxR X r) (b:IxR X r'):IxR X (fun x y H Q=>r x y H Q∨r' x y H Q):=by
 intro e1 e2 pins s σ H x y v u Q I rx ry h hs
 rcases h with h | h
 · exact a e1 e2 pins s σ H x y v u Q I rx ry h hs
 · exact b e1 e2 pins s σ H x y v u Q I rx ry h hs
theorem RL2.or2 {K:PySem.W.Frag} {r r':R2} {q q' m:T→T→(T→Prop)→Prop} (h:RL2 K r q) (h':RL2 K r' q') (hm:∀x y Q,m x y Q→q x y Q∨q' x y Q):RL2 K (fun x y H Q=>r x y H Q∨r' x y H Q) m:=by
 intro c x y Q3 hh Hb G A σ3 σ H vx vy Q R rx ry k
 rcases hm _ _ _ hh with hh | hh
 · exact .inl (h c x y Q3 hh Hb G A σ3 σ H vx vy Q R rx ry k)
 · exact .inr (h' c x y Q3 hh Hb G A σ3 σ H vx vy Q R rx ry k)
section
variable {X:Cx} {K:PySem.W.Frag}
abbrev rAdd (K:PySem.W.Frag):R2:=fun x y H Q=>rI0 (fun i j=>.int (i+j)) x y H Q∨(fun x y H Q=>(fun x y H Q=>∃i j,x= .str i∧y= .str j∧i.length+j.length≤sizeLine∧Q (.str (i++j)) H) x y H Q∨(fun x y H Q=>rCat x y H Q∨rCatF K x y H Q) x y H Q) x y H Q
theorem op_addP (h:X.K=K):OpR X (binaryOp .Add) (rAdd K):=OpR.or op_add (OpR.or op_add_str (OpR.or op_cat (op_catTK h)))
def addP:T→T→(T→Prop)→Prop
 | .int i,.int j,Q=>Q (.int (i+j))
 | .str a,.str b,Q=>a.length+b.length≤sizeLine∧Q (.str (a++b))
 | .lst a,.lst b,Q=>a.length+b.length≤sizeLine∧Q (.lst (a++b))
 | .tup a,.tup b,Q=>a.length+b.length≤sizeLine∧Q (.tup (a++b))
 | _,_,_=>False
theorem rl_addP:RL2 K (rAdd K) addP:=by
 refine RL2.or2 rl_add (RL2.or2 rl_catS (RL2.or2 rl_catL rl_catT (m:=fun x y Q=>match x,y with | .lst a,.lst b=>catL3 (.lst a) (.lst b) Q | .tup a,.tup b=>catT3 (.tup a) (.tup b) Q | _,_=>False) ?_)
  (m:=fun x y Q=>match x,y with | .str a,.str b=>catS3 (.str a) (.str b) Q | .lst a,.lst b=>catL3 (.lst a) (.lst b) Q | .tup a,.tup b=>catT3 (.tup a) (.tup b) Q | _,_=>False) ?_) ?_
 · intro x y Q h
   cases x<;>cases y<;>first | exact .inl h | exact .inr h | exact h.elim
 · intro x y Q h
   cases x<;>cases y<;>first | exact .inl h | exact .inr h | exact h.elim
 · intro x y Q h
   cases x<;>cases y<;>first | exact .inl h | exact .inr h | exact h.elim
abbrev rMul:R2:=fun x y H Q=>rI CMulW (fun i j=>.int (i * j)) x y H Q∨rRep x y H Q
theorem op_mulP:OpR X (binaryOp .Mult) rMul:=OpR.or op_mulW op_rep
def mulP:T→T→(T→Prop)→Prop
 | .int i,.int j,Q=>CMulW i j∧Q (.int (i * j))
 | .lst xs,.int k,Q=> -(2 ^ 63)≤k∧k<2 ^ 63∧xs.length * k.toNat≤sizeLine∧Q (.lst (List.replicate k.toNat xs).flatten)
 | _,_,_=>False
theorem rl_mulP:RL2 K rMul mulP:=by
 refine RL2.or2 rl_mulW rl_repL ?_
 intro x y Q h
 cases x<;>cases y<;>first | exact .inl h | exact .inr h | exact h.elim
abbrev rIx (K:PySem.W.Frag):R2:=fun x y H Q=>rIxL K x y H Q∨(fun x y H Q=>rIxT K x y H Q∨rIxS x y H Q) x y H Q
theorem ix_P (h:X.K=K):IxR X (rIx K):=ixR_or (ix_listK h) (ixR_or (ix_tupK h) (ix_strK h))
def ixP:T→T→(T→Prop)→Prop
 | .lst xs,.int i,Q=>ob (atI xs i) Q
 | .tup xs,.int i,Q=>ob (atI xs i) Q
 | .str z,.int i,Q=>z.length≤sizeLine∧ob (atI z.cps.toList i) fun c=>Q (.str ⟨#[c]⟩)
 | _,_,_=>False
theorem rl_ixP:RL2 K (rIx K) ixP:=by
 refine RL2.or2 rl_ixL (RL2.or2 rl_ixT rl_ixS (m:=fun x y Q=>match x,y with | .tup xs,.int i=>ob (atI xs i) Q | .str z,.int i=>z.length≤sizeLine∧ob (atI z.cps.toList i) fun c=>Q (.str ⟨#[c]⟩) | _,_=>False) ?_) ?_
 · intro x y Q h
   cases x<;>cases y<;>first | exact .inl h | exact .inr h | exact h.elim
 · intro x y Q h
   cases x<;>cases y<;>first | exact .inl h | exact .inr h | exact h.elim
theorem RLs.or2 {r r':V→Option Int→Option Int→Hp→VK→Prop} {q q' m:T→Option Int→Option Int→(T→Prop)→Prop} (h:RLs K r q) (h':RLs K r' q') (hm:∀x l u Q,m x l u Q→q x l u Q∨q' x l u Q):RLs K (fun x l u H Q=>r x l u H Q∨r' x l u H Q) m:=by
 intro c x lo hi Q3 hh Hb G A σ3 σ H vx Q R rx k
 rcases hm _ _ _ _ hh with hh | hh
 · exact .inl (h c x lo hi Q3 hh Hb G A σ3 σ H vx Q R rx k)
 · exact .inr (h' c x lo hi Q3 hh Hb G A σ3 σ H vx Q R rx k)
abbrev rSl (K:PySem.W.Frag):V→Option Int→Option Int→Hp→VK→Prop:=fun x l u H Q=>rSlL K x l u H Q∨(fun x l u H Q=>rSlF K x l u H Q∨rSlS x l u H Q) x l u H Q
theorem sl_P (h:X.K=K):SlR X (rSl K):=L2.SlR.or (sl_listK h) (L2.SlR.or (sl_tupK h) (sl_strK h))
def slP:T→Option Int→Option Int→(T→Prop)→Prop
 | .lst xs,l,u,Q=>Q (.lst (cut xs l u))
 | .tup xs,l,u,Q=>Q (.tup (cut xs l u))
 | .str z,l,u,Q=>z.length≤sizeLine∧Q (.str (cutS z l u))
 | _,_,_,_=>False
theorem rl_slP:RLs K (rSl K) slP:=by
 refine RLs.or2 rl_slL (RLs.or2 rl_slT rl_slS (m:=fun x l u Q=>match x with | .tup xs=>Q (.tup (cut xs l u)) | .str z=>z.length≤sizeLine∧Q (.str (cutS z l u)) | _=>False) ?_) ?_
 · intro x l u Q h
   cases x<;>first | exact .inl h | exact .inr h | exact h.elim
 · intro x l u Q h
   cases x<;>first | exact .inl h | exact .inr h | exact h.elim
abbrev rEq' (K:PySem.W.Frag):R2:=fun x y H Q=>rEq x y H Q∨rEqD K x y H Q
abbrev rNe' (K:PySem.W.Frag):R2:=fun x y H Q=>rNe x y H Q∨rNeD K x y H Q
theorem op_eqP (h:X.K=K) (hu:X.A.units+64<cLine):OpR X (compareOp .Eq) (rEq' K):=OpR.or op_eq (op_eqDK h hu)
theorem op_neP (h:X.K=K) (hu:X.A.units+64<cLine):OpR X (compareOp .NotEq) (rNe' K):=OpR.or op_ne (op_neDK h hu)
def isSeq:T→Bool
 | .lst _=>true
 | .tup _=>true
 | _=>false
def eqP (x y:T) (Q:T→Prop):Prop:=if (isSeq x||isSeq y)=true then eqD3 x y Q else eqS3 x y Q
def neP (x y:T) (Q:T→Prop):Prop:=if (isSeq x||isSeq y)=true then neD3 x y Q else neS3 x y Q
theorem rl_eqP:RL2 K (rEq' K) eqP:=by
 refine RL2.or2 rl_eqS rl_eqD fun x y Q h=> ?_
 unfold eqP at h
 split at h
 · exact .inr h
 · exact .inl h
theorem rl_neP:RL2 K (rNe' K) neP:=by
 refine RL2.or2 rl_neS rl_neD fun x y Q h=> ?_
 unfold neP at h
 split at h
 · exact .inr h
 · exact .inl h
end
section
variable {K:PySem.W.Frag} {c:Cf} {W:WX} {X:Cx}
def rIt (K:PySem.W.Frag) (x:V) (H:Hp) (R:It→Hp→Prop):Prop:=
 (∃a xs,x= .ref a∧SqL K H a xs∧R (Itl K a) H)∨(∃a xs,x= .ref a∧SqT K H a xs∧R (Itt K a) H)∨∃z,x= .str z∧R (Its z) H
def iP (K:PySem.W.Frag) (t:TE):TI:=fun σ H R=>t σ H fun x H'=>rIt K x H' R
theorem pi_P {tg e:Expr} {t:TE} (h:X.K=K) (he:PE X e t):PI X tg e (iP K t):=by
 subst h
 constructor
 intro pins s σ H R I hw
 refine thn (he.run pins s σ H _ I hw) ?_
 rintro v s1 ⟨x,H1,I1,r1,q1⟩
 have fp:∀b∈[s1.heap.objs.size],FpOk X pins H1 b:=by
  intro b hb
  cases List.mem_singleton.mp hb
  exact I1.fpOk (Nat.le_refl _) (I1.hok.fresh (Nat.le_refl _))
 rcases q1 with ⟨a,xs,rfl,hq,q⟩ | ⟨a,xs,rfl,hq,q⟩ | ⟨z,rfl,q⟩
 · cases r1
   obtain ⟨its,_,pl,_⟩:=I1.list hq
   exact wpAny_pyIter_list pl.isList ⟨_,[_],_,_,H1,rfl,I1.kept (t':=s1.toks) (fun _ _ e=>Heap.get?_push_of_some _ e),turn_list a _,⟨_,Heap.get?_push_size _ rfl,rfl,rfl⟩,fp,q⟩
 · cases r1
   obtain ⟨its,_,pl,_⟩:=I1.tuple hq
   exact wpAny_pyIter_tuple (show s1.heap.IsTuple a its.toArray from pl) ⟨_,[_],_,_,H1,rfl,I1.kept (t':=s1.toks) (fun _ _ e=>Heap.get?_push_of_some _ e),turn_tuple a _,⟨_,Heap.get?_push_size _ rfl,rfl,rfl⟩,fp,q⟩
 · obtain ⟨t,rfl⟩:=r1
   cases ha:z.cps.all (· <128)
   · exact wpAny_pyIter_wide ha (pi_one (tk:=s1.toks) I1 _ (turn_str _ z t "str_iterator" (.inr rfl)) ⟨_,Heap.get?_push_size _ rfl,rfl,rfl⟩ q)
   · exact wpAny_pyIter_ascii ha (pi_one (tk:=s1.toks) I1 _ (turn_str _ z t "str_ascii_iterator" (.inl rfl)) ⟨_,Heap.get?_push_size _ rfl,rfl,rfl⟩ q)
def chT (c:Nat):T:=.str ⟨#[c]⟩
def itemsP:T→Option (List T)
 | .lst xs=>some xs
 | .tup xs=>some xs
 | .str z=>some (z.cps.toList.map chT)
 | _=>none
def iterP (a:E3):A3:=fun σ Q X=>a σ (fun d=>ob (itemsP d) Q) X
theorem walks_str {V0:Hp} (z:Str):Walks K V0 (Its z) (z.cps.toList.map chT) where
 go:=fun i d S H hd e=>by
  have:=(List.getElem?_eq_some_iff.mp hd).1
  show i<z.cps.size
  simpa using this
 yld:=fun i d S H x H' hd e _ y=>by
  obtain ⟨rfl,c,hc,rfl⟩:=y
  rw [List.getElem?_map] at hd
  have hc':z.cps.toList[i]? =some c:=by simpa using hc
  rw [hc'] at hd
  cases hd
  exact ⟨.inl rfl,.inl (.str _)⟩
 stop:=fun S H e=>by
  show z.cps.size≤_
  simp
theorem lift_iP {ta:TE} {a:E3} (ha:Lift K c W ta a):LiftI K c W (iP K ta) (iterP a):=by
 intro σ3 Q3 X h Hb G A σ H R' R k e
 refine ha _ _ _ h Hb G A σ H _ R (fun v d H1 L1 r q=> ?_) e
 obtain ⟨xs,ex,q1⟩:=ob_iff.mp q
 cases d with
 | lst ys=>
   cases ex
   obtain ⟨p,vs,rfl,hp,rl⟩:=r.lstI
   exact .inl ⟨p,vs,rfl,SqL.of (hid_same _ _ hp),k _ _ H1 L1 (walks_list hp rl) q1⟩
 | tup ys=>
   cases ex
   obtain ⟨p,vs,rfl,hp,rl⟩:=r.tupI
   exact .inr (.inl ⟨p,vs,rfl,Same.sqT hid_same hp,k _ _ H1 L1 (walks_tup hp rl) q1⟩)
 | str z=>
   cases ex
   cases r.strI
   exact .inr (.inr ⟨z,rfl,k _ _ H1 L1 (walks_str z) q1⟩)
 | _=>cases ex
end
def sel {α:Type} (is:List Nat) (xs:List α):List α:=is.filterMap fun i=>xs[i]?
theorem vals_get:∀ {vs:List V} {us:List Value} {i:Nat},Vals vs us→(∃v u,vs[i]? =some v∧us[i]? =some u∧RelV v u)∨(vs[i]? =none∧us[i]? =none)
 | _,_,_,.nil=>.inr ⟨rfl,rfl⟩
 | _,_,0,.cons r _=>.inl ⟨_,_,rfl,rfl,r⟩
 | _,_,i+1,.cons _ q=>by simpa using vals_get (i:=i) q
theorem vals_sel:∀(is:List Nat) {vs:List V} {us:List Value},Vals vs us→Vals (sel is vs) (sel is us)
 | [],_,_,_=>.nil
 | i::is,vs,us,r=>by
   unfold sel
   rw [List.filterMap_cons,List.filterMap_cons]
   rcases vals_get (i:=i) r with ⟨v,u,e1,e2,q⟩ | ⟨e1,e2⟩
   · rw [e1,e2]
     exact .cons q (vals_sel is r)
   · rw [e1,e2]
     exact vals_sel is r
theorem repL_sel {K:PySem.W.Frag} {H:Hp}:∀(is:List Nat) {vs:List V} {ts:List T},RepL K H vs ts→RepL K H (sel is vs) (sel is ts)
 | [],_,_,_=>.nil
 | i::is,vs,ts,r=>by
   unfold sel
   rw [List.filterMap_cons,List.filterMap_cons]
   cases e:ts[i]? with
   | some t=>
     obtain ⟨v,e1,q⟩:=r.get e
     rw [e1]
     exact .cons q (repL_sel is r)
   | none=>
     have:vs[i]? =none:=by
      rw [List.getElem?_eq_none_iff] at e ⊢
      rw [r.length];exact e
     rw [this]
     exact repL_sel is r
end M3
namespace M3
open PySem L2
structure DefAt (K:PySem.W.Frag) (mg:Str→Option Value) (x qual:Str) (st:Stmt) (dts:List T) (kns:List Str) (kts:List T):Prop where
 ex:∃f fd dvs kvs,(∀H,RepL K H dvs dts)∧(∀H,RepL K H kvs kts)∧FunD K x qual (defArgs st) (defBody st) (defScope st) dvs (kns.zip kvs) f fd∧mg x=some (.ref f)
structure OkF (P:Program) (w:World) (K:PySem.W.Frag) (mg:Str→Option Value) (base:Heap) (CX:CXT) (x qual:Str) (st:Stmt) (dts:List T) (kns:List Str) (kts:List T) (lv:Nat) (ps:List Str) (sp:Sp):Prop where
 ex:∃f fd dvs kvs,(∀H,RepL K H dvs dts)∧(∀H,RepL K H kvs kts)∧FunD K x qual (defArgs st) (defBody st) (defScope st) dvs (kns.zip kvs) f fd∧mg x=some (.ref f)∧FnOk P w K mg base CX lv f fd ps sp
structure ClT (P:Program) (w:World) (K:PySem.W.Frag) (mg:Str→Option Value) (base:Heap) (CX:CXT) (x:Str) (k:Nat) (dts:List T) (sp:Sp):Prop where
 ex:∃dvs,(∀H,RepL K H dvs dts)∧Cl P w K mg base CX x k dvs sp
section
variable {P:Program} {w:World} {K:PySem.W.Frag} {mg:Str→Option Value} {base:Heap} {CX:CXT} {x qual:Str} {st:Stmt} {dts kts:List T} {kns:List Str} {lv:Nat} {ps:List Str} {sp:Sp}
theorem RepL.len0 {H:Hp} {vs:List V} (r:RepL K H vs []):vs=[]:=by cases r;rfl
theorem RepL.ne {vs:List V} {ts:List T} (r:∀H,RepL K H vs ts) (h:ts≠[]):vs≠[]:=fun e=>by
 subst e
 have:=(r (fun _=>none)).length
 cases ts with
 | nil=>exact h rfl
 | cons=>simp at this
theorem zip_ne {kns:List Str} {kvs:List V} {kts:List T} (r:∀H,RepL K H kvs kts) (h:kts≠[]) (hl:kns.length=kts.length):kns.zip kvs≠[]:=by
 have l:=(r (fun _=>none)).length
 cases kns with
 | nil=>cases kts with
   | nil=>exact fun _=>h rfl
   | cons=>simp at hl
 | cons a kns=>cases kvs with
   | nil=>cases kts with
     | nil=>exact fun _=>h rfl
     | cons=>simp at l
   | cons=>simp
theorem zip_fst {kns:List Str} {kvs:List V} (hl:kns.length=kvs.length):(kns.zip kvs).map (·.1)=kns:=by
 rw [List.map_fst_zip (by omega)]
theorem zip_snd {kns:List Str} {kvs:List V} (hl:kns.length=kvs.length):(kns.zip kvs).map (·.2)=kvs:=by
 rw [List.map_snd_zip (by omega)]
theorem OkF.fun_ (O:OkF P w K mg base CX x qual st [] [] [] lv ps sp):∃f fd,Fun K x qual st f fd∧mg x=some (.ref f)∧FnOk P w K mg base CX lv f fd ps sp:=by
 obtain ⟨f,fd,dvs,kvs,rd,rk,F,hm,O⟩:=O.ex
 have e:=(rd (fun _=>none)).len0
 subst e
 obtain ⟨oc,od,dV,kV,doc,pm,an,cdv,ct,osl,e,lk,hcd,hD,hK⟩:=F.ex
 rcases hD with ⟨_,e2⟩ | ⟨z,_⟩
 · subst e2
   exact ⟨f,fd,⟨⟨oc,od,kV,doc,pm,an,cdv,ct,osl,e,lk,hcd⟩,F.kp⟩,hm,O⟩
 · exact absurd rfl z
theorem OkF.cl (O:OkF P w K mg base CX x qual st [] kns kts lv ps sp) (h:∀(kV doc pm:Value) (an:Option Addr) (cdv ct:Value) (us:List Value),us.length=ps.length→bindArgs (PySem.W.fnOf x qual (defArgs st) (defBody st) (defScope st) .none kV doc pm an cdv ct) ⟨us,[]⟩=pure (ps.zip us)):
 ClT P w K mg base CX x lv [] sp:=by
 obtain ⟨f,fd,dvs,kvs,rd,rk,F,hm,O⟩:=O.ex
 have e:=(rd (fun _=>none)).len0
 subst e
 exact ⟨[],fun _=>.nil,f,fd,ps,[],O,hm,F.kp,F.bindsN h,.nil⟩
theorem OkF.cl0 (O:OkF P w K mg base CX x qual st [] kns kts lv ps sp) (n:Nat) (hk:kts≠[]) (hl:kns.length=kts.length) (hn:n+kns.length=ps.length)
 (h:∀(D:Addr) (doc pm:Value) (an:Option Addr) (cdv ct:Value) (us ks:List Value),us.length=n→ks.length=kns.length→
   KwChain D (kns.zip ks) (bindArgs (PySem.W.fnOf x qual (defArgs st) (defBody st) (defScope st) .none (.ref D) doc pm an cdv ct) ⟨us,[]⟩) (ps.zip (us++ks))):ClT P w K mg base CX x lv kts sp:=by
 obtain ⟨f,fd,dvs,kvs,rd,rk,F,hm,O⟩:=O.ex
 have e:=(rd (fun _=>none)).len0
 subst e
 have l:kns.length=kvs.length:=hl.trans (rk (fun _=>none)).length.symm
 have lz:(kns.zip kvs).length=kns.length:=by rw [List.length_zip];omega
 obtain ⟨ds,v,b⟩:=F.binds0 (ps:=ps) n (zip_ne rk hk hl) (by rw [lz];exact hn) (by
  intro D doc pm an cdv ct us ks h1 h2
  rw [zip_fst l]
  exact h D doc pm an cdv ct us ks h1 (by rw [h2,lz]))
 rw [zip_snd l] at v
 exact ⟨kvs,rk,f,fd,ps,ds,O,hm,F.kp,b,v⟩
theorem fnOk_no {k:Nat} {f:Addr} {fd:FuncData} (h:∀vs H Q E,¬sp vs H Q E):FnOk P w K mg base CX k f fd ps sp:=
 ⟨fun vs H Q E z=>(h vs H Q E z).elim,fun A outer s H args us vs Q E _ _ _ _ z=>(h vs H Q E z).elim⟩
def f0:F3:=fun _ _ _=>False
theorem DefAt.no (D:DefAt K mg x qual st dts kns kts) (n:Nat):OkF P w K mg base CX x qual st dts kns kts lv ps (sp3 K n f0):=by
 obtain ⟨f,fd,dvs,kvs,rd,rk,F,hm⟩:=D.ex
 exact ⟨f,fd,dvs,kvs,rd,rk,F,hm,fnOk_no fun vs H Q E z=>by
  obtain ⟨_,_,_,_,_,_,_,z,_⟩:=z
  exact z⟩
theorem DefAt.noP (D:DefAt K mg x qual st dts kns kts) (n:Nat):OkF P w K mg base CX x qual st dts kns kts lv ps (spP K n f0):=by
 obtain ⟨f,fd,dvs,kvs,rd,rk,F,hm⟩:=D.ex
 exact ⟨f,fd,dvs,kvs,rd,rk,F,hm,fnOk_no fun vs H Q E z=>by
  obtain ⟨_,_,_,_,_,_,_,_,_,_,z,_⟩:=z
  exact z⟩
end
def spLawT (K:PySem.W.Frag) (PL:Addr):Sp:=fun vs H Q _=>∃(a:Addr) (ns:List Int),vs=[.ref a]∧SqL K H a (ns.map V.int)∧H PL=some (.tbl #[])∧∀H',Q (.bl true) H'
def no3:G3 (Option Int):=fun _ Q _=>Q none
theorem for_by {s:A3} {g:TG3} {tb:S3} {N:N3} {σ:List Sl} (P:List T→Prop) (hs:∀Q X,(∀ds,P ds→Q ds)→s σ Q X) (k:∀ds,P ds→loop3 g tb N ds σ):for3 s g tb N σ:=hs _ _ k
end M3
namespace M3
open PySem L2
def TreeAt (K:PySem.W.Frag) (t:T) (u:Value):Prop:=∃v,RelV v u∧∀H,Rep K H v t
theorem treeAt_int {K:PySem.W.Frag} {i:Int} {t:Tok}:TreeAt K (.int i) (.int i t):=⟨.int i,⟨t,rfl⟩,fun _=>.int i⟩
theorem treeAt_str {K:PySem.W.Frag} {i:Str} {t:Tok}:TreeAt K (.str i) (.str i t):=⟨.str i,⟨t,rfl⟩,fun _=>.str i⟩
inductive TreesAt (K:PySem.W.Frag):List T→List Value→Prop where
 | nil:TreesAt K [] []
 | cons {t:T} {u:Value} {ts:List T} {us:List Value}:TreeAt K t u→TreesAt K ts us→TreesAt K (t::ts) (u::us)
theorem TreesAt.vals {K:PySem.W.Frag}:∀ {ts:List T} {us:List Value},TreesAt K ts us→∃vs,Vals vs us∧∀H,RepL K H vs ts
 | _,_,.nil=>⟨[],.nil,fun _=>.nil⟩
 | _,_,.cons ⟨v,h1,h2⟩ q=>by
   obtain ⟨vs,q1,q2⟩:=TreesAt.vals q
   exact ⟨v::vs,.cons h1 q1,fun H=>.cons (h2 H) (q2 H)⟩
theorem exm_mk {K:PySem.W.Frag} {cls:Value} {C:Addr} {b:Bool} (hb:PySem.W.subIn K (.ref C) (.type "BaseException")=some true) (hi:PySem.W.isClsIn K C=true) (ht:PySem.W.typeIn K (.ref C)=some (.type "type")) (hs:PySem.W.subIn K cls (.ref C)=some b):PySem.W.exmOne K cls (.ref C)=some b:=by
 have h1:(PySem.W.subIn K (.ref C) (.type "BaseException")==some true)=true:=by rw [hb];rfl
 have h2:((PySem.W.clsIn K C).isSome&&PySem.W.typeIn K (.ref C)==some (.type "type"))=true:=by
  have hi':(PySem.W.clsIn K C).isSome=true:=hi
  rw [hi',ht]
  rfl
 show (if (PySem.W.subIn K (.ref C) (.type "BaseException")==some true)=true then PySem.W.kitCls K cls (.ref C) else none)=some b
 rw [if_pos h1]
 show (if ((PySem.W.clsIn K C).isSome&&PySem.W.typeIn K (.ref C)==some (.type "type"))=true then PySem.W.subIn K cls (.ref C) else none)=some b
 rw [if_pos h2,hs]
theorem no_of_type {K:PySem.W.Frag} {a:Addr} (h:PySem.W.typeIn K (.ref a)=none):K.lookup a=none:=by
 have h:(K.lookup a).map (·.cls)=none:=h
 cases e:K.lookup a with
 | none=>rfl
 | some o=>rw [e] at h;cases h
theorem defAt_mk {K:PySem.W.Frag} {mg:Str→Option Value} {x qual:Str} {st:Stmt} {dts kts:List T} {kns:List Str} {f:Addr} {oc dV kV doc pm cdv ct:Value} {od an:Option Addr} {osl:Array (Option Value)} (hm:mg x=some (.ref f))
 (l:K.lookup f=some ⟨oc,od,.func (PySem.W.fnOf x qual (defArgs st) (defBody st) (defScope st) dV kV doc pm an cdv ct),osl⟩) (c:PySem.W.codeIn K cdv qual=true) (k:PySem.W.keepIn K (.ref f)=true)
 (hd:(dts=[]∧dV= .none)∨(dts≠[]∧∃(Ta:Addr) (o:Obj) (its:List Value) (n:Nat),dV= .ref Ta∧K.lookup Ta=some o∧o.data= .seq its.toArray n∧TreesAt K dts its))
 (hk:(kns=[]∧kts=[])∨∃(D:Addr) (us:List Value),kV= .ref D∧TreesAt K kts us∧kns.length=us.length∧∀q∈kns.zip us,PySem.W.nsIn K D q.1=some (some q.2)):DefAt K mg x qual st dts kns kts:=by
 obtain ⟨dvs,h1,h2⟩:∃dvs,(∀H,RepL K H dvs dts)∧DflV K dV dvs:=by
  rcases hd with ⟨rfl,rfl⟩ | ⟨hn,Ta,o,its,n,rfl,a1,a2,a3⟩
  · exact ⟨[],fun _=>.nil,.inl ⟨rfl,rfl⟩⟩
  · obtain ⟨vs,q1,q2⟩:=a3.vals
    exact ⟨vs,q2,.inr ⟨RepL.ne q2 hn,Ta,o,its,n,rfl,a1,a2,q1⟩⟩
 obtain ⟨kvs,h3,h4⟩:∃kvs,(∀H,RepL K H kvs kts)∧KwdV K kV (kns.zip kvs):=by
  rcases hk with ⟨rfl,rfl⟩ | ⟨D,us,rfl,a1,a2,a3⟩
  · exact ⟨[],fun _=>.nil,.inl rfl⟩
  · obtain ⟨vs,q1,q2⟩:=a1.vals
    refine ⟨vs,q2,.inr ⟨D,rfl,fun q hq=> ?_⟩⟩
    obtain ⟨i,hi⟩:=List.getElem?_of_mem hq
    obtain ⟨i1,i2⟩:=List.getElem?_zip_eq_some.mp hi
    rcases vals_get (i:=i) q1 with ⟨v,u,e1,e2,r⟩ | ⟨e1,_⟩
    · rw [i2] at e1
      cases e1
      refine ⟨u,a3 (q.1,u) (List.mem_of_getElem? (List.getElem?_zip_eq_some.mpr ⟨i1,e2⟩)),r⟩
    · rw [i2] at e1;cases e1
 exact ⟨f,_,dvs,kvs,h1,h3,⟨⟨oc,od,dV,kV,doc,pm,an,cdv,ct,osl,rfl,l,c,h2,h4⟩,k⟩,hm⟩
end M3
namespace M3
open PySem PySem.Spec PyProof.Rows L2
section
variable {prog:Program} {w:World} {A:Around} {E:Value→Shared→Prop} {s:Shared}
theorem star_end {I ax:Addr} {items:Array Value} {T:String} {St:Nat→Heap→Prop} {n i:Nat} {h1:Heap} {Q:List Value→Shared→Prop}
 (hT:T="str_ascii_iterator"∨T="str_iterator"∨T="list_iterator"∨T="tuple_iterator") (wk:PySem.Walks prog w A.in1 I [I,ax] [I] items.size (fun i v=>items[i]? =some v) St)
 (ty:∀i (u:Shared),St i u.heap→u.TypeIs (.ref I) T) (hst:St i h1) (hI:I<h1.objs.size) (hax:ax<h1.objs.size) (hIs:s.heap.get? I=none) (keep:∀b o,b≠I→s.heap.get? b=some o→h1.get? b=some o)
 (hi:i<n) (hn:n≤items.size+1) (hz:items.size≤sizeLine)
 (hq:∀D h2 tk,(∀b o,s.heap.get? b=some o→h2.get? b=some o)→s.heap.get? D=none→h2.get? D=some {cls:=.type "list",data:=.seq ((items.toList.drop i).take (items.size+1-n)).toArray}→
   Q (items.toList.take i++[.ref D]++(items.toList.drop i).drop (items.size+1-n)) {s with heap:=h2,toks:=tk}):
 wpAny (model prog w) A (do
  let rest ←holding (items.toList.take i) (collect (.ref I))
  if rest.length<n-1-i then
   rule "unpack.star.too-few"
   raiseError "ValueError" s!"not enough values to unpack (expected at least {n - 1}, got {i + rest.length})"
  return items.toList.take i++[←newList (rest.take (rest.length-(n-1-i)))]++rest.drop (rest.length-(n-1-i))) Q E {s with heap:=h1}:=by
 refine wpAny_bind (wpAny_holding (PySem.W.kun_collect (s:={s with heap:=h1}) (T:=T) hT wk ty (k:=i) (by omega) hst hI hax (fun h2 tk hk=> ?_) hz))
 have l1:(items.toList.drop i).length=items.size-i:=by simp
 have l2:(items.toList.drop i).length-(n-1-i)=items.size+1-n:=by omega
 rw [if_neg (by omega)]
 show wpAny _ _ (newList _ >>= _) _ _ _
 rw [l2]
 have k2:∀b o,s.heap.get? b=some o→h2.get? b=some o:=fun b o e=>by
  have nb:b≠I:=fun z=>by rw [z,hIs] at e;cases e
  exact hk b o nb (keep b o nb e)
 refine wpAny_bind (wpAny_newList ?_ ?_)
 · exact wpAny_pure (hq _ _ tk (fun b o e=>Heap.get?_push_of_some _ (k2 b o e)) (by
    cases e:s.heap.get? h2.objs.size with
    | none=>rfl
    | some o=>exact absurd (Heap.lt_size (k2 _ _ e)) (Nat.lt_irrefl _)) (Heap.get?_push_size _ rfl))
 · rw [List.length_take,l1]
   omega
theorem star_tuple {l:Addr} {items:Array Value} {n i:Nat} {Q:List Value→Shared→Prop} (ht:PyProof.Rows.IsTup s.heap l items) (hh:A.handled=none) (hi:i<n) (hn:n≤items.size+1) (hz:items.size≤sizeLine)
 (hq:∀D h2 tk,(∀b o,s.heap.get? b=some o→h2.get? b=some o)→s.heap.get? D=none→h2.get? D=some {cls:=.type "list",data:=.seq ((items.toList.drop i).take (items.size+1-n)).toArray}→
   Q (items.toList.take i++[.ref D]++(items.toList.drop i).drop (items.size+1-n)) {s with heap:=h2,toks:=tk}):wpAny (model prog w) A (unpackItems (.ref l) n (some i)) Q E s:=by
 have ne:l≠s.heap.objs.size:=by
  obtain ⟨o,e,_⟩:=ht
  exact Nat.ne_of_lt (Heap.lt_size e)
 unfold unpackItems notIterableAtAll
 refine wpAny_bind (wpAny_bind (wpAny_specialOf ht.typeIs PyProof.Rows.slot_tuple_iter.lookup (wpAny_pure ?_)))
 simp only [Bool.false_eq_true,if_false]
 refine wpAny_bind (wpAny_holding (PyProof.Rows.iter_tuple ht ?_))
 refine wpAny_bind (wpAny_holding (PyProof.Rows.draw_tuple ne i 0 _ _ ⟨_,Heap.get?_push_size _ rfl,rfl,rfl⟩ (ht.push _) (by omega) fun h1 it1 sb=> ?_))
 have ht1:=(ht.push {cls:=.type "tuple_iterator",data:=.fields #[.ref l,.int 0 0]}).extBut sb.extBut ne
 rw [Nat.zero_add] at it1
 rw [List.drop_zero,if_neg (by rw [List.length_take,Array.length_toList];omega)]
 refine star_end (s:=s) (I:=s.heap.objs.size) (ax:=l) (T:="tuple_iterator") (.inr (.inr (.inr rfl))) (PySem.Walks.tuple (A:=A.in1) hh s.heap.objs.size l ne items) (fun _ _ st=>st.1.typeIs) ⟨it1,ht1⟩ ?_ ?_ ?_ ?_ hi hn hz hq
 · obtain ⟨o,e,_⟩:=it1
   exact Heap.lt_size e
 · obtain ⟨o,e,_⟩:=ht1
   exact Heap.lt_size e
 · cases e:s.heap.get? s.heap.objs.size with
   | none=>rfl
   | some o=>exact absurd (Heap.lt_size e) (Nat.lt_irrefl _)
 · exact fun b o nb e=>sb.extBut b o nb (Heap.get?_push_of_some _ e)
end
def gStar (K:PySem.W.Frag) (n i:Nat) (t:TGs):TG:=fun v σ H Q=>∃a xs,v= .ref a∧SqT K H a xs∧i<n∧n≤xs.length+1∧
 ∀p,H p=none→t (xs.take i++[.ref p]++(xs.drop i).drop (xs.length+1-n)) σ (upd H p (.lst ((xs.drop i).take (xs.length+1-n)))) Q
section
variable {X:Cx} {K:PySem.W.Frag} {pos:Pos}
theorem vals_take:∀ {vs:List V} {us:List Value} (n:Nat),Vals vs us→Vals (vs.take n) (us.take n)
 | _,_,0,_=>.nil
 | _,_,_+1,.nil=>.nil
 | _,_,n+1,.cons r q=>.cons r (vals_take n q)
theorem pgs_star {e:Expr} {es:List Expr} {t:TG} {u:TGs} {sp:Pos} (h1:PG X e t) (h2:PGs X es u):PGs X (.Starred e sp::es) (gCons t u):=by
 constructor
 rintro pins s σ H vs us Q I r ⟨v,vr,rfl,hw⟩
 cases r with
 | cons r rr=>
   show wpAny _ _ (assignInOrder (assign e X.env::(assignEach es X.env).map (·.2)) _) _ _ _
   refine assignInOrder_cons (thn (h1.run pins s σ H _ _ _ I r hw) ?_)
   rintro _ s1 ⟨σ1,H1,I1,q1⟩
   exact h2.run pins s1 σ1 H1 _ _ Q I1 rr q1
theorem pg_star {es:List Expr} {k n i:Nat} {t:TGs} (hK:X.K=K) (hc:X.calm=true) (hp:PGs X es t) (hn:(assignEach es X.env).length=n:=by rfl) (hst:(assignEach es X.env).findIdx? (·.1)=some i:=by rfl):PG X (.Tuple es k pos) (gStar K n i t):=by
 subst hK
 constructor
 rintro pins s σ H v u Q I r ⟨a,xs,rfl,hq,hi,hl,hw⟩
 cases r
 obtain ⟨its,rv,ht,hz⟩:=I.tuple hq
 have le:xs.length=its.length:=rv.length
 rw [assign_Tuple]
 refine wpAny_bind (wpAny_standAt ?_)
 unfold unpack
 rw [hn,hst]
 refine wpAny_bind (wpAny_holding (star_tuple (items:=its.toArray) ht (I.ok.hd hc) hi (by rw [List.size_toArray];omega) (by rw [List.size_toArray];omega) fun D h2 tk kp nD eD=> ?_))
 rw [List.size_toArray, ←le] at eD ⊢
 have nH:H D=none:=I.hok.gone nD
 refine hp.run pins _ σ _ _ _ Q (I.laidN (t':=tk) (o:=.lst ((xs.drop i).take (xs.length+1-n))) kp nD nH ⟨?_,_,0,vals_take _ (rv.drop i),by simpa using eD⟩) ?_ (hw D nH)
 · rw [List.length_take,List.length_drop];omega
 · exact ((vals_take i rv).append (.cons (show RelV (V.ref D) (Value.ref D) from rfl) .nil)).append ((rv.drop i).drop _)
end
section
variable {K:PySem.W.Frag} {c:Cf} {ws:List Nat}
def gstar3 (n i:Nat) (r:List T→List Sl→(List Sl→Prop)→Prop):TG3:=fun d σ Q=>ob (asT d) fun ds=>i<n∧n≤ds.length+1∧r (ds.take i++[.lst ((ds.drop i).take (ds.length+1-n))]++(ds.drop i).drop (ds.length+1-n)) σ Q
theorem lift_asgStar {W:WX} {ta:TE} {a:E3} {n i:Nat} {u:TGs} {u3:List T→List Sl→(List Sl→Prop)→Prop} (ha:Lift K c W ta a) (h:LiftTgs K c ws u u3):LiftS K c W (tAsg ta (gStar K n i u)) (asg3 a (gstar3 n i u3)):=by
 intro N σ3 hh Hb G A σ H D R Z
 refine ha _ _ _ hh Hb G A σ H _ R (fun v d H' L r q=> ?_) (fun cls dd x H' L r q=>Z.xn _ _ _ _ _ _ _ (R.le L) r q)
 obtain ⟨ds,ed,hi,hl,hh1⟩:=ob_iff.mp q
 cases asT_is ed
 obtain ⟨ad,vs,rfl,hs,rl⟩:=r.tupI
 refine ⟨ad,vs,rfl,Same.sqT hid_same hs,hi,by rw [rl.length];exact hl,fun p hp=> ?_⟩
 have R1:=R.le L
 have L2:=R1.new (o:=.lst ((vs.drop i).take (vs.length+1-n))) hp
 have rl':=rl.mono L2.vis
 refine h _ _ _ hh1 Hb G A σ _ _ _ (R1.le L2) ?_ (fun A' σ3' σ' H2 R2 _ _ q2=>Z.nx _ _ _ _ R2 q2)
 have e:=rl.length
 rw [←e]
 exact ((rl'.take i).append (.cons (.mkL (R1.newAt hp) ((rl'.drop i).take _)) .nil)).append ((rl'.drop i).drop _)
end
section
variable {X:Cx} {K:PySem.W.Frag}
theorem depth_of {d:PyData} (h:SeqAt.shaped d=true):d.depth≤64:=by
 have h:(d.canLay0&&decide (d.depth≤64))=true:=h
 rw [Bool.and_eq_true] at h
 exact of_decide_eq_true h.2
def rLtD (K:PySem.W.Frag):R2:=fun x y H Q=>∃d e,Dp K H x d∧Dp K H y e∧PySem.W.alike d e=true∧d≠ .none∧SeqAt.shaped d=true∧Q (.bl (PySem.W.dataLt d e)) H
theorem op_ltD (h:X.K=K) (hu:X.A.units+64<cLine):OpR X (compareOp .Lt) (rLtD K):=by
 subst h
 rintro pins s σ H x y v u Q I rx ry ⟨d,e,hd,he,ha,hn,sd,q⟩
 obtain ⟨as,r1⟩:=Dp.reads I d x v hd rx
 obtain ⟨bs,r2⟩:=Dp.reads I e y u he ry
 exact PySem.W.lt_data r1 r2 ha hn (by have:=depth_of sd;omega) ⟨.bl _,H,I,rfl,q⟩
def ltD3:T→T→(T→Prop)→Prop:=fun x y Q=>ob (dat x) fun d=>ob (dat y) fun e=>PySem.W.alike d e=true∧d≠ .none∧SeqAt.shaped d=true∧Q (.bl (PySem.W.dataLt d e))
theorem rl_ltD:RL2 K (rLtD K) ltD3:=by
 intro c x y Q3 hh Hb G A σ3 σ H vx vy Q R rx ry k
 obtain ⟨d,ed,h1⟩:=ob_iff.mp hh
 obtain ⟨e,ee,s1,s2,s3,q⟩:=ob_iff.mp h1
 exact ⟨d,e,dp_of hid_same _ _ _ rx ed,dp_of hid_same _ _ _ ry ee,s1,s2,s3,k _ _ H (Le.refl R.inv) (.bl _) q⟩
abbrev rLtP (K:PySem.W.Frag):R2:=fun x y H Q=>rI0 (fun i j=>.bl (decide (i<j))) x y H Q∨rLtD K x y H Q
theorem op_ltP (h:X.K=K) (hu:X.A.units+64<cLine):OpR X (compareOp .Lt) (rLtP K):=OpR.or op_lt (op_ltD h hu)
def ltP (x y:T) (Q:T→Prop):Prop:=match x,y with
 | .int i,.int j=>Q (.bl (decide (i<j)))
 | x,y=>ltD3 x y Q
theorem rl_ltP:RL2 K (rLtP K) ltP:=by
 refine RL2.or2 rl_lt rl_ltD fun x y Q h=> ?_
 cases x<;>cases y<;>first | exact .inl h | exact .inr h
def rGtD (K:PySem.W.Frag):R2:=fun x y H Q=>∃d e,Dp K H x d∧Dp K H y e∧PySem.W.alike d e=true∧d≠ .none∧SeqAt.shaped d=true∧Q (.bl (PySem.W.dataLt e d)) H
theorem op_gtD (h:X.K=K) (hu:X.A.units+64<cLine):OpR X (compareOp .Gt) (rGtD K):=by
 subst h
 rintro pins s σ H x y v u Q I rx ry ⟨d,e,hd,he,ha,hn,sd,q⟩
 obtain ⟨as,r1⟩:=Dp.reads I d x v hd rx
 obtain ⟨bs,r2⟩:=Dp.reads I e y u he ry
 exact PySem.W.gt_data r1 r2 ha hn (by have:=depth_of sd;omega) ⟨.bl _,H,I,rfl,q⟩
def gtD3:T→T→(T→Prop)→Prop:=fun x y Q=>ob (dat x) fun d=>ob (dat y) fun e=>PySem.W.alike d e=true∧d≠ .none∧SeqAt.shaped d=true∧Q (.bl (PySem.W.dataLt e d))
theorem rl_gtD:RL2 K (rGtD K) gtD3:=by
 intro c x y Q3 hh Hb G A σ3 σ H vx vy Q R rx ry k
 obtain ⟨d,ed,h1⟩:=ob_iff.mp hh
 obtain ⟨e,ee,s1,s2,s3,q⟩:=ob_iff.mp h1
 exact ⟨d,e,dp_of hid_same _ _ _ rx ed,dp_of hid_same _ _ _ ry ee,s1,s2,s3,k _ _ H (Le.refl R.inv) (.bl _) q⟩
abbrev rGtP (K:PySem.W.Frag):R2:=fun x y H Q=>rI0 (fun i j=>.bl (decide (j<i))) x y H Q∨rGtD K x y H Q
theorem op_gtP (h:X.K=K) (hu:X.A.units+64<cLine):OpR X (compareOp .Gt) (rGtP K):=OpR.or op_gt (op_gtD h hu)
def gtP (x y:T) (Q:T→Prop):Prop:=match x,y with
 | .int i,.int j=>Q (.bl (decide (j<i)))
 | x,y=>gtD3 x y Q
theorem rl_gtP:RL2 K (rGtP K) gtP:=by
 refine RL2.or2 rl_gt rl_gtD fun x y Q h=> ?_
 cases x<;>cases y<;>first | exact .inl h | exact .inr h
def rLeD (K:PySem.W.Frag):R2:=fun x y H Q=>∃d e,Dp K H x d∧Dp K H y e∧PySem.W.alike d e=true∧d≠ .none∧SeqAt.shaped d=true∧Q (.bl (!PySem.W.dataLt e d)) H
theorem op_leD (h:X.K=K) (hu:X.A.units+64<cLine):OpR X (compareOp .LtE) (rLeD K):=by
 subst h
 rintro pins s σ H x y v u Q I rx ry ⟨d,e,hd,he,ha,hn,sd,q⟩
 obtain ⟨as,r1⟩:=Dp.reads I d x v hd rx
 obtain ⟨bs,r2⟩:=Dp.reads I e y u he ry
 exact PySem.W.le_data r1 r2 ha hn (by have:=depth_of sd;omega) ⟨.bl _,H,I,rfl,q⟩
def leD3:T→T→(T→Prop)→Prop:=fun x y Q=>ob (dat x) fun d=>ob (dat y) fun e=>PySem.W.alike d e=true∧d≠ .none∧SeqAt.shaped d=true∧Q (.bl (!PySem.W.dataLt e d))
theorem rl_leD:RL2 K (rLeD K) leD3:=by
 intro c x y Q3 hh Hb G A σ3 σ H vx vy Q R rx ry k
 obtain ⟨d,ed,h1⟩:=ob_iff.mp hh
 obtain ⟨e,ee,s1,s2,s3,q⟩:=ob_iff.mp h1
 exact ⟨d,e,dp_of hid_same _ _ _ rx ed,dp_of hid_same _ _ _ ry ee,s1,s2,s3,k _ _ H (Le.refl R.inv) (.bl _) q⟩
abbrev rLeP (K:PySem.W.Frag):R2:=fun x y H Q=>rI0 (fun i j=>.bl (decide (i≤j))) x y H Q∨rLeD K x y H Q
theorem op_leP (h:X.K=K) (hu:X.A.units+64<cLine):OpR X (compareOp .LtE) (rLeP K):=OpR.or op_le (op_leD h hu)
def leP (x y:T) (Q:T→Prop):Prop:=match x,y with
 | .int i,.int j=>Q (.bl (decide (i≤j)))
 | x,y=>leD3 x y Q
theorem rl_leP:RL2 K (rLeP K) leP:=by
 refine RL2.or2 rl_le rl_leD fun x y Q h=> ?_
 cases x<;>cases y<;>first | exact .inl h | exact .inr h
def geD3:T→T→(T→Prop)→Prop:=fun x y Q=>ob (dat x) fun d=>ob (dat y) fun e=>PySem.W.alike d e=true∧d≠ .none∧SeqAt.shaped d=true∧Q (.bl (!PySem.W.dataLt d e))
def geP (x y:T) (Q:T→Prop):Prop:=match x,y with
 | .int i,.int j=>Q (.bl (decide (j≤i)))
 | x,y=>geD3 x y Q
end
end M3
namespace M3
open PySem L2
def ownL (σ:List Sl) (i:Nat):Option (List T):=match σ[i]? with | some (.own (.lst xs))=>some xs | _=>none
def thaw (σ:List Sl) (i:Nat):List Sl:=match σ[i]? with | some (.own (.lst xs))=>σ.set i (.val (.lst xs)) | _=>σ
def isTup:T→Bool
 | .tup _=>true
 | .dic _=>true
 | .kd _ _=>true
 | _=>false
theorem ownL_is {σ:List Sl} {i:Nat} {xs:List T} (h:ownL σ i=some xs):σ[i]? =some (.own (.lst xs)):=by
 unfold ownL at h
 split at h
 · cases h;assumption
 · cases h
theorem addrs_one:∀ {B:List (Option Addr)} {i j:Nat} {p:Addr},(addrs B).Nodup→B[i]? =some (some p)→B[j]? =some (some p)→i=j
 | [],i,j,p,_,h,_=>by simp at h
 | b::B,0,0,p,_,_,_=>rfl
 | b::B,0,j+1,p,hN,h1,h2=>by
   simp at h1 h2
   subst h1
   exact absurd (mem_addrs.mpr (List.mem_of_getElem? h2)) (List.nodup_cons.mp (show (p::addrs B).Nodup from hN)).1
 | b::B,i+1,0,p,hN,h1,h2=>by
   simp at h1 h2
   subst h2
   exact absurd (mem_addrs.mpr (List.mem_of_getElem? h1)) (List.nodup_cons.mp (show (p::addrs B).Nodup from hN)).1
 | b::B,i+1,j+1,p,hN,h1,h2=>by
   simp at h1 h2
   have hN':(addrs B).Nodup:=by
    cases b with
    | none=>exact hN
    | some q=>exact (List.nodup_cons.mp (show (q::addrs B).Nodup from hN)).2
   rw [addrs_one hN' h1 h2]
theorem addrs_none {B:List (Option Addr)} {i:Nat} {p:Addr} (hN:(addrs B).Nodup) (h:B[i]? =some (some p)):p ∉ addrs (B.set i none):=fun z=>by
 obtain ⟨j,hj⟩:=List.getElem?_of_mem (mem_addrs.mp z)
 rcases getElem?_set_cases hj with ⟨_,e,_⟩ | ⟨e,hj2⟩
 · cases e
 · exact e (addrs_one hN h hj2)
theorem addrs_some_sub {B:List (Option Addr)} {i:Nat} {p:Addr}:∀a∈addrs (B.set i (some p)),a=p∨a∈addrs B:=fun a z=>by
 obtain ⟨j,hj⟩:=List.getElem?_of_mem (mem_addrs.mp z)
 rcases getElem?_set_cases hj with ⟨_,e,_⟩ | ⟨_,e⟩
 · cases e;exact .inl rfl
 · exact .inr (mem_addrs.mpr (List.mem_of_getElem? e))
theorem nodup_some:∀ {B:List (Option Addr)} {i:Nat} {p:Addr},(addrs B).Nodup→p ∉ addrs B→(addrs (B.set i (some p))).Nodup
 | [],i,p,h,_=>by simpa using h
 | none::B,0,p,h,n=>List.nodup_cons.mpr ⟨n,h⟩
 | some a::B,0,p,h,n=>List.nodup_cons.mpr ⟨fun z=>n (List.mem_cons_of_mem _ z),(List.nodup_cons.mp (show (a::addrs B).Nodup from h)).2⟩
 | none::B,i+1,p,h,n=>nodup_some (B:=B) (i:=i) h n
 | some a::B,i+1,p,h,n=>by
   have h':=List.nodup_cons.mp (show (a::addrs B).Nodup from h)
   have n':a≠p∧p ∉ addrs B:=⟨fun z=>n (by rw [←z];exact List.mem_cons_self ..),fun z=>n (List.mem_cons_of_mem _ z)⟩
   refine List.nodup_cons.mpr ⟨fun z=> ?_,nodup_some (B:=B) (i:=i) h'.2 n'.2⟩
   rcases addrs_some_sub a z with e | e
   · exact n'.1 e
   · exact h'.1 e
section
variable {K:PySem.W.Frag} {c:Cf} {Hb H H':Hp} {G:List Addr} {A:List (Option Addr)} {σ3:List Sl} {σ:St}
theorem R3.ownGet (r:R3 K c Hb G A σ3 σ H) {i:Nat} {t:T} (h:σ3[i]? =some (.own t)):∃a,A[i]? =some (some a)∧σ[i]? =some (some (.ref a))∧OwnRep K (hid (c.S G A) H) H a t:=by
 have hl:i<σ3.length:=(List.getElem?_eq_some_iff.mp h).1
 have h1:i<A.length:=by rw [r.l1];exact hl
 have h2:i<σ.length:=by rw [r.l2];exact hl
 obtain ⟨a,e1,e2,q⟩:=r.at_ i _ _ _ h (List.getElem?_eq_getElem h1) (List.getElem?_eq_getElem h2)
 exact ⟨a,by rw [List.getElem?_eq_getElem h1,e1],by rw [List.getElem?_eq_getElem h2,e2],q⟩
theorem R3.freeze (r:R3 K c Hb G A σ3 σ H) {i:Nat} {t:T} (h:σ3[i]? =some (.own t)) (ht:isTup t=false):R3 K c Hb G (A.set i none) (σ3.set i (.val t)) σ H:=by
 obtain ⟨a,hA,hσ,q⟩:=r.ownGet h
 have sub:Same (hid (c.S G A) H) (hid (c.S G (A.set i none)) H):=hid_mono (S_sub addrs_set_sub)
 have ha:a∈addrs A:=mem_addrs.mpr (List.mem_of_getElem? hA)
 have na:a ∉ c.S G (A.set i none):=fun z=>by
  rcases mem_S.mp z with z | z | z
  · exact r.ns a ha (List.mem_append.mpr (.inl z))
  · exact r.ns a ha (List.mem_append.mpr (.inr z))
  · exact addrs_none r.nd hA z
 refine ⟨r.inv,Same.trans r.base sub,r.gk,r.gv,nodup_filterMap_set (A:=A) r.nd,fun b hb=>r.ns b (addrs_set_sub b hb),by rw [List.length_set,List.length_set,r.l1],by rw [List.length_set,r.l2], ?_⟩
 intro j s o x h1 h2 h3
 rcases getElem?_set_cases h1 with ⟨e,e1,_⟩ | ⟨e,e1⟩
 · subst e
   subst e1
   rcases getElem?_set_cases h2 with ⟨_,e2,_⟩ | ⟨e2,_⟩
   · subst e2
     rw [hσ] at h3
     cases h3
     refine ⟨rfl,_,rfl, ?_⟩
     cases t with
     | lst xs=>
       obtain ⟨vs,q1,q2⟩:=q
       exact .mkL (hid_mk q1 na) (q2.mono sub)
     | dic kvs=>cases ht
     | tup xs=>cases ht
     | kd w es=>cases ht
     | _=>exact q.elim
   · exact absurd rfl e2
 · rw [List.getElem?_set_ne e] at h2
   have z:=r.at_ j s o x e1 h2 h3
   cases s with
   | no=>exact z
   | val t=>obtain ⟨e,v,e2,q⟩:=z;exact ⟨e,v,e2,q.mono sub⟩
   | own t=>obtain ⟨a,e,e2,q⟩:=z;exact ⟨a,e,e2,q.mono sub rfl⟩
theorem R3.thaw (r:R3 K c Hb G A σ3 σ H) (i:Nat):∃A',R3 K c Hb G A' (M3.thaw σ3 i) σ H:=by
 unfold M3.thaw
 split
 · rename_i t h
   exact ⟨_,r.freeze h rfl⟩
 · exact ⟨_,r⟩
theorem R3.ownAsX (r:R3 K c Hb G A σ3 σ H) {i:Nat} {a:Addr} {t u:T} {o o':HO} (h:σ3[i]? =some (.own t)) (hA:A[i]? =some (some a)) (ha:H a=some o) (hx:∀b q,o≠LamX.CodeO b q) (q:OwnRep K (hid (c.S G A) H) (upd H a o') a u):
 R3 K c Hb G A (σ3.set i (.own u)) σ (upd H a o'):=by
 have hm:a∈addrs A:=mem_addrs.mpr (List.mem_of_getElem? hA)
 have hS:a∈c.S G A:=mem_S.mpr (.inr (.inr hm))
 have n0:∀b∈c.S0++G,b≠a:=fun b hb z=>r.ns a hm (by rw [←z];exact hb)
 refine ⟨c.st H _ (fun b hb=>by rw [upd_ne (n0 b (List.mem_append.mpr (.inl hb)))]) (fun b φ e=>by rw [upd_ne (ne_of e ha (fun z=>hx _ _ z.symm))];exact e) r.inv,by rw [hid_upd_in hS];exact r.base,fun b hb=> ?_,fun b hb o e=> ?_,r.nd,r.ns,by rw [List.length_set,r.l1],by rw [List.length_set,r.l2], ?_⟩
 · rw [upd_ne (n0 b (List.mem_append.mpr (.inr hb)))]
   exact r.gk b hb
 · rw [upd_ne (n0 b (List.mem_append.mpr (.inr hb)))] at e
   exact r.gv b hb o e
 · rw [hid_upd_in hS]
   intro j s o x h1 h2 h3
   rcases getElem?_set_cases h1 with ⟨e,e1,_⟩ | ⟨e,e1⟩
   · subst e
     subst e1
     rw [hA] at h2
     cases h2
     obtain ⟨b,hb,hσ,_⟩:=r.ownGet h
     rw [hA] at hb
     cases hb
     rw [hσ] at h3
     cases h3
     exact ⟨a,rfl,rfl,q⟩
   · have z:=r.at_ j s o x e1 h2 h3
     cases s with
     | no=>exact z
     | val t=>exact z
     | own t=>
       obtain ⟨b,e3,e4,q'⟩:=z
       subst e3
       have nb:b≠a:=fun z=>e (addrs_one r.nd hA (by rw [←z];exact h2))
       exact ⟨b,rfl,e4,q'.mono (Same.refl _) (upd_ne nb)⟩
theorem R3.ownAs (r:R3 K c Hb G A σ3 σ H) {i:Nat} {a:Addr} {t u:T} {o o':HO} (h:σ3[i]? =some (.own t)) (hA:A[i]? =some (some a)) (ha:H a=some o) (hx:∀φ,o≠ .ext φ) (q:OwnRep K (hid (c.S G A) H) (upd H a o') a u):
 R3 K c Hb G A (σ3.set i (.own u)) σ (upd H a o'):=r.ownAsX h hA ha (fun _ _=>hx _) q
theorem R3.ownPut (r:R3 K c Hb G A σ3 σ H) {i:Nat} {a:Addr} {ts us:List T} {ws vs:List V} (h:σ3[i]? =some (.own (.lst ts))) (hA:A[i]? =some (some a)) (ha:H a=some (.lst ws)) (q:RepL K (hid (c.S G A) H) vs us):
 R3 K c Hb G A (σ3.set i (.own (.lst us))) σ (upd H a (.lst vs)):=r.ownAs h hA ha (fun φ z=>by cases z) ⟨vs,upd_same,q⟩
structure FrD (K:PySem.W.Frag) (c:Cf) (G:List Addr) (A:List (Option Addr)) (H H':Hp) (D:Addr) (vs:List V) (ds:List T):Prop where
 nD:D ∉ c.S G A
 vis:Same (hid (c.S G A) H) (hid (D::c.S G A) H')
 own:∀a∈G++addrs A,H' a=H a
 inv:c.I H'
 at_:H' D=some (.lst vs)
 rep:RepL K (hid (D::c.S G A) H') vs ds
theorem FrD.le (f:FrD K c G A H H' D vs ds):Le c G A H H':=⟨Same.trans f.vis (hid_mono fun a h=>List.mem_cons_of_mem _ h),f.own,f.inv⟩
theorem R3.ownNew (r:R3 K c Hb G A σ3 σ H) {D:Addr} {vs:List V} {ds:List T} (f:FrD K c G A H H' D vs ds) (i:Nat):R3 K c Hb G (A.set i (some D)) (σ3.set i (.own (.lst ds))) (σ.set i (some (.ref D))) H':=by
 have sub:∀a∈c.S G (A.set i (some D)),a∈D::c.S G A:=fun a z=>by
  rcases mem_S.mp z with z | z | z
  · exact List.mem_cons_of_mem _ (mem_S.mpr (.inl z))
  · exact List.mem_cons_of_mem _ (mem_S.mpr (.inr (.inl z)))
  · rcases addrs_some_sub a z with z | z
    · rw [z];exact List.mem_cons_self ..
    · exact List.mem_cons_of_mem _ (mem_S.mpr (.inr (.inr z)))
 have vis:Same (hid (c.S G A) H) (hid (c.S G (A.set i (some D))) H'):=Same.trans f.vis (hid_mono sub)
 have nA:D ∉ addrs A:=fun z=>f.nD (mem_S.mpr (.inr (.inr z)))
 have n0:D ∉ c.S0++G:=fun z=>f.nD (by rcases List.mem_append.mp z with z | z;exact mem_S.mpr (.inl z);exact mem_S.mpr (.inr (.inl z)))
 refine ⟨f.inv,Same.trans r.base vis,fun a h=>⟨(f.own a (List.mem_append.mpr (.inl h))).trans (r.gk a h).1,by rw [f.own a (List.mem_append.mpr (.inl h))];exact (r.gk a h).2.1,(r.gk a h).2.2⟩,
  fun a h o e=>r.gv a h o (by rw [←f.own a (List.mem_append.mpr (.inl h))];exact e),nodup_some r.nd nA,fun a h=> ?_,by rw [List.length_set,List.length_set,r.l1],by rw [List.length_set,List.length_set,r.l2], ?_⟩
 · rcases addrs_some_sub a h with z | z
   · rw [z];exact n0
   · exact r.ns a z
 · intro j s o x h1 h2 h3
   rcases getElem?_set_cases h1 with ⟨e,e1,_⟩ | ⟨e,e1⟩
   · subst e
     subst e1
     rcases getElem?_set_cases h2 with ⟨_,e2,_⟩ | ⟨e2,_⟩
     · subst e2
       rcases getElem?_set_cases h3 with ⟨_,e3,_⟩ | ⟨e3,_⟩
       · subst e3
         exact ⟨D,rfl,rfl,vs,f.at_,f.rep.mono (hid_mono sub)⟩
       · exact absurd rfl e3
     · exact absurd rfl e2
   · rw [List.getElem?_set_ne e] at h2 h3
     have z:=r.at_ j s o x e1 h2 h3
     cases s with
     | no=>exact z
     | val t=>obtain ⟨e,v,e2,q⟩:=z;exact ⟨e,v,e2,q.mono vis⟩
     | own t=>
       obtain ⟨a,e,e2,q⟩:=z
       refine ⟨a,e,e2,q.mono vis (f.own a (List.mem_append.mpr (.inr (mem_addrs.mpr ?_))))⟩
       subst e
       exact List.mem_of_getElem? h2
theorem R3.frD (r:R3 K c Hb G A σ3 σ H) {p:Addr} {vs:List V} {ds:List T} (h:H p=none) (q:RepL K (hid (c.S G A) H) vs ds):FrD K c G A H (upd H p (.lst vs)) p vs ds:=by
 have L:=r.new (o:=.lst vs) h
 have v:Same (hid (c.S G A) H) (hid (p::c.S G A) (upd H p (.lst vs))):=by
  rw [hid_upd_in (List.mem_cons_self ..)]
  intro a o e
  obtain ⟨e1,e2⟩:=hid_some e
  exact hid_mk e1 fun z=>by
   rcases List.mem_cons.mp z with z | z
   · rw [z,h] at e1;cases e1
   · exact e2 z
 exact ⟨r.free h,v,L.own,L.inv,upd_same,q.mono v⟩
end
def LiftFr (K:PySem.W.Frag) (c:Cf) (W:WX) (te:TE) (t:E3):Prop:=
 ∀σ3 Q3 X,t σ3 Q3 X→∀Hb G A σ H Q,R3 K c Hb G A σ3 σ H→
  (∀D vs ds H',FrD K c G A H H' D vs ds→Q3 (.lst ds)→Q (.ref D) H')→
  (∀cls dd x H',Le c G A H H'→XRep K (hid (c.S G A) H') cls dd x→X x→W cls dd σ H')→te σ H Q
def ownset3 (t:E3) (i:Nat):S3:=fun N σ=>t σ (fun d=>ob (asL d) fun xs=>N.nx (σ.set i (.own (.lst xs)))) (N.xn σ)
def frz3 (i:Nat) (x:S3):S3:=fun N σ=>x N (thaw σ i)
def app3 (i:Nat) (e:E3):S3:=fun N σ=>ob (ownL σ i) fun xs=>e σ (fun d=>xs.length<sizeLine∧N.nx (σ.set i (.own (.lst (xs++[d]))))) (N.xn σ)
section
variable {K:PySem.W.Frag} {c:Cf} {W:WX} {te:TE} {t e:E3} {i j:Nat}
theorem lift_frLst {ta:TA} {x:A3} (ha:LiftA K c W ta x):LiftFr K c W (tLst ta) (lst3 x):=by
 intro σ3 Q3 X h Hb G A σ H Q R k e
 refine ha _ _ _ h Hb G A σ H _ R (fun vs xs H1 L1 rx hx=> ?_) e
 refine ⟨by rw [rx.length];exact hx.1,fun p hp=> ?_⟩
 have f:=(R.le L1).frD hp rx
 exact k p vs xs _ ⟨f.nD,Same.trans L1.vis f.vis,fun a ha=>(f.own a ha).trans (L1.own a ha),f.inv,f.at_,f.rep⟩ hx.2
theorem lift_ownset (h:LiftFr K c W te t):LiftS K c W (tAsg te (gName i)) (ownset3 t i):=by
 intro N σ3 hh Hb G A σ H D R Z
 refine h _ _ _ hh Hb G A σ H _ R (fun d vs ds H' f q=> ?_) (fun cls dd x H' L r q=>Z.xn _ _ _ _ _ _ _ (R.le L) r q)
 exact Z.nx _ _ _ _ (R.ownNew f i) q
theorem lift_frz {ts:TS} {x:S3} (h:LiftS K c W ts x):LiftS K c W ts (frz3 i x):=by
 intro N σ3 hh Hb G A σ H D R Z
 obtain ⟨A',R'⟩:=R.thaw i
 exact h _ _ hh Hb G A' σ H D R' Z
theorem lift_app {te:TE} {e:E3} (he:Lift K c W te e):LiftS K c W (tDrop (tBM K "list" rAppend (tVar i) (tCons te tNil))) (app3 i e):=by
 intro N σ3 h Hb G A σ H D R Z
 obtain ⟨xs,ex,h⟩:=ob_iff.mp h
 obtain ⟨a,hA,hσ,vs,h1,h2⟩:=R.ownGet (ownL_is ex)
 refine ⟨_,hσ,.inl ⟨rfl,vs,SqL.of h1⟩, ?_⟩
 refine he _ _ _ h Hb G A σ H _ R (fun v d H1 L1 r q=> ?_) (fun cls dd x H' L r q=>Z.xn _ _ _ _ _ _ _ (R.le L) r q)
 have R1:=R.le L1
 have h3:H1 a=some (.lst vs):=by rw [L1.own a (List.mem_append.mpr (.inr (mem_addrs.mpr (List.mem_of_getElem? hA))))];exact h1
 have h4:=h2.mono L1.vis
 exact ⟨a,vs,v,rfl,rfl,h3,by rw [h4.length];exact q.1,Z.nx _ _ _ _ (R1.ownPut (ownL_is ex) hA h3 (h4.append (.cons r .nil))) q.2⟩
end
end M3
namespace M3
open PySem L2
section
variable {K:PySem.W.Frag} {c:Cf} {W:WX} {ta:TE} {a:E3} {X:Cx}
theorem lookup_rep {H:Hp} {f:Str} {t:T}:∀ {fs:List (Str×V)} {ts:List (Str×T)},fs.map (·.1)=ts.map (·.1)→RepL K H (fs.map (·.2)) (ts.map (·.2))→ts.lookup f=some t→∃v,fs.lookup f=some v∧Rep K H v t
 | [],[],_,_,h=>by cases h
 | [],_::_,h,_,_=>by cases h
 | _::_,[],h,_,_=>by cases h
 | (g,v)::fs,(g',u)::ts,h,r,hl=>by
   have h1:g=g':=by injection h
   have h2:fs.map (·.1)=ts.map (·.1):=by injection h
   subst h1
   cases r with
   | cons r1 r2=>
     unfold List.lookup at hl ⊢
     split at hl
     · cases hl
       exact ⟨v,rfl,r1⟩
     · exact lookup_rep h2 r2 hl
end
end M3
namespace M3
open PySem PySem.Spec PyProof.Rows L2
end M3
namespace M3
open PySem L2
def txs:List T→Option (List Str)
 | []=>some []
 | .str x::r=>(txs r).map (x::·)
 | _=>none
@[simp] theorem strs_map:∀xs:List Str,txs (xs.map T.str)=some xs
 | []=>rfl
 | x::xs=>by show (txs (xs.map T.str)).map (x::·)=_;rw [strs_map xs];rfl
theorem strs_is:∀ {ts:List T} {xs:List Str},txs ts=some xs→ts=xs.map T.str
 | [],xs,h=>by cases h;rfl
 | t::ts,xs,h=>by
   cases t with
   | str y=>
     have h:(txs ts).map (y::·)=some xs:=h
     cases e:txs ts with
     | none=>rw [e] at h;cases h
     | some l=>rw [e] at h;cases h;rw [strs_is e,List.map_cons]
   | _=>cases h
section
variable {K:PySem.W.Frag} {c:Cf} {W:WX} {ta:TE} {a:E3} {X:Cx}
theorem RepL.texts {H:Hp}:∀ {vs:List V} {xs:List Str},RepL K H vs (xs.map T.str)→vs=xs.map V.str
 | _,[],.nil=>rfl
 | _,x::xs,.cons r q=>by rw [r.strI,RepL.texts q,List.map_cons]
abbrev rInP (K:PySem.W.Frag) (neg:Bool):R2:=fun x y H Q=>rIn K neg x y H Q∨(fun x y H Q=>∃(c:Nat) (z:Str),x= .str ⟨#[c]⟩∧y= .str z∧Q (.bl (if neg then !decide (c∈z.cps.toList) else decide (c∈z.cps.toList))) H) x y H Q
theorem op_inP (h:X.K=K):OpR X (compareOp .In) (rInP K false):=OpR.or (op_inK h) (op_in_sign)
theorem op_notInP (h:X.K=K):OpR X (compareOp .NotIn) (rInP K true):=OpR.or (op_notInK h) (op_notIn_sign)
def asCh:T→Option Nat
 | .str ⟨⟨[c]⟩⟩=>some c
 | _=>none
theorem asCh_is {d:T} {c:Nat} (h:asCh d=some c):d= .str ⟨#[c]⟩:=by
 unfold asCh at h
 split at h
 · cases h;rfl
 · cases h
@[simp] theorem asCh_ch (c:Nat):asCh (.str ⟨#[c]⟩)=some c:=rfl
@[simp] theorem asCh_chT (c:Nat):asCh (chT c)=some c:=rfl
def inP (neg:Bool) (x y:T) (Q:T→Prop):Prop:=match y with
 | .str z=>ob (asCh x) fun c=>Q (.bl (if neg then !decide (c∈z.cps.toList) else decide (c∈z.cps.toList)))
 | y=>in3 neg x y Q
theorem rl_inP (neg:Bool):RL2 K (rInP K neg) (inP neg):=by
 refine RL2.or2 (rl_in neg) (q':=fun x y Q=>ob (asCh x) fun c=>ob (asS y) fun z=>Q (.bl (if neg then !decide (c∈z.cps.toList) else decide (c∈z.cps.toList)))) ?_ fun x y Q h=> ?_
 · intro c x y Q3 hh Hb G A σ3 σ H vx vy Q R rx ry k
   obtain ⟨n,en,h1⟩:=ob_iff.mp hh
   obtain ⟨z,ez,q⟩:=ob_iff.mp h1
   cases asCh_is en
   cases asS_is ez
   exact ⟨n,z,rx.strI,ry.strI,k _ _ H (Le.refl R.inv) (.bl _) q⟩
 · cases y with
   | str z=>
     right
     obtain ⟨n,en,q⟩:=ob_iff.mp h
     exact ob_iff.mpr ⟨n,en,q⟩
   | _=>exact .inl h
end
structure MethAt (K:PySem.W.Frag) (C:Addr) (m x qual:Str) (st:Stmt) (dts:List T) (kns:List Str) (kts:List T):Prop where
 ex:∃f fd dvs kvs,(∀H,RepL K H dvs dts)∧(∀H,RepL K H kvs kts)∧FunD K x qual (defArgs st) (defBody st) (defScope st) dvs (kns.zip kvs) f fd∧PySem.W.findIn K (.ref C) m=some (some (.ref f))
theorem methAt_mk {K:PySem.W.Frag} {C:Addr} {m x qual:Str} {st:Stmt} {dts kts:List T} {kns:List Str} {f:Addr} {oc dV kV doc pm cdv ct:Value} {od an:Option Addr} {osl:Array (Option Value)} (hm:PySem.W.findIn K (.ref C) m=some (some (.ref f)))
 (l:K.lookup f=some ⟨oc,od,.func (PySem.W.fnOf x qual (defArgs st) (defBody st) (defScope st) dV kV doc pm an cdv ct),osl⟩) (c:PySem.W.codeIn K cdv qual=true) (k:PySem.W.keepIn K (.ref f)=true)
 (hd:(dts=[]∧dV= .none)∨(dts≠[]∧∃(Ta:Addr) (o:Obj) (its:List Value) (n:Nat),dV= .ref Ta∧K.lookup Ta=some o∧o.data= .seq its.toArray n∧TreesAt K dts its))
 (hk:(kns=[]∧kts=[])∨∃(D:Addr) (us:List Value),kV= .ref D∧TreesAt K kts us∧kns.length=us.length∧∀q∈kns.zip us,PySem.W.nsIn K D q.1=some (some q.2)):MethAt K C m x qual st dts kns kts:=by
 obtain ⟨f',fd,dvs,kvs,h1,h2,F,e⟩:=(defAt_mk (mg:=fun _=>some (.ref f)) (x:=x) rfl l c k hd hk).ex
 cases e
 exact ⟨_,fd,dvs,kvs,h1,h2,F,hm⟩
end M3
namespace M3
open PySem PySem.Spec PyProof.Rows L2
theorem R3.ext {K:PySem.W.Frag} {c:Cf} {Hb H H':Hp} {G:List Addr} {A:List (Option Addr)} {σ3:List Sl} {σ:L2.St} (r:R3 K c Hb G A σ3 σ H) (k:∀b o,H b=some o→H' b=some o):Le c G A H H' where
 vis:=fun a u e=>by
  obtain ⟨e1,e2⟩:=hid_some e
  exact hid_mk (k _ _ e1) e2
 own:=fun a ha=>by
  have hm:a∈c.S G A:=mem_S.mpr (by rcases List.mem_append.mp ha with z | z;exact .inr (.inl z);exact .inr (.inr z))
  cases e:H a with
  | none=>exact absurd e (r.there hm)
  | some o=>exact k _ _ e
 inv:=c.st H _ (fun a ha=>by
  have hm:a∈c.S G A:=mem_S.mpr (.inl ha)
  cases e:H a with
  | none=>exact absurd e (r.there hm)
  | some o=>exact k _ _ e) (fun a φ e=>k _ _ e) r.inv
inductive Kd where
 | l (a:Addr) | t (a:Addr) | s (x:Str)
def Kd.v:Kd→V
 | .l a=>.ref a
 | .t a=>.ref a
 | .s x=>.str x
def Kd.has (K:PySem.W.Frag) (H:Hp):Kd→List V→Prop
 | .l a,xs=>SqL K H a xs
 | .t a,xs=>SqT K H a xs
 | .s x,xs=>xs=x.cps.toList.map fun c=>V.str ⟨#[c]⟩
def Kd.fp (j:Addr):Kd→List Addr
 | .l a=>[j,a]
 | .t a=>[j,a]
 | .s _=>[j]
def Kd.tn (j:Addr) (i:Nat) (h:Heap):Kd→Prop
 | .l a=>h.IsListIter j a i
 | .t a=>h.IsTupleIter j a i
 | .s x=>∃t,h.IsStrIter j (strIterType x) x t i
def Kd.ne (j:Addr):Kd→Prop
 | .l a=>a≠j
 | .t a=>a≠j
 | .s _=>True
section
variable {X:Cx} {pins:List (Addr×Obj)} {σ:L2.St} {H:Hp} {s:Shared} {j:Addr} {i:Nat} {xs:List V}
theorem Kd.draws (I:Inv X pins σ H s) (k:Kd) (h:k.has X.K H xs) (ne:k.ne j) (tn:k.tn j i s.heap):
 ∃(P:Nat→Value→Prop) (St:Nat→Heap→Prop),(∀B:Around,B.handled=none→Draws X.prog X.w B j (k.fp j) xs.length P St)∧St i s.heap∧(∀m v,P m v→∃x,xs[m]? =some x∧RelV x v)∧∀m h,St m h→k.tn j m h:=by
 cases k with
 | l a=>
   obtain ⟨its,rv,p,_⟩:=I.list h
   have e:its.toArray.size=xs.length:=by rw [List.size_toArray];exact rv.length.symm
   refine ⟨fun i v=>its.toArray[i]? =some v,fun i h=>h.IsListIter j a i∧h.IsList a its.toArray,fun B hB=>by rw [←e];exact Draws.list hB j a ne its.toArray,⟨tn,p.isList⟩,fun m v hv=> ?_,fun m h st=>st.1⟩
   have hv:its[m]? =some v:=by simpa using hv
   have hm:m<xs.length:=by rw [rv.length];exact (List.getElem?_eq_some_iff.mp hv).1
   obtain ⟨u,hu,r⟩:=rv.get (List.getElem?_eq_getElem hm)
   rw [hv] at hu
   cases hu
   exact ⟨_,List.getElem?_eq_getElem hm,r⟩
 | t a=>
   obtain ⟨its,rv,p,_⟩:=I.tuple h
   have e:its.toArray.size=xs.length:=by rw [List.size_toArray];exact rv.length.symm
   refine ⟨fun i v=>its.toArray[i]? =some v,fun i h=>h.IsTupleIter j a i∧h.IsTuple a its.toArray,fun B hB=>by rw [←e];exact Draws.tuple hB j a ne its.toArray,⟨tn,p⟩,fun m v hv=> ?_,fun m h st=>st.1⟩
   have hv:its[m]? =some v:=by simpa using hv
   have hm:m<xs.length:=by rw [rv.length];exact (List.getElem?_eq_some_iff.mp hv).1
   obtain ⟨u,hu,r⟩:=rv.get (List.getElem?_eq_getElem hm)
   rw [hv] at hu
   cases hu
   exact ⟨_,List.getElem?_eq_getElem hm,r⟩
 | s x=>
   obtain ⟨t,st⟩:=tn
   have h:xs=x.cps.toList.map fun c=>V.str ⟨#[c]⟩:=h
   have e:x.cps.size=xs.length:=by rw [h,List.length_map,Array.length_toList]
   refine ⟨fun i v=>∃c u,x.cps[i]? =some c∧v= .str ⟨#[c]⟩ u,fun i h=>h.IsStrIter j (strIterType x) x t i,fun B hB=>by rw [←e];exact Draws.text hB j x t,st,fun m v hv=> ?_,fun m h st=>⟨t,st⟩⟩
   obtain ⟨c,u,hc,rfl⟩:=hv
   refine ⟨.str ⟨#[c]⟩, ?_,⟨u,rfl⟩⟩
   rw [h,List.getElem?_map,Array.getElem?_toList,hc]
   rfl
theorem Kd.keep {h h':Heap} (k:Kd) (tn:k.tn j i h) (kp:∀o,h.get? j=some o→h'.get? j=some o):k.tn j i h':=by
 cases k with
 | l a=>exact Heap.IsListIter.at tn kp
 | t a=>exact Heap.IsTupleIter.at tn kp
 | s x=>
   obtain ⟨t,o,ho,r⟩:=tn
   exact ⟨t,o,kp o ho,r⟩
theorem Kd.obj {h:Heap} (k:Kd) (tn:k.tn j i h):∃o,h.get? j=some o∧∀v,o.data≠ .cell v:=by
 cases k with
 | l a=>
   obtain ⟨o,e,_,d⟩:=tn
   exact ⟨o,e,fun v q=>by rw [d] at q;cases q⟩
 | t a=>
   obtain ⟨o,e,_,d⟩:=tn
   exact ⟨o,e,fun v q=>by rw [d] at q;cases q⟩
 | s x=>
   obtain ⟨t,o,e,_,d⟩:=tn
   exact ⟨o,e,fun v q=>by rw [d] at q;cases q⟩
theorem Kd.fp_mem (k:Kd):j∈k.fp j:=by cases k<;>exact List.mem_cons_self ..
end
def ItzG (K:PySem.W.Frag) (k1 k2:Kd):It:=
 ⟨fun i H=>∃(xs ys:List V) (x y:V),k1.has K H xs∧k2.has K H ys∧xs[i]? =some x∧ys[i]? =some y,
   fun i H v H'=>∃Tt x y,v= .ref Tt∧H Tt=none∧H'=upd H Tt (.tup [x,y])∧(∀xs,k1.has K H xs→xs[i]? =some x)∧∀ys,k2.has K H ys→ys[i]? =some y,
   fun i H=>∃xs ys:List V,k1.has K H xs∧k2.has K H ys∧i≤xs.length∧i≤ys.length∧(i=xs.length∨i=ys.length)⟩
theorem Kd.inj {X:Cx} {pins:List (Addr×Obj)} {σ:L2.St} {H:Hp} {s:Shared} (I:Inv X pins σ H s) {xs ys:List V} (k:Kd) (h:k.has X.K H xs) (h':k.has X.K H ys):xs=ys:=by
 cases k with
 | l a=>exact I.list_inj h h'
 | t a=>exact I.tuple_inj h h'
 | s x=>exact h.trans h'.symm
theorem turn_zipG {P:Program} {w:World} {K:PySem.W.Frag} {elts:List Expr} {kk:Nat} {tpos:Pos} {zz TI TO j1 j2:Addr} {k1 k2:Kd} (S:ZipSep2 zz TI TO j1 j2 (k1.fp j1) (k2.fp j2)) (n1:k1.ne j1) (n2:k2.ne j2):
 Turn P w K (.Tuple elts kk tpos) (ItzG K k1 k2) [zz,TI,TO,j1,j2] zz (fun i h=>IsZip h zz TI TO .none∧IsTupOf2 h TI (.ref j1) (.ref j2)∧(∃x y,IsTupOf2 h TO x y)∧k1.tn j1 i h∧k2.tn j2 i h) where
 mem:=by simp
 obj:=fun i h st c hc=>by
  obtain ⟨hz,hTI,⟨x,y,hTO⟩,t1,t2⟩:=st
  have e':c=zz∨c=TI∨c=TO∨c=j1∨c=j2:=by simpa using hc
  rcases e' with q | q | q | q | q
  · subst q;exact ⟨_,hz,fun v q=>nomatch q⟩
  · subst q;exact ⟨_,hTI,fun v q=>nomatch q⟩
  · subst q;exact ⟨_,hTO,fun v q=>nomatch q⟩
  · subst q;exact k1.obj t1
  · subst q;exact k2.obj t2
 keep:=fun i h h' st k=>by
  obtain ⟨hz,hTI,⟨x,y,hTO⟩,t1,t2⟩:=st
  exact ⟨k zz (by simp) _ hz,k TI (by simp) _ hTI,⟨x,y,k TO (by simp) _ hTO⟩,k1.keep t1 (k j1 (by simp)),k2.keep t2 (k j2 (by simp))⟩
 item:=by
  intro X hP hw hK hc i pins s σ H E I hf st hg
  subst hP hw hK
  obtain ⟨hz,hTI,⟨x0,y0,hTO⟩,t1,t2⟩:=st
  obtain ⟨xs,ys,x,y,hqx,hqy,hx,hy⟩:=hg
  obtain ⟨P1,St1,D1,st1,pr1,to1⟩:=k1.draws I hqx n1 t1
  obtain ⟨P2,St2,D2,st2,pr2,to2⟩:=k2.draws I hqy n2 t2
  have hh:=I.ok.hd hc
  have l1:i<xs.length:=(List.getElem?_eq_some_iff.mp hx).1
  have l2:i<ys.length:=(List.getElem?_eq_some_iff.mp hy).1
  have hzl:zz<s.heap.objs.size:=Heap.lt_size hz
  refine wpAny_pyNext_zipD2_item S (D1 _ hh) (D2 _ hh) hz hTI hTO st1 st2 l1 l2 fun u u2 h' tk p1 p2 zz' TO' s1' s2' hT hsz hk=> ?_
  obtain ⟨xx,ex,ru⟩:=pr1 i u p1
  obtain ⟨yy,ey,ru2⟩:=pr2 i u2 p2
  rw [hx] at ex
  rw [hy] at ey
  cases ex
  cases ey
  refine ⟨_,rfl,wpAny_letOwnedTupleGo_zip (s:={s with heap:=h',toks:=tk}) zz' fun h'' z'' sb=> ?_⟩
  replace sb:Heap.SameBut zz h' h'':=sb
  have hT2:h''.get? s.heap.objs.size=some {cls:=.type "tuple",data:=.seq #[u,u2]}:=(sb.2 _ (Nat.ne_of_gt hzl)).trans hT
  have new:ObjOk X.prog X.w (upd H s.heap.objs.size (.tup [x,y])) h'' s.heap.objs.size (.tup [x,y]):=⟨by show 2≤sizeLine;decide,[u,u2],.cons ru (.cons ru2 .nil),⟨_,hT2,rfl,_,rfl⟩⟩
  have I1:Inv X pins σ (upd H s.heap.objs.size (.tup [x,y])) {s with heap:=h'',toks:=tk}:=
   I.turnedNew (t':=tk) (ch:=[zz,TI,TO,j1,j2]) (fun c o hb q=>(sb.2 c (fun q'=>hb (by simp [q']))).trans (hk c o (fun q'=>hb (by simp [q'])) (fun q'=>hb (by simp [q'])) (fun q'=>hb (by simp [q'])) (fun q'=>hb (by simp [q'])) q)) hf (Nat.le_refl _) new
  refine ⟨.ref s.heap.objs.size,_,I1,rfl,⟨_,x,y,rfl,I.hok.fresh (Nat.le_refl _),rfl,fun l hl=>by rw [k1.inj I hl hqx];exact hx,fun l hl=>by rw [k2.inj I hl hqy];exact hy⟩,⟨z'', ?_,⟨u,u2, ?_⟩, ?_, ?_⟩,fun c hcm=> ?_⟩
  · exact (sb.2 _ S.TIz).trans (hk _ _ S.TIz S.TITO S.TIi1 S.TIi2 hTI)
  · exact (sb.2 _ S.TOz).trans TO'
  · exact k1.keep (to1 _ _ s1') fun o q=>(sb.2 _ (fun e=>S.zi1 e.symm)).trans q
  · exact k2.keep (to2 _ _ s2') fun o q=>(sb.2 _ (fun e=>S.zi2 e.symm)).trans q
  · have hlt:c<s.heap.objs.size:=by
     have e':c=zz∨c=TI∨c=TO∨c=j1∨c=j2:=by simpa using hcm
     rcases e' with q | q | q | q | q
     · rw [q];exact hzl
     · rw [q];exact Heap.lt_size hTI
     · rw [q];exact Heap.lt_size hTO
     · rw [q];obtain ⟨_,e1,_⟩:=k1.obj t1;exact Heap.lt_size e1
     · rw [q];obtain ⟨_,e2,_⟩:=k2.obj t2;exact Heap.lt_size e2
    rw [upd_ne (Nat.ne_of_lt hlt)]
    exact (hf c hcm).1
 done:=by
  intro X hP hw hK hc i pins s σ H E I hf st hg
  subst hP hw hK
  obtain ⟨hz,hTI,⟨x0,y0,hTO⟩,t1,t2⟩:=st
  obtain ⟨xs,ys,hqx,hqy,le1,le2,hend⟩:=hg
  obtain ⟨P1,St1,D1,st1,_,_⟩:=k1.draws I hqx n1 t1
  obtain ⟨P2,St2,D2,st2,_,_⟩:=k2.draws I hqy n2 t2
  have hh:=I.ok.hd hc
  exact wpAny_pyNext_zipD2_end S (D1 _ hh) (D2 _ hh) hz hTI hTO st1 st2 le1 le2 hend fun h' tk hk=>⟨rfl,I.turnedL (t':=tk) (ch:=[zz,TI,TO,j1,j2]) (fun c o hb q=>
   hk c o (fun q'=>hb (by simp [q'])) (fun q'=>hb (by simp [q'])) (fun q'=>hb (by simp [q'])) (fun q'=>hb (by simp [q'])) q) hf⟩
 self:=fun A i s Q E st h=>wpAny_pyIter_zip st.1 h
def iZipG (K:PySem.W.Frag) (ta:TA):TI:=fun σ H R=>ta σ H fun vs H1=>∃k1 k2 xs ys,vs=[Kd.v k1,Kd.v k2]∧k1.has K H1 xs∧k2.has K H1 ys∧R (ItzG K k1 k2) H1
theorem Kd.begins {X:Cx} {pins:List (Addr×Obj)} {σ:L2.St} {H:Hp} {s:Shared} {xs:List V} {u:Value} (I:Inv X pins σ H s) (k:Kd) (h:k.has X.K H xs) (r:RelV k.v u):
 ∃o B,Begins u o B∧B s.heap∧(∀j h,h.get? j=some o→k.tn j 0 h)∧∀b,b∈k.fp b→True∧∀c,s.heap.objs.size≤c→c ∉ (k.fp c).tail∧k.ne c∧∀d,s.heap.objs.size≤d→c≠d→c ∉ k.fp d:=by
 cases k with
 | l a=>
   obtain ⟨its,rv,p,_⟩:=I.list h
   cases r
   have la:a<s.heap.objs.size:=p.lt
   refine ⟨_,_,begins_list a its.toArray,p.isList,fun j h e=>⟨_,e,rfl,rfl⟩,fun b _=>⟨trivial,fun c hc=> ?_⟩⟩
   have ac:a≠c:=Nat.ne_of_lt (Nat.lt_of_lt_of_le la hc)
   exact ⟨by simp [Kd.fp];exact fun e=>ac e.symm,ac,fun d _ cd=>by simp [Kd.fp];exact ⟨cd,fun e=>ac e.symm⟩⟩
 | t a=>
   obtain ⟨its,rv,p,_⟩:=I.tuple h
   cases r
   have la:a<s.heap.objs.size:=by
    obtain ⟨o,ho,_⟩:=id p
    exact Heap.lt_size ho
   refine ⟨_,_,begins_tuple a its.toArray,p,fun j h e=>⟨_,e,rfl,rfl⟩,fun b _=>⟨trivial,fun c hc=> ?_⟩⟩
   have ac:a≠c:=Nat.ne_of_lt (Nat.lt_of_lt_of_le la hc)
   exact ⟨by simp [Kd.fp];exact fun e=>ac e.symm,ac,fun d _ cd=>by simp [Kd.fp];exact ⟨cd,fun e=>ac e.symm⟩⟩
 | s x=>
   obtain ⟨t,rfl⟩:=r
   refine ⟨_,_,begins_text x t,trivial,fun j h e=>⟨t,_,e,rfl,rfl⟩,fun b _=>⟨trivial,fun c hc=> ?_⟩⟩
   exact ⟨by simp [Kd.fp],trivial,fun d _ cd=>by simp [Kd.fp];exact cd⟩
theorem pi_zipG {X:Cx} {K:PySem.W.Frag} {e e2:Expr} {ta:TA} {p pos tpos:Pos} {elts:List Expr} {kk:Nat} (hK:X.K=K) (hg:Gl X "zip") (hm:X.mg "zip"=none) (ha:PA X [e,e2] ta)
 (hs:starEach [e,e2] X.env=(false,eval e X.env)::starEach [e2] X.env:=by rfl) (hpl:(backTo pos (starEach [e2] X.env)).any (·.1)=false:=by rfl):
 PI X (.Tuple elts kk tpos) (.Call (.Name "zip" p) [e,e2] [] pos) (iZipG K ta):=by
 subst hK
 refine ⟨fun pins s σ H R I h=> ?_⟩
 refine Call_ (ld_blt I hg hm PyProof.Rows.boot_zip (PyProof.Rows.callWith_type1 (thn (ha.run pos pins s σ H _ I h) fun us s1 ⟨vs,H1,I1,r1,q1⟩=> ?_) hs hpl))
 obtain ⟨k1,k2,xs,ys,ex,hqx,hqy,q⟩:=q1
 subst ex
 cases r1 with
 | cons r rr=>
   cases rr with
   | cons r' rr=>
     cases rr
     have fresh5:∀c,c∈[s1.heap.objs.size+4,s1.heap.objs.size+2,s1.heap.objs.size+3,s1.heap.objs.size,s1.heap.objs.size+1]→FpOk X pins H1 c:=fun c hcm=>by
      have hle:s1.heap.objs.size≤c:=by
       have e':c=s1.heap.objs.size+4∨c=s1.heap.objs.size+2∨c=s1.heap.objs.size+3∨c=s1.heap.objs.size∨c=s1.heap.objs.size+1:=by simpa using hcm
       rcases e' with z | z | z | z | z<;>rw [z]<;>first | exact Nat.le_add_right _ _ | exact Nat.le_refl _
      exact I1.fpOk hle (I1.hok.fresh hle)
     obtain ⟨o1,B1,b1,hb1,t1,f1⟩:=k1.begins I1 hqx r
     obtain ⟨o2,B2,b2,hb2,t2,f2⟩:=k2.begins I1 hqy r'
     have g1:=fun c hc=>(f1 0 (k1.fp_mem (j:=0))).2 c hc
     have g2:=fun c hc=>(f2 0 (k2.fp_mem (j:=0))).2 c hc
     refine zip_begins2 b1 b2 hb1 hb2 fun h' hz hTI hTO h1 h2 hsz hk=>wpAny_pyIter_zip hz ?_
     have I2:Inv X pins σ H1 {s1 with heap:=h'}:=I1.kept (t':=s1.toks) hk
     have ge:∀j,s1.heap.objs.size≤s1.heap.objs.size+j:=fun j=>Nat.le_add_right _ j
     have ne:∀i j:Nat,i≠j→s1.heap.objs.size+i≠s1.heap.objs.size+j:=fun i j h e=>h (Nat.add_left_cancel e)
     have S:ZipSep2 (s1.heap.objs.size+4) (s1.heap.objs.size+2) (s1.heap.objs.size+3) s1.heap.objs.size (s1.heap.objs.size+1) (k1.fp s1.heap.objs.size) (k2.fp (s1.heap.objs.size+1)):=
      ⟨ne 2 4 (by decide),ne 3 4 (by decide),ne 2 3 (by decide),ne 2 0 (by decide),k1.fp_mem,(g1 _ (ge 4)).2.2 _ (ge 0) (ne 4 0 (by decide)),(g1 _ (ge 3)).2.2 _ (ge 0) (ne 3 0 (by decide)),ne 2 1 (by decide),k2.fp_mem,
        (g2 _ (ge 4)).2.2 _ (ge 1) (ne 4 1 (by decide)),(g2 _ (ge 3)).2.2 _ (ge 1) (ne 3 1 (by decide)),(g2 _ (ge 0)).2.2 _ (ge 1) (ne 0 1 (by decide)),(g1 _ (ge 1)).2.2 _ (ge 0) (ne 1 0 (by decide))⟩
     exact ⟨s1.heap.objs.size+4,[s1.heap.objs.size+4,s1.heap.objs.size+2,s1.heap.objs.size+3,s1.heap.objs.size,s1.heap.objs.size+1],_,_,H1,rfl,I2,turn_zipG S (g1 _ (ge 0)).2.1 (g2 _ (ge 1)).2.1,⟨hz,hTI,⟨_,_,hTO⟩,t1 _ _ h1,t2 _ _ h2⟩,fresh5,q⟩
section
variable {K:PySem.W.Frag} {c:Cf} {W:WX}
theorem Rep.kd {S:List Addr} {H:Hp} {v:V} {t:T} {ds:List T} (r:Rep K (hid S H) v t) (h:itemsP t=some ds):∃k vs,v=Kd.v k∧RepL K (hid S H) vs ds∧∀S' H',Same (hid S H) (hid S' H')→k.has K H' vs:=by
 cases t with
 | lst xs=>
   obtain ⟨a,vs,rfl,h1,h2⟩:=r.lstI
   cases h
   exact ⟨.l a,vs,rfl,h2,fun S' H' e=>SqL.of (hid_same _ _ (e _ _ h1))⟩
 | tup xs=>
   obtain ⟨a,vs,rfl,h1,h2⟩:=r.tupI
   cases h
   exact ⟨.t a,vs,rfl,h2,fun S' H' e=>Same.sqT hid_same (Same.sqT e h1)⟩
 | str z=>
   cases r.strI
   cases h
   refine ⟨.s z,z.cps.toList.map fun c=>V.str ⟨#[c]⟩,rfl, ?_,fun _ _ _=>rfl⟩
   have:∀l:List Nat,RepL K (hid S H) (l.map fun c=>V.str ⟨#[c]⟩) (l.map chT):=fun l=>by
    induction l with
    | nil=>exact .nil
    | cons c l ih=>exact .cons (.str _) ih
   exact this _
 | _=>cases h
theorem walks_zipG {S:List Addr} {H0:Hp} {k1 k2:Kd} {vs ws:List V} {xs ys:List T} (ha:∀S' H',Same (hid S H0) (hid S' H')→k1.has K H' vs) (hb:∀S' H',Same (hid S H0) (hid S' H')→k2.has K H' ws) (r:RepL K (hid S H0) vs xs) (s:RepL K (hid S H0) ws ys):
 WalksB K true (hid S H0) (ItzG K k1 k2) (pairT xs ys) where
 go:=fun i d S' H hd e=>by
  obtain ⟨x,y,h1,h2,_⟩:=pairT_get hd
  obtain ⟨v,hv,_⟩:=r.get h1
  obtain ⟨w,hw,_⟩:=s.get h2
  exact ⟨vs,ws,v,w,ha _ _ e,hb _ _ e,hv,hw⟩
 yld:=fun i d S' H x H' hd e hS y=>by
  obtain ⟨x1,y1,h1,h2,rfl⟩:=pairT_get hd
  obtain ⟨v,hv,rv⟩:=r.get h1
  obtain ⟨w,hw,rw'⟩:=s.get h2
  obtain ⟨Tt,p,q,rfl,hT,e',f1,f2⟩:=y
  have z1:=f1 vs (ha _ _ e)
  have z2:=f2 ws (hb _ _ e)
  rw [hv] at z1
  rw [hw] at z2
  cases z1
  cases z2
  exact yld_pair hS hT e' (rv.mono e) (rw'.mono e)
 stop:=fun S' H e=>⟨vs,ws,ha _ _ e,hb _ _ e,by rw [pairT_len,r.length];exact Nat.min_le_left _ _,by rw [pairT_len,s.length];exact Nat.min_le_right _ _,by rw [pairT_len,r.length,s.length];omega⟩
def iterZG3 (x:A3):A3:=fun σ Q X=>x σ (fun ds=>ob (two ds) fun p=>ob (itemsP p.1) fun xs=>ob (itemsP p.2) fun ys=>Q (pairT xs ys)) X
theorem lift_iZG {t:TA} {x:A3} (ha:LiftA K c W t x):LiftIB K c true W (iZipG K t) (iterZG3 x):=by
 intro σ3 Q3 X h Hb G A σ H R' R k e
 refine ha _ _ _ h Hb G A σ H _ R (fun v d H1 L1 r q=> ?_) e
 obtain ⟨⟨d,d'⟩,ed,q1⟩:=ob_iff.mp q
 obtain ⟨xs,ex,q2⟩:=ob_iff.mp q1
 obtain ⟨ys,ey,q3⟩:=ob_iff.mp q2
 cases two_is ed
 obtain ⟨v,w,rfl,rv,rw'⟩:=repL_two r
 obtain ⟨k1,vs,rfl,rl1,a1⟩:=rv.kd ex
 obtain ⟨k2,ws,rfl,rl2,a2⟩:=rw'.kd ey
 exact ⟨k1,k2,vs,ws,rfl,a1 _ _ (Same.refl _),a2 _ _ (Same.refl _),k _ _ H1 L1 (walks_zipG a1 a2 rl1 rl2) q3⟩
end
end M3
namespace M3
open PySem L2
end M3
namespace M3
open PySem PySem.Spec PyProof.Rows L2
inductive DEnts (K:PySem.W.Frag) (P:Params):List (Str×T)→List DictEntry→Prop
 | nil:DEnts K P [] []
 | cons {x:Str} {t:Tok} {tr:T} {v:Value} {r:List (Str×T)} {es:List DictEntry} (h:TreeAt K tr v) (q:DEnts K P r es):DEnts K P ((x,tr)::r) (⟨PyData.keyHash P x,.str x t,v⟩::es)
structure KdAt (K:PySem.W.Frag) (w:World) (d:Addr) (kts:List (Str×T)):Prop where
 ex:∃es n,KDict K w d es n∧DEnts K w.params kts es.toList
theorem DEnts.lit {K:PySem.W.Frag} {P:Params}:∀ {kts:List (Str×T)} {es:List DictEntry},DEnts K P kts es→PySem.W.KeysLit P es
 | _,_,.nil=>trivial
 | _,_,.cons _ q=>⟨⟨_,_,rfl,rfl⟩,q.lit⟩
theorem kdAt_mk {K:PySem.W.Frag} {w:World} {d:Addr} {kts:List (Str×T)} {es:Array DictEntry} {n:Nat} {l:List DictEntry} (h:K.lookup d=some ⟨.type "dict",none,.dict es n, #[]⟩) (lo:(d==sysModules)=false) (he:es.toList=l) (q:DEnts K w.params kts l):KdAt K w d kts:=
 ⟨es,n,⟨h,by rw [he];exact q.lit,lo⟩,by rw [he];exact q⟩
def Look (K:PySem.W.Frag) (es:List DictEntry) (z:Str):Option T→Prop
 | some tr=>∃e,es.find? (·.key.isStr z)=some e∧TreeAt K tr e.val
 | none=>es.find? (·.key.isStr z)=none
theorem DEnts.look {K:PySem.W.Frag} {P:Params} {z:Str}:∀ {kts:List (Str×T)} {es:List DictEntry},DEnts K P kts es→Look K es z (kts.lookup z)
 | _,_,.nil=>rfl
 | _,_, @DEnts.cons _ _ x t tr v r es h q=>by
   have ih:=q.look (z:=z)
   by_cases e:z=x
   · subst e
     have l1:((z,tr)::r).lookup z=some tr:=by simp [List.lookup]
     rw [l1]
     exact ⟨_,by rw [List.find?_cons_of_pos];simp [Value.isStr],h⟩
   · have l1:((x,tr)::r).lookup z=r.lookup z:=by
      have e':(z==x)=false:=by simpa using e
      simp [List.lookup,e']
     have n1:∀w':Value,(⟨PyData.keyHash P x,.str x t,w'⟩:DictEntry).key.isStr z=false:=fun w'=>by
      show (Value.str x t).isStr z=false
      simp [Value.isStr]
      exact fun y=>e y.symm
     rw [l1]
     have f1:(⟨PyData.keyHash P x,.str x t,v⟩::es).find? (·.key.isStr z)=es.find? (·.key.isStr z):=by rw [List.find?_cons_of_neg];simpa using n1 v
     revert ih
     cases r.lookup z with
     | none=>intro ih;exact f1.trans ih
     | some tr'=>intro ⟨e',h1,h2⟩;exact ⟨e',f1.trans h1,h2⟩
theorem DEnts.noref {K:PySem.W.Frag} {P:Params}:∀ {kts:List (Str×T)} {es:List DictEntry},DEnts K P kts es→es.any (·.refKey)=false
 | _,_,.nil=>rfl
 | _,_,.cons _ q=>by
   rw [List.any_cons,q.noref]
   rfl
theorem KdAt.some_ {K:PySem.W.Frag} {w:World} {d:Addr} {kts:List (Str×T)} (h:KdAt K w d kts) {z:Str} {tr:T} (e:kts.lookup z=some tr):∃u,PySem.W.nsIn K d z=some (some u)∧TreeAt K tr u:=by
 obtain ⟨es,n,D,E⟩:=h.ex
 have l:=E.look (z:=z)
 rw [e] at l
 obtain ⟨en,h1,h2⟩:=l
 refine ⟨en.val, ?_,h2⟩
 unfold PySem.W.nsIn
 rw [D.at_]
 show (match es.toList.find? (·.key.isStr z) with | some e=>some (some e.val) | none=>_)=_
 rw [h1]
theorem KdAt.none_ {K:PySem.W.Frag} {w:World} {d:Addr} {kts:List (Str×T)} (h:KdAt K w d kts) {z:Str} (e:kts.lookup z=none):PySem.W.nsIn K d z=some none:=by
 obtain ⟨es,n,D,E⟩:=h.ex
 have l:=E.look (z:=z)
 rw [e] at l
 have l:es.toList.find? (·.key.isStr z)=none:=l
 unfold PySem.W.nsIn
 rw [D.at_]
 show (match es.toList.find? (·.key.isStr z) with | some e=>some (some e.val) | none=>if es.toList.any (·.refKey) then none else some none)=_
 rw [l]
 show (if es.toList.any (·.refKey) then none else some none)=_
 rw [E.noref]
 rfl
def rInK (d:Addr) (kts:List (Str×T)) (neg:Bool):R2:=fun x y H Q=>∃z,x= .str z∧y= .ref d∧Q (.bl (if neg then !(kts.lookup z).isSome else (kts.lookup z).isSome)) H
def rGetK (K:PySem.W.Frag) (d:Addr) (kts:List (Str×T)):R2:=fun x y H Q=>∃z tr,x= .ref d∧y= .str z∧kts.lookup z=some tr∧∀v,(∀H,Rep K H v tr)→Q v H
section
variable {X:Cx} {K:PySem.W.Frag} {w:World} {d:Addr} {kts:List (Str×T)}
theorem op_inKd (hK:X.K=K) (hw:X.w=w) (D:KdAt K w d kts):OpR X (compareOp .In) (rInK d kts false):=by
 subst hK hw
 intro pins s σ H x y v u Q I rx ry h
 obtain ⟨z,rfl,rfl,q⟩:=h
 obtain ⟨es,n,D0,E⟩:=D.ex
 cases e:kts.lookup z with
 | none=>exact op_in_kd D0 pins s σ H _ _ v u Q I rx ry ⟨z,none,rfl,rfl,D.none_ e,by rw [e] at q;exact q⟩
 | some tr=>
   obtain ⟨u0,h1,_⟩:=D.some_ e
   exact op_in_kd D0 pins s σ H _ _ v u Q I rx ry ⟨z,some u0,rfl,rfl,h1,by rw [e] at q;exact q⟩
theorem op_notInKd (hK:X.K=K) (hw:X.w=w) (D:KdAt K w d kts):OpR X (compareOp .NotIn) (rInK d kts true):=by
 subst hK hw
 intro pins s σ H x y v u Q I rx ry h
 obtain ⟨z,rfl,rfl,q⟩:=h
 obtain ⟨es,n,D0,E⟩:=D.ex
 cases e:kts.lookup z with
 | none=>exact op_notIn_kd D0 pins s σ H _ _ v u Q I rx ry ⟨z,none,rfl,rfl,D.none_ e,by rw [e] at q;exact q⟩
 | some tr=>
   obtain ⟨u0,h1,_⟩:=D.some_ e
   exact op_notIn_kd D0 pins s σ H _ _ v u Q I rx ry ⟨z,some u0,rfl,rfl,h1,by rw [e] at q;exact q⟩
theorem ix_kd (hK:X.K=K) (hw:X.w=w) (D:KdAt K w d kts):IxR X (rGetK K d kts):=by
 subst hK hw
 intro value slice pins s σ H x y v u Q I rx ry h hs
 obtain ⟨z,tr,rfl,rfl,e,q⟩:=h
 obtain ⟨es,n,D0,E⟩:=D.ex
 obtain ⟨u0,h1,v0,r0,rp⟩:=D.some_ e
 exact ix_kdict value slice pins s σ H _ _ v u Q I rx ry ⟨d,z,v0,rfl,rfl,⟨es,n,u0,D0.at_,D0.lit,h1,r0⟩,q v0 rp⟩ hs
end
def inK3 (kts:List (Str×T)) (neg:Bool) (a:E3):E3:=fun σ Q X=>a σ (fun t=>ob (asS t) fun z=>Q (.bl (if neg then !(kts.lookup z).isSome else (kts.lookup z).isSome))) X
def getK3 (kts:List (Str×T)) (a:E3):E3:=fun σ Q X=>a σ (fun t=>ob (asS t) fun z=>ob (kts.lookup z) Q) X
section
variable {K:PySem.W.Frag} {c:Cf} {W:WX} {ta tb te:TE} {a b e:E3} {d:Addr} {kts:List (Str×T)} {neg:Bool}
theorem lift_inK (ha:Lift K c W ta a):Lift K c W (tOp (rInK d kts neg) ta (tC (.ref d))) (inK3 kts neg a):=by
 intro σ3 Q3 X h Hb G A σ H Q R k e
 refine ha _ _ _ h Hb G A σ H _ R (fun vx x H1 L1 rx hx=> ?_) e
 obtain ⟨z,ez,q⟩:=ob_iff.mp hx
 cases asS_is ez
 exact ⟨z,rx.strI,rfl,k _ _ H1 L1 (.bl _) q⟩
theorem lift_getK (ha:Lift K c W ta a):Lift K c W (tOp (rGetK K d kts) (tC (.ref d)) ta) (getK3 kts a):=by
 intro σ3 Q3 X h Hb G A σ H Q R k e
 refine ha _ _ _ h Hb G A σ H _ R (fun vx x H1 L1 rx hx=> ?_) e
 obtain ⟨z,ez,q⟩:=ob_iff.mp hx
 obtain ⟨tr,et,q⟩:=ob_iff.mp q
 cases asS_is ez
 exact ⟨z,tr,rfl,rx.strI,et,fun v rv=>k _ _ H1 L1 (rv _) q⟩
def dvs (l:List (Str×V)):List (Key×V):=l.map fun p=>(.inr p.1,p.2)
inductive CRep (K:PySem.W.Frag):List (Str×V)→List (Str×T)→Prop
 | nil:CRep K [] []
 | cons {x:Str} {v:V} {t:T} {l:List (Str×V)} {m:List (Str×T)} (h:∀H,Rep K H v t) (q:CRep K l m):CRep K ((x,v)::l) ((x,t)::m)
theorem CRep.look {z:Str} {dv:V} {dt:T} (hd:∀H,Rep K H dv dt):∀ {l:List (Str×V)} {m:List (Str×T)},CRep K l m→∀H,Rep K H ((l.lookup z).getD dv) ((m.lookup z).getD dt)
 | _,_,.nil=>hd
 | _,_, @CRep.cons _ x v t l m h q=>fun H=>by
   by_cases e:z=x
   · subst e
     simpa [List.lookup] using h H
   · have e':(z==x)=false:=by simpa using e
     simpa [List.lookup,e'] using q.look hd H
end
end M3
namespace M3
open PySem PySem.Spec PyProof.Rows L2
structure VeiC (w:World) (K:PySem.W.Frag) (mg:Str→Option Value) (x:Str):Prop where
 g:mg x=some (.ref ((csOf w K mg).at_ x))
 sg:PySem.W.specialIn K (.ref ((csOf w K mg).at_ x)) "__getattribute__"=some (some (.builtin "type.__getattribute__"))
 rd:PySem.W.readsIn K ((csOf w K mg).at_ x) (.type "type")=true
 fc:PySem.W.findCls K (.ref ((csOf w K mg).at_ x)) (.type "type") "__init__"=some (.val (.builtin "ValueError.__init__"))
section
variable {X:Cx} {K:PySem.W.Frag} {mg:Str→Option Value} {o e:Expr} {es:List Expr} {to te:TE} {ta:TA} {f x:Str} {p p' p1 p2 pos:Pos}
theorem pe_cinit {pl:Sem Bool} (hK:X.K=K) (hmg:X.mg=mg) (V:VeiC w K mg x) (hg:Gl X x) (ha:PA X (e::es) ta) (hdb:(x==("__debug__":Str))=false)
 (hc:eval (.Call (.Attribute (.Name x p1) "__init__" p2) (e::es) [] pos) X.env=(do
   let ov ←eval (.Name x p1) X.env
   standAt p2.atName
   let (f,first) ←holding [ov] (getMethod ov "__init__" pl)
   callWith pos f first (backTo pos (starEach (e::es) X.env)) (backToKw pos (keywordEach [] X.env))):=by rfl)
 (he:starEach (e::es) X.env=(false,eval e X.env)::starEach es X.env:=by rfl) (hpl:(backTo pos (starEach es X.env)).any (·.1)=false:=by rfl):
 PE X (.Call (.Attribute (.Name x p1) "__init__" p2) (e::es) [] pos) (tVeI K ta):=by
 subst hK hmg
 refine ⟨fun pins s σ H Q I h=> ?_⟩
 refine PySem.W.methodCall_KW (ld_glob I hg V.g ?_ hdb) hc
 refine PySem.W.method_cls I.kIn V.sg (PySem.W.cls_value I.kIn V.rd V.fc (by decide +kernel) ?_)
 show wpAny _ _ (callWith pos (Value.builtin "ValueError.__init__") [] (backTo pos (starEach (e::es) X.env)) []) _ _ _
 refine PyProof.Rows.callWith_method1 (thn (ha.run pos pins _ σ H _ (I.tok _) h) fun us s1 ⟨vs,H1,I1,r1,a,C,ws,ev,hl,T,ea,q⟩=> ?_) he hpl
 subst ev
 cases r1 with
 | @cons _ u0 _ ur ra rw'=>
   obtain rfl:u0=Value.ref a:=ra
   have hlen:ur.length≤sizeLine:=by
    have:sizeLine=16777216:=by decide
    have:=Paired.length rw'
    omega
   exact oinit_ok T I1 ea hlen fun s' J=>⟨.non,H1,J,rfl,q⟩
theorem ps_ostK (hK:X.K=K) (ho:PE X o to) (he:PE X e te) (hs:swapsWith e (some (.Attribute o f p')) pos.line X.env=pure false:=by rfl):PS X (.Assign [.Attribute o f p'] e pos) (tOst K f to te):=hK ▸ ps_ost ho he hs
end
end M3
namespace M3
open PySem PySem.Spec PyProof.Rows L2
abbrev Hd:=Value×Option Nat×(Addr→Value→Option Addr→TS)
def asEnds (i:Nat) (D:Ends):Ends:={nx:=fun σ' H'=>D.nx (σ'.set i none) H',rt:=D.rt,bk:=fun σ' H'=>D.bk (σ'.set i none) H',ct:=fun σ' H'=>D.ct (σ'.set i none) H'}
def wMix (K:PySem.W.Frag) (Wo:WX) (D:Ends):List Hd→WX
 | []=>Wo
 | (c,o,ts)::r=>fun cls d σ H=>∃b,PySem.W.exmOne K cls c=some b∧(b=true→∀a,H a=none→match o with | none=>ts a cls d D σ H | some i=>ts a cls d (asEnds i D) (σ.set i (some (.ref a))) H)∧(b=false→wMix K Wo D r cls d σ H)
inductive HdsM (X:Cx):List ExceptHandler→List Hd→Prop
 | nil:HdsM X [] []
 | bare {x:Str} {c:Value} {ts:Addr→Value→Option Addr→TS} {b₀:Stmt} {suite:List Stmt} {np pos':Pos} {hds:List ExceptHandler} {l:List Hd} (hc:Names X x c)
    (hsu:∀(a:Addr) (oe:Obj) (cls:Value) (d:Option Addr) (pn:List (Addr×Obj)),Zc cls d oe→(∃vs,oe.data= .fields vs)→PSs (X.suite a ((a,oe)::pn)) (b₀::suite) (ts a cls d)) (r:HdsM X hds l):
    HdsM X (.ExceptHandler (some (.Name x np)) none (b₀::suite) pos'::hds) ((c,none,ts)::l)
 | as {x n:Str} {i:Nat} {c:Value} {ts:Addr→Value→Option Addr→TS} {b₀:Stmt} {suite:List Stmt} {np pos':Pos} {hds:List ExceptHandler} {l:List Hd} (hN:X.N.Nodup) (hi:X.N[i]? =some n) (hln:X.env.kindOf n=some .local) (hc:Names X x c)
    (hsu:∀(a:Addr) (oe:Obj) (cls:Value) (d:Option Addr) (pn:List (Addr×Obj)),Zc cls d oe→(∃vs,oe.data= .fields vs)→PSs (X.suite a ((a,oe)::pn)) (b₀::suite) (ts a cls d)) (r:HdsM X hds l):
    HdsM X (.ExceptHandler (some (.Name x np)) (some n) (b₀::suite) pos'::hds) ((c,some i,ts)::l)
section
variable {X:Cx} {body:List Stmt} {h₀:ExceptHandler} {hds:List ExceptHandler} {l:List Hd} {pos:Pos} {tb:WX→TS} {Wo:WX}
theorem ps_try_mix (hs:X.stack=X.env::X.outer) (hf:X.env.frame=some X.env.locals) (tk:Takes X Wo)
 (hb:∀(W:WX) (pn:List (Addr×Obj)) (xe:Value→Shared→Prop),Takes (X.tr pn xe) W→PassesOwn (model X.prog X.w) X.A X.env xe→PSs (X.tr pn xe) body (tb W))
 (hh:HdsM X (h₀::hds) l):PS X (.Try body (h₀::hds) [] [] pos) (fun D σ H=>tb (wMix X.K Wo D l) D σ H):=by
 refine ⟨fun pins s σ H D I h=> ?_⟩
 have ok:=I.ok
 have fr0:X.A.frames=some (X.env::X.outer):=by rw [ok.frames,hs]
 refine wpAny_Try_except ?_
 refine wpAny_mono ((hb (wMix X.K Wo D l) (X.pn++pins) (fun e s₁=>wpAny (model X.prog X.w) X.A (noteFrame e X.env) (fun _ s₂=>wpAny (model X.prog X.w) X.A (setFlight e none) (fun _ s₃=>wpAny (model X.prog X.w) X.A (handleBy e X.env (h₀::hds)) (SP X pins D) X.xe s₃) X.xe s₂) X.xe s₁)
  (fun u s' xx=> ?_) PassesOwn.looking).run [] s σ H D (I.toTry _) h) (fun f s1 hsp=> ?_) (fun e s1 he=>he)
 · obtain ⟨a,B,sI,pins',σ',H',cls,d,rfl,J',nb,up,sky,na,os,ag,w⟩:=xx
   have J:Inv X pins σ' H' sI:=J'.ofTry ok
   have sky':Sky B (X.env::X.outer) a (Zc cls d) X.env.locals s'.heap:=by rw [←hs];exact sky
   show wpAny (model X.prog X.w) X.A (noteFrame (.ref a) X.env) _ _ _
   refine Sky.land Zc.steady fr0 hf sky' fun h3 fl3 up3=> ?_
   have J3:Inv X pins σ' H' {s' with heap:=h3}:=J.landed nb fl3.1 (up.trans up3) os ag
   obtain ⟨oe3,vs3,he3,hz3,hd3⟩:=fl3.there
   have nfr:a ∉ frs (X.env::X.outer):=fun hm=>by
    obtain ⟨_,o',e',hnf⟩:=fl3.2.2.1.mem hm
    rw [he3] at e';cases e'
    exact hnf _ hd3
   have nL:a≠X.env.locals:=fun z=>nfr (List.mem_filterMap.mpr ⟨X.env,List.mem_cons_self,by rw [hf,z]⟩)
   have nF:a ∉ X.fs:=fun hm=>by
    obtain ⟨e,he,q⟩:=List.mem_filterMap.mp hm
    exact nfr (List.mem_filterMap.mpr ⟨e,List.mem_cons_of_mem _ he,q⟩)
   have S3:=J3.suite he3 hd3 na nL nF
   have LT:PySem.W.Looks (model X.prog X.w) h3 (typeOf (.ref a)) cls:=fun A Q E s k q=>wpAny_typeOf_ref (k _ _ he3) (by rw [hz3.1];exact q)
   suffices go:∀ {hds':List ExceptHandler} {l':List Hd},HdsM X hds' l'→wMix X.K Wo D l' cls d σ' H'→wpAny (model X.prog X.w) X.A (handleBy (.ref a) X.env hds') (SP X pins D) X.xe {s' with heap:=h3} from go hh w
   intro hds' l' hk
   induction hk with
   | nil=>
     intro w
     refine wpAny_handleBy_nil ?_
     obtain ⟨k1,k2,k3,oe,vs,Tt,oT,ts',he,hz,hd,h1,hr⟩:=id fl3
     unfold PySem.passOn
     refine wpAny_bind (wpAny_field he hd h1 ?_)
     rw [if_neg (show ¬((Value.ref Tt==Value.none)=true) from by simp)]
     have fin:wpAny (model X.prog X.w) X.A (setFlight (.ref a) X.env.frame) (fun _ s4=>wpAny (model X.prog X.w) X.A (throw (.ref a):Sem Flow) (SP X pins D) X.xe s4) X.xe {s' with heap:=h3}:=by
      rw [hf]
      exact HandSPX.setFlight_upZ fl3 fun h4 hh4 up4=>wpAny_throw (tk _ _ ⟨a,B,sI,pins,σ',H',cls,d,rfl,J,nb,(up.trans up3).trans up4,.inr (.inr (by rw [hs];exact hh4)),na,os,ag,w⟩)
     first | exact wpAny_bind (wpAny_pure (wpAny_bind fin)) | exact wpAny_bind fin
   | @bare x c ts b₀ suite np pos' hds2 l2 hc hsu r ih=>
     intro w
     obtain ⟨b,hb1,hyes,hno⟩:=w
     refine wpAny_handleBy_cons (codeAny_handlers_test ?_) (by intro q;cases q)
     have LM:=PySem.W.exm_one (M:=model X.prog X.w) (J3.kIn) LT hb1
     have test:∀ {Q:Value→Shared→Prop} {E:Value→Shared→Prop},Q c {s' with heap:=h3}→wpAny (model X.prog X.w) (X.A.mark (some (.ref a))) (eval (.Name x np) X.env) Q E {s' with heap:=h3}:=fun {Q E} q=>by
      obtain ⟨hg,hdbg,hm | ⟨hm,hv,hnn⟩⟩:=hc
      · exact ld_glob (X:=X.suite a ((a,oe3)::(X.pn++pins))) S3 hg hm q hdbg
      · exact ld_blt (X:=X.suite a ((a,oe3)::(X.pn++pins))) S3 hg hm hv q hnn hdbg
     refine test (LM.here ?_)
     cases b with
     | true=>
       refine codeAny_handlers_suite ?_
       refine HandSPX.lands_againZ fl3 fun h4 fl4 up4=> ?_
       have J4:Inv X pins σ' H' {s' with heap:=h4}:=J.landed nb fl4.1 ((up.trans up3).trans up4) os ag
       obtain ⟨oe4,vs4,he4,hz4,hd4⟩:=fl4.there
       have S4:=J4.suite he4 hd4 na nL nF
       refine wpAny_mono ((hsu a oe4 cls d (X.pn++pins) hz4 ⟨_,hd4⟩).run [] _ _ H' _ S4 (hyes rfl a na)) (fun f s6 hsp=> ?_) (fun _ _ z=>False.elim z)
       cases f with
       | ret u=>
         obtain ⟨v6,σ6,H6,S6,r6,q6⟩:=hsp
         exact ⟨_,_,_,S6.unsuite ok,r6,q6⟩
       | _=>
         obtain ⟨σ6,H6,S6,q6⟩:=hsp
         exact ⟨_,_,S6.unsuite ok,q6⟩
     | false=>exact ih (hno rfl)
   | @as x n i c ts b₀ suite np pos' hds2 l2 hN hi hln hc hsu r ih=>
     intro w
     obtain ⟨b,hb1,hyes,hno⟩:=w
     refine wpAny_handleBy_cons (codeAny_handlers_test ?_) (by intro q;cases q)
     have LM:=PySem.W.exm_one (M:=model X.prog X.w) (J3.kIn) LT hb1
     have test:∀ {Q:Value→Shared→Prop} {E:Value→Shared→Prop},Q c {s' with heap:=h3}→wpAny (model X.prog X.w) (X.A.mark (some (.ref a))) (eval (.Name x np) X.env) Q E {s' with heap:=h3}:=fun {Q E} q=>by
      obtain ⟨hg,hdbg,hm | ⟨hm,hv,hnn⟩⟩:=hc
      · exact ld_glob (X:=X.suite a ((a,oe3)::(X.pn++pins))) S3 hg hm q hdbg
      · exact ld_blt (X:=X.suite a ((a,oe3)::(X.pn++pins))) S3 hg hm hv q hnn hdbg
     refine test (LM.here ?_)
     cases b with
     | true=>
       refine codeAny_handlers_suite_as ?_
       refine HandSPX.lands_againZ fl3 fun h4 fl4 up4=> ?_
       have J4:Inv X pins σ' H' {s' with heap:=h4}:=J.landed nb fl4.1 ((up.trans up3).trans up4) os ag
       obtain ⟨oe4,vs4,he4,hz4,hd4⟩:=fl4.there
       have S4:=J4.suite he4 hd4 na nL nF
       refine store_ok (X:=X.suite a ((a,oe4)::(X.pn++pins))) (v:=.ref a) S4 hN hi (.inl hln) rfl (fun s5 S5=> ?_) (.inr hln)
       refine wpAny_mono ((hsu a oe4 cls d (X.pn++pins) hz4 ⟨_,hd4⟩).run [] s5 _ H' _ S5 (hyes rfl a na)) (fun f s6 hsp=> ?_) (fun _ _ z=>False.elim z)
       have end_:∀ {σ6:L2.St} {H6:Hp} {Q:Shared→Prop},Inv (X.suite a ((a,oe4)::(X.pn++pins))) [] σ6 H6 s6→(∀s7,Inv X pins (σ6.set i none) H6 s7→Q s7)→
        wpAny (model X.prog X.w) X.A (do bindName X.env n .none;unbindBehindTheSuite X.env n pos') (fun _ s7=>Q s7) X.xe s6:=fun {σ6 H6 Q} S6 hq=>gone_ok (S6.unsuite ok) hN hi hln hq
       cases f with
       | ret u=>
         obtain ⟨v6,σ6,H6,S6,r6,q6⟩:=hsp
         exact end_ S6 fun s7 J7=>⟨_,_,_,J7,r6,q6⟩
       | _=>
         obtain ⟨σ6,H6,S6,q6⟩:=hsp
         exact end_ S6 fun s7 J7=>⟨_,_,J7,q6⟩
     | false=>exact ih (hno rfl)
 · cases f with
   | next=>
     obtain ⟨σ',H',J',q⟩:=hsp
     exact wpAny_execs_nil ⟨σ',H',J'.ofTry ok,q⟩
   | ret u=>
     obtain ⟨v,σ',H',J',r,q⟩:=hsp
     exact ⟨v,σ',H',J'.ofTry ok,r,q⟩
   | _=>
     obtain ⟨σ',H',J',q⟩:=hsp
     exact ⟨σ',H',J'.ofTry ok,q⟩
end
end M3
namespace M3
open PySem PySem.Spec L2
theorem takes_len {X:Cx} {W:WX} (t:Takes X W):Takes X (fun cls d σ H=>σ.length=X.N.length→W cls d σ H):=fun u s' ⟨a,B,sI,pins,σ,H,cls,d,e,I,nb,up,sky,na,os,ag,w⟩=>
 t u s' ⟨a,B,sI,pins,σ,H,cls,d,e,I,nb,up,sky,na,os,ag,w I.len⟩
def tFs (a:Addr) (cls:Value) (d:Option Addr) (C:Addr):List Str→TA
 | []=>tNil
 | f::fs=>tCons (tXf a cls d C f (tVar 1)) (tFs a cls d C fs)
abbrev WhyL:=List (Addr×Str×List Str)
def slotF:List Str→Option Nat
 | []=>none
 | _::_=>some 1
def tWhy (C:Addr) (s:Str) (fs:List Str) (a:Addr) (cls:Value) (d:Option Addr):TS:=tRet (tTup (tCons (tC (.str s)) (tFs a cls d C fs)))
def whyH (l:WhyL):List Hd:=l.map fun p=>(.ref p.1,slotF p.2.2,tWhy p.1 p.2.1 p.2.2)
def TTwhyF (K:PySem.W.Frag) (n:Nat) (l:WhyL) (s0:Str):(XK→Hp→VK→Prop)→Hp→VK→Prop:=fun tl H Q=>
 tl (fun cls d H'=>∀σ':L2.St,σ'.length=n→wMix K (fun _ _ _ _=>False) {nx:=fun _ _=>False,rt:=Q} (whyH l) cls d σ' H') H (fun _ H'=>tOne s0 {nx:=fun _ _=>False,rt:=Q} [] H')
theorem wMix_rt {K:PySem.W.Frag} {Wo:WX} {D D':Ends} (e:D.rt=D'.rt):∀(l:WhyL) cls d σ H,wMix K Wo D (whyH l) cls d σ H→wMix K Wo D' (whyH l) cls d σ H
 | [],cls,d,σ,H,h=>h
 | (C,s,fs)::l,cls,d,σ,H,h=>by
   obtain ⟨b,h1,h2,h3⟩:=h
   refine ⟨b,h1,fun hb a ha=> ?_,fun hb=>wMix_rt e l cls d σ H (h3 hb)⟩
   have:=h2 hb a ha
   cases fs with
   | nil=>
     show tTup _ σ H D'.rt
     rw [←e]
     exact this
   | cons f fs=>
     show tTup _ (σ.set 1 (some (.ref a))) H D'.rt
     rw [←e]
     exact this
theorem why_givesF {X:Cx} {Ng:List Str} {x a q s0:Str} {sg:Scope} {g:Addr} {cdg:Value} {j k0:Nat} {p1 p2 p3 p4 p5 p6 p7:Pos} {h₀:ExceptHandler} {hds:List ExceptHandler} {l:WhyL}
 (hh:∀s H,HdsM (cxOf C8.CX0 X.prog X.w X.K X.mg X.base Ng x sg g cdg X.A X.stack s H C8.E0).nox (h₀::hds) (whyH l)) (h0:∀f:Addr,(L2.start Ng [V.ref f])[0]? =some (some (V.ref f))):
 LamX.GivesTo X Ng x sg g cdg [.Try [.Expr (.Call (.Name a p1) [] [] p2) p3] (h₀::hds) [] [] p4,.Return (some (.Tuple [.Constant (.str s0) j p5] k0 p6)) p7] a q (TTwhyF X.K Ng.length l s0):=by
 intro f c' s H Q tl act hc h
 refine ⟨_,pss_cons (ps_try_mix (X:=(cxOf C8.CX0 X.prog X.w X.K X.mg X.base Ng x sg g cdg X.A X.stack s H C8.E0).nox)
  (tb:=fun W D σ H=>∃Ech:XK,(∀cls d σ' H',Ech cls d H'→σ'.length=Ng.length→W cls d σ' H')∧σ[0]? =some (some (.ref f))∧H c'=some (LamX.CodeO c' q)∧tl Ech H (fun _ H'=>D.nx σ H'))
  rfl rfl takes0 (fun W pn xe tk _=> ?_) (hh s H)) (pss_one (ps_ret (pe_tup (pa_cons pe_str pa_nil)))), ?_⟩
 · refine ⟨fun pins s' σ H' D I h'=> ?_⟩
   obtain ⟨Ech,hW,h1,h2,h3⟩:=h'
   have hp:=act (fun cls d σ H=>σ.length=Ng.length→W cls d σ H) pn xe Ech p1 p2 (takes_len tk) (fun cls d σ' H' z hl=>hW cls d σ' H' z hl)
   have hq:=pss_one (ps_expr (pos:=p3) hp)
   exact hq.run pins s' σ H' D I ⟨h1,h2,h3⟩
 · refine ⟨fun cls d H'=>∀σ':L2.St,σ'.length=Ng.length→wMix X.K (fun _ _ _ _=>False) {nx:=fun _ _=>False,rt:=Q} (whyH l) cls d σ' H',fun cls d σ' H' z hl=>wMix_rt (K:=X.K) (D:={nx:=fun _ _=>False,rt:=Q}) (D':={nx:=tRet (tTup (tCons (tC (V.str s0)) tNil)) {nx:=fun x H'=>Q V.non H',rt:=Q},rt:=Q}) rfl l cls d σ' H' (z σ' hl),h0 f,hc, ?_⟩
   exact h
def getFs (l:List (Str×T)):List Str→Option (List T)
 | []=>some []
 | f::fs=>(l.lookup f).bind fun t=>(getFs l fs).map (t::·)
def whyX5 (em:Value→Value→Option Bool) (x:Xn) (Q:T→Prop):WhyL→Prop
 | []=>False
 | (C,s,fs)::l=>ob (em x.cls (.ref C)) fun b=>if b=true then (fs=[]∨x.cls= .ref C)∧ob (getFs x.fs fs) fun ts=>ts.length<1000∧Q (.tup (.str s::ts)) else whyX5 em x Q l
def why5 (em:Value→Value→Option Bool) (l:WhyL) (s0:Str) (t:E3):E3:=fun σ Q _=>t σ (fun _=>Q (.tup [.str s0])) (fun x=>whyX5 em x Q l)
theorem fs_vals {K:PySem.W.Frag} {Hv H:Hp} {C a dd:Addr} {x:Xn} {vs:List (Str×V)} {σ:L2.St} (hσ:σ[1]? =some (some (.ref a))) (hd:H dd=some (.xd vs)) (hk:vs.map (·.1)=x.fs.map (·.1)) (hr:RepL K Hv (vs.map (·.2)) (x.fs.map (·.2))):
 ∀(fs:List Str) (ts:List T) (Q:List V→Hp→Prop),getFs x.fs fs=some ts→(∀ws,RepL K Hv ws ts→Q ws H)→tFs a (.ref C) (some dd) C fs σ H Q
 | [],ts,Q,e,q=>by
   cases e
   exact q [] .nil
 | f::fs,ts,Q,e,q=>by
   obtain ⟨t,e1,e2⟩:=Option.bind_eq_some_iff.mp (show (x.fs.lookup f).bind _=some ts from e)
   obtain ⟨ts',e3,rfl⟩:=Option.map_eq_some_iff.mp e2
   obtain ⟨v,ev,rv⟩:=lookup_rep hk hr e1
   refine ⟨_,hσ,rfl,rfl,dd,vs,v,rfl,hd,ev, ?_⟩
   exact fs_vals hσ hd hk hr fs ts' _ e3 fun ws r=>q (v::ws) (.cons rv r)
theorem lift_lam5 {K:PySem.W.Frag} {p cc:Addr} {P:Addr×Str} {Ts:List (Addr×Str)} {W:WX} {l:WhyL} {s0:Str} {n:Nat} (hn:1<n∨∀e∈l,e.2.2=[]) {t:XK→TE} {t3:E3} (ht:∀E:XK,Lift K (potT p cc (P::Ts)) (fun cls d _ H=>E cls d H) (t E) t3):
 Lift K (potT p cc (P::Ts)) W (LamX.tLam (P::Ts) (TTwhyF K n l s0) t) (why5 (PySem.W.exmOne K) l s0 t3):=by
 intro σ3 Q3 X h Hb G A σ H Q R k e
 refine ⟨R.inv.2,fun H1 ex tb=> ?_⟩
 have own:∀a o,H a=some o→vis o=true→H1 a=some o:=fun a o e v=>ex a o e (fun ps z=>by rw [z] at v;cases v)
 have L1:Le (potT p cc (P::Ts)) G A H H1:=by
  refine ⟨fun a o z=> ?_,fun a ha=> ?_, ?_,tb⟩
  · obtain ⟨z1,z2,z3⟩:=hid_all z
    exact hid_mk (own a o z1 z3) z2 z3
  · rcases List.mem_append.mp ha with ha | ha
    · cases eo:H a with
      | none=>exact absurd eo (R.gk a ha).2.1
      | some o=>
        rcases R.gv a ha o eo with z | z
        · cases z
        · exact own a o eo z
    · have hm:=mem_addrs.mp ha
      obtain ⟨i,hi⟩:=List.getElem?_of_mem hm
      have hl:i<A.length:=(List.getElem?_eq_some_iff.mp hi).1
      have h1:i<σ3.length:=by rw [←R.l1];exact hl
      have h2:i<σ.length:=by rw [R.l2];exact h1
      have z:=R.at_ i _ _ _ (List.getElem?_eq_getElem h1) hi (List.getElem?_eq_getElem h2)
      cases es:σ3[i] with
      | no=>rw [es] at z;cases z
      | val t=>rw [es] at z;cases z.1
      | own t=>
        rw [es] at z
        obtain ⟨b,e1,e2,q⟩:=z
        cases e1
        cases t with
        | lst xs=>obtain ⟨vs,q1,_⟩:=q;rw [q1];exact own a _ q1 rfl
        | dic xs=>obtain ⟨vs,q1,_⟩:=q;rw [q1];exact own a _ q1 rfl
        | tup xs=>obtain ⟨x,C,fs,_,_,dx,ks,q1,_⟩:=q;rw [q1];exact own a _ q1 rfl
        | kd w es=>obtain ⟨xs,q1,_⟩:=q;rw [q1];exact own a _ q1 rfl
        | _=>exact q.elim
  · obtain ⟨cs,i,n,s,h1,h2,r⟩:=R.inv.1
    exact ⟨cs,i,n,s,own _ _ h1 rfl,own _ _ h2 rfl,r⟩
 have R1:=R.le L1
 have out1:∀(s:Str) (H2:Hp) (ws:List V) (ts:List T) (a:Addr) (o:Obj),Le (potT p cc (P::Ts)) G A H1 H2→RepL K (hid ((potT p cc (P::Ts)).S G A) H2) ws ts→H2 a=none→o.dict=none→Q3 (.tup (.str s::ts))→Q (.ref a) (upd H2 a (.frz o (.tup (.str s::ws)))):=fun s H2 ws ts a o L2 rw ha hd q=>by
  have R2:=R1.le L2
  have L3:=R2.new (o:=.frz o (.tup (.str s::ws))) ha
  exact k _ _ _ ((L1.trans L2).trans L3) (.mkT (FqT.of hd (R2.newAt ha)) (.cons (.str s) (rw.mono L3.vis))) q
 refine ht _ σ3 _ _ h Hb G A σ H1 _ R1 (fun v d H2 L2 _ q=>⟨one_line,fun a o ha hd=>out1 s0 H2 [] [] a o L2 .nil ha hd q⟩) (fun cls dd x H2 L2 rx hx σ' hl=> ?_)
 have ec:x.cls=cls:=rx.1
 subst ec
 clear h
 induction l with
 | nil=>exact hx.elim
 | cons v l ih=>
   obtain ⟨C,s1,fs⟩:=v
   obtain ⟨b,hb,hy⟩:=ob_iff.mp hx
   refine ⟨b,hb,fun hb1 a _=> ?_,fun hb1=> ?_⟩
   · subst hb1
     have hy:(fs=[]∨x.cls= .ref C)∧ob (getFs x.fs fs) fun ts=>ts.length<1000∧Q3 (.tup (.str s1::ts)):=by simpa using hy
     obtain ⟨hor,hy⟩:=hy
     obtain ⟨ts,et,hlt,q⟩:=ob_iff.mp hy
     have sl:sizeLine=16777216:=by decide
     cases fs with
     | nil=>
       cases et
       exact ⟨one_line,fun b o hb hd=>out1 s1 H2 [] [] b o L2 .nil hb hd q⟩
     | cons f fs=>
       have hC:x.cls= .ref C:=by
        rcases hor with z | z
        · cases z
        · exact z
       have hn1:1<n:=by
        rcases hn with z | z
        · exact z
        · have:=z _ (List.mem_cons_self ..);cases this
       obtain ⟨_,rx2⟩:=rx
       cases dd with
       | none=>
         exfalso
         have rx2:x.fs=[]:=rx2
         rw [rx2] at et
         cases et
       | some d=>
         obtain ⟨vs,v1,v2,v3⟩:=rx2
         show tTup (tCons (tC (.str s1)) (tFs a x.cls (some d) C (f::fs))) (σ'.set 1 (some (.ref a))) H2 Q
         rw [hC]
         show tFs a (.ref C) (some d) C (f::fs) (σ'.set 1 (some (.ref a))) H2 (fun xs H3=>(V.str s1::xs).length≤sizeLine∧newT H3 (V.str s1::xs) Q)
         refine fs_vals (x:=x) (by rw [List.getElem?_set_self];rw [hl];exact hn1) (hid_some v1).1 v2 v3 (f::fs) ts _ et fun ws r=> ?_
         have hw:=r.length
         exact ⟨by show ws.length+1≤sizeLine;omega,fun b o hb hd=>out1 s1 H2 ws ts b o L2 r hb hd q⟩
   · subst hb1
     exact ih (by rcases hn with z | z;exact .inl z;exact .inr fun e he=>z e (List.mem_cons_of_mem _ he)) (by simpa using hy)
end M3
namespace M3
open PySem PySem.Spec PyProof.Rows L2
theorem oex_mk {K:PySem.W.Frag} {C:Addr} {nm q:Str} {N:Addr} {bs bm:List Value} {sn:List Str} {sub:List Value} {ab:Bool} {col:Option Bool} {dd:Option Addr} {k0 k1 k2 k3 k5:Option Value} (h:K.lookup C=some (excClassObj nm q C N bs bm true sn sub ab col dd k0 k1 k2 k3 k5 "ValueError.__new__")) (hb:PySem.HandSPX.refsVE bm=true)
 (sa:PySem.W.findIn K (.ref C) "__setattr__"=some (some (.builtin "object.__setattr__"))) (ex:PySem.W.subIn K (.ref C) (.type "BaseException")=some true) (ty:PySem.W.typeIn K (.ref C)=some (.type "type")) (kC:PySem.W.keepIn K (.ref C)=true):OexC K C:=
 ⟨⟨nm,q,N,bs,bm,sn,sub,ab,col,dd,k0,k1,k2,k3,k5,h,hb⟩,sa,ex,ty,kC⟩
end M3
namespace M3
open PySem PySem.Spec PyProof.Rows L2 LamX
structure LamD (N:List Str) (sc scope:Scope) (b:Str):Prop where
 kind:scope.kind= .function
 co:scope.isCoroutine=false
 gen:scope.isGenerator=false
 own:∀y∈scope.names,(y.2= .local→y.1=b)∧y.2≠ .cell
 nb:b ∉ N
 lb:scope.names.lookup b=some .local
 free:∀y∈scope.names,y.2= .free→sc.names.lookup y.1=some .cell∨sc.names.lookup y.1=some .free
def lamDB (N:List Str) (sc scope:Scope) (b:Str):Bool:=
 decide (scope.kind= .function)&& !scope.isCoroutine&& !scope.isGenerator&&(scope.names.all fun y=>(!decide (y.2= .local)||decide (y.1=b))&& !decide (y.2= .cell)&&(!decide (y.2= .free)||decide (sc.names.lookup y.1=some .cell)||decide (sc.names.lookup y.1=some .free)))
  && !decide (b∈N)&&decide (scope.names.lookup b=some .local)
theorem lamD_by {N:List Str} {sc scope:Scope} {b:Str} (h:lamDB N sc scope b=true):LamD N sc scope b:=by
 unfold lamDB at h
 simp only [Bool.and_eq_true,Bool.or_eq_true,Bool.not_eq_true',decide_eq_true_eq,decide_eq_false_iff_not,List.all_eq_true] at h
 obtain ⟨⟨⟨⟨⟨h1,h2⟩,h3⟩,h4⟩,h5⟩,h6⟩:=h
 refine ⟨h1,h2,h3,fun y hy=>⟨fun e=> ?_,(h4 y hy).1.2⟩,h5,h6,fun y hy e=> ?_⟩
 · rcases (h4 y hy).1.1 with z | z
   · exact absurd e z
   · exact z
 · rcases (h4 y hy).2 with (z | z) | z
   · exact absurd e z
   · exact .inl z
   · exact .inr z
theorem LamD.has {X:Cx} {N:List Str} {scope:Scope} {b:Str} (L:LamD N X.env.scope scope b) (ok:X.Ok):∀y∈scope.names,y.2= .free→∃c,X.env.cells.lookup y.1=some c:=fun y hy e=>by
 rcases L.free y hy e with k | k
 · exact ok.has _ (.inl k)
 · exact ok.has _ (.inr k)
abbrev dObj (X:Cx) (params:Arguments) (body:Expr) (scope:Scope) (t:Addr) (doc pm:Value) (c':Addr) (ctv:Value):Obj:=PySem.W.kdv_obj "<lambda>" (X.env.qual++"<lambda>") params (.expr body) scope (cloFrom X.env.cells scope.names []) (.ref t) doc pm c' ctv
section
variable {X:Cx} {pins:List (Addr×Obj)} {σ:L2.St} {H:Hp} {s:Shared}
theorem lam_makeD {Ts:List (Addr×Str)} {c P:Addr} {params:Arguments} {e0 body:Expr} {n0:Int} {scope:Scope} {pos:Pos} {Q:Value→Shared→Prop} (I:Inv X pins σ H s) (TB:TabB X.base X.mg c P) (hcode:X.env.code= .ref c)
 (hm:(P,X.env.qual++"<lambda>")∈Ts) (hu:∀p∈Ts,p.1=P→p.2=X.env.qual++"<lambda>") (hT:Tabs Ts H) (hd1:params.defaults=[e0]) (hd2:params.kw_defaults=[]) (he0:PE X e0 (tC (.int n0))) (hfree:∀y∈scope.names,y.2= .free→∃c,X.env.cells.lookup y.1=some c)
 (h:∀(f t c':Addr) (u doc pm ctv:Value) (H1:Hp) (s':Shared),Inv X pins σ H1 s'→ExtN H H1→Tabs Ts H1→s'.heap.get? f=some (dObj X params body scope t doc pm c' ctv)→H1 f=none→f ∉ frs X.stack→
   s'.heap.get? t=some (PySem.W.kdv_tup [u])→H1 t=none→t ∉ frs X.stack→H1 c'=some (CodeO c' (X.env.qual++"<lambda>"))→Q (.ref f) s'):
 wpAny (model X.prog X.w) X.A (eval (.Lambda params body scope pos) X.env) Q X.xe s:=by
 obtain ⟨ps,hP,ht,ha⟩:=hT _ hm
 refine PySem.W.kdv_lam (by rw [hd1];rfl) hd2 ?_
 rw [hd1]
 refine PySem.W.kdv_all1 (thn (he0.run pins s σ H (fun v H'=>v= .int n0∧H'=H) I ⟨rfl,rfl⟩) fun u s0 ⟨v,H0,I0,r0,ev,eH⟩=>PySem.W.kdv_all0 ?_)
 subst ev
 rw [eH] at I0
 rw [makeFunction_eq]
 simp only [List.zip_nil_right,List.filterMap_nil,List.isEmpty_nil,List.isEmpty_cons,if_true,pure_bind,Bool.false_eq_true,if_false]
 refine wpAny_bind (wpAny_newTextTuple ?_)
 have nofr:∀f,s0.heap.objs.size≤f→f ∉ frs X.stack:=fun f hf z=>by
  rcases List.mem_cons.mp (I0.stkSub _ z) with e | e
  · have h1:=I0.lt
    rw [←e] at h1
    exact Nat.lt_irrefl _ (Nat.lt_of_lt_of_le h1 hf)
  · exact I0.nofs hf e
 have nT:H s0.heap.objs.size=none:=I0.hok.fresh (Nat.le_refl _)
 have IT:Inv X pins σ H {s0 with heap:=s0.heap.push (PySem.W.kdv_tup [u])}:=I0.kept (t':=s0.toks) fun b o e=>Heap.get?_push_of_some _ e
 have gT:(s0.heap.push (PySem.W.kdv_tup [u])).get? s0.heap.objs.size=some (PySem.W.kdv_tup [u]):=Heap.get?_push_size _ rfl
 have zT:(s0.heap.push (PySem.W.kdv_tup [u])).objs.size=s0.heap.objs.size+1:=Heap.size_push ..
 have bP:(s0.heap.push (PySem.W.kdv_tup [u])).BuiltinsAt X.mg P:=TB.bm.keeps IT.bk
 have hP':(s0.heap.push (PySem.W.kdv_tup [u])).get? P=some {cls:=.none,data:=.fields ps}:=IT.hok P _ hP
 cases hc:codeAmong pos ps.toList with
 | none=>
   refine PySem.W.kdv_makeTail (mg:=X.mg) (c:=c) (P:=P) (ps:=ps) (closure_ok hfree) IT.ok.glob (IT.mod.glob.keeps IT.bk) hcode (TB.code.keeps IT.bk) hP' ht hc TB.gP bP fun c' ctv doc h' tk hx hge hlt hrec htb=> ?_
   obtain ⟨c2,oc,vs,t,e2,hoc,hd,hv⟩:=hrec
   cases e2
   replace hge:s0.heap.objs.size+1≤c':=by rw [←zT];exact hge
   have hgo:(s0.heap.push (PySem.W.kdv_tup [u])).objs.size≤c':=by rw [zT];exact hge
   have hsz:(s0.heap.push (PySem.W.kdv_tup [u])).objs.size≤h'.objs.size:=Nat.le_trans hgo (Nat.le_of_lt hlt)
   have nC:H c'=none:=IT.hok.fresh hgo
   have I1:=inv_table (t':=tk) (more:= #[rawInt pos.line,rawInt pos.col,.ref c']) (h':=h'.push (dObj X params body scope s0.heap.objs.size doc ((X.mg "__name__").getD .none) c' ctv)) IT hP
    (fun b o hb e=>Heap.get?_push_of_some _ (hx b o hb e)) (Heap.get?_push_of_some _ htb) hgo ⟨oc,vs,t,Heap.get?_push_of_some _ hoc,hd,hv⟩
   have hE:ExtN H (upd (upd H P (.tbl (ps++ #[rawInt pos.line,rawInt pos.col,.ref c']))) c' (CodeO c' (X.env.qual++"<lambda>"))):=fun b o e n=>by
    rw [upd_ne (ne_of_none e nC),upd_ne (fun z=>n ps (Option.some.inj (e.symm.trans (by rw [z];exact hP))))]
    exact e
   have eL:(ps++ #[rawInt pos.line,rawInt pos.col,.ref c']).toList=ps.toList++[rawInt pos.line,rawInt pos.col,.ref c']:=by simp
   have nTP:s0.heap.objs.size≠P:=fun z=>by rw [z,hP] at nT;cases nT
   have nTc:s0.heap.objs.size≠c':=Nat.ne_of_lt hge
   refine h h'.objs.size s0.heap.objs.size c' u doc ((X.mg "__name__").getD .none) ctv _ _ I1 hE (fun p hp=> ?_) (Heap.get?_push_size _ rfl) ?_ (nofr _ (Nat.le_trans (by rw [zT];exact Nat.le_succ _) hsz)) (Heap.get?_push_of_some _ (hx _ _ nTP gT)) ?_ (nofr _ (Nat.le_refl _)) upd_same
   · by_cases hb:p.1=P
     · rw [hu p hp hb,hb]
       refine ⟨_,by rw [upd_ne (ne_of_none hP nC),upd_same],by rw [eL];exact PySem.TriplesOk_snoc _ _ _ _ ht,fun p' cv hcv=> ?_⟩
       rw [eL] at hcv
       rcases among_app _ ht hcv with z | z
       · obtain ⟨c0,e1,e2⟩:=ha p' cv z
         exact ⟨c0,e1,hE _ _ e2 codeO_ne⟩
       · exact ⟨c',z,upd_same⟩
     · obtain ⟨ps',a1,a2,a3⟩:=hT p hp
       refine ⟨ps',by rw [upd_ne (ne_of_none a1 nC),upd_ne hb];exact a1,a2,fun p' cv hcv=> ?_⟩
       obtain ⟨c0,e1,e2⟩:=a3 p' cv hcv
       exact ⟨c0,e1,hE _ _ e2 codeO_ne⟩
   · have n1:h'.objs.size≠c':=Nat.ne_of_gt hlt
     have n2:h'.objs.size≠P:=Nat.ne_of_gt (Nat.lt_of_lt_of_le (Heap.lt_size hP') hsz)
     rw [upd_ne n1,upd_ne n2]
     exact IT.hok.fresh hsz
   · rw [upd_ne nTc,upd_ne nTP]
     exact nT
 | some cv=>
   obtain ⟨c',e,hco⟩:=ha pos cv hc
   subst e
   refine PySem.W.kdv_makeTailHit (mg:=X.mg) (c:=c) (P:=P) (ps:=ps) (closure_ok hfree) IT.ok.glob (IT.mod.glob.keeps IT.bk) hcode (TB.code.keeps IT.bk) hP' ht hc bP fun ctv doc h' tk hx hsz=> ?_
   have I1:Inv X pins σ H {s0 with heap:=h'.push (dObj X params body scope s0.heap.objs.size doc ((X.mg "__name__").getD .none) c' ctv),toks:=tk}:=IT.kept fun b o e=>Heap.get?_push_of_some _ (hx b o e)
   exact h h'.objs.size s0.heap.objs.size c' u doc ((X.mg "__name__").getD .none) ctv H _ I1 (ExtN.refl H) hT (Heap.get?_push_size _ rfl) (IT.hok.fresh hsz) (nofr _ (Nat.le_trans (by rw [zT];exact Nat.le_succ _) hsz)) (Heap.get?_push_of_some _ (hx _ _ gT)) nT (nofr _ (Nat.le_refl _)) hco
theorem lam_startD {HZ:Hp} {s1:Shared} {A:Around} {outer:List Env} {E:XK} {scope:Scope} {b:Str} {u:Value} {f c':Addr} {h₁:Heap} {tk:Nat} (I:Inv X pins σ H s) (L:LamD X.N X.env.scope scope b) (e0:Env0 X.prog X.w X.K X.mg X.base A outer s1 HZ) (hd:A.handled=none)
 (un:Un (frs X.stack) [] H HZ s.heap s1.heap) (hns:h₁.Ns s1.heap.objs.size fun y=>([(b,u)]:List (Str×Value)).reverse.lookup y) (kp:∀b o,s1.heap.get? b=some o→h₁.get? b=some o):
 Inv (lamCx X A outer s1 HZ E scope f c') [] σ HZ {s1 with heap:=h₁,toks:=tk}:=by
 have hfree:=L.has I.ok
 have cm:∀ {y c},(cloFrom X.env.cells scope.names []).lookup y=some c→X.env.cells.lookup y=some c:=fun {y c} e=>by
  rcases cloFrom_mem (PySem.mem_of_lookup e) with hm | ⟨h1,h2⟩
  · cases hm
  · obtain ⟨c1,hc⟩:=hfree _ h1 rfl
    have hc:X.env.cells.lookup y=some c1:=hc
    have e2:c=c1:=by
     rw [h2,hc]<;>rfl
    rw [e2]
    exact hc
 have look:∀ {y},scope.names.lookup y=some .free→∃c,(cloFrom X.env.cells scope.names []).lookup y=some c:=fun {y} hl=>by
  have hy:(y,NameKind.free)∈scope.names:=PySem.mem_of_lookup hl
  exact mem_lookup (cloFrom_has (cells:=X.env.cells) (acc:=[]) hy)
 have cellK:∀ {c:Addr} {v:Option Value},H c=none→s.heap.IsCell c v→h₁.IsCell c v:=fun {c v} n ⟨o,ho,hd⟩=>by
  obtain ⟨sl,q⟩:=un.any ho n (by simp)
  exact ⟨_,kp _ _ q,hd⟩
 have noA:∀b:Addr,b ∉ (lamCx X A outer s1 HZ E scope f c').ex:=fun b z=>absurd (show b∈([]:List Addr) from z) (by simp)
 refine ⟨⟨e0.mod,L.kind,rfl,rfl,Nat.le_refl _,fun y z c e1 e2=>I.ok.inj y z c (cm e1) (cm e2),fun y hy=> ?_,fun y c z _=> ?_,fun _=>hd,Around.frames_deeper e0.frames,.inr ⟨rfl,rfl⟩,fun b z=>absurd z (noA b),e0.bs,e0.bsz,fun b _ _=>noA b,
  fun b z=>absurd z (noA b),e0.funs,e0.frf⟩,
  rfl,e0.bare,Un.kept kp,⟨_,hns,fun i y v e1 e2 e3=> ?_⟩,fun y c e=> ?_,e0.hok.fresh (Nat.le_refl _),fun y c e=> ?_,fun q hq=>absurd (show q∈([]:List (Addr×Obj))++[] from hq) (by simp),e0.hok.kept kp,I.len⟩
 · have hy:scope.names.lookup y=some .cell∨scope.names.lookup y=some .free:=hy
   rcases hy with hy | hy
   · exact absurd rfl (L.own _ (PySem.mem_of_lookup hy)).2
   · exact look hy
 · have z:false=true:=z
   cases z
 · have e3:Vis scope y:=e3
   rcases e3 with k | k | k
   · have:y=b:=(L.own _ (PySem.mem_of_lookup k)).1 rfl
     have e1:X.N[i]? =some y:=e1
     rw [this] at e1
     exact absurd (List.mem_of_getElem? e1) L.nb
   · exact absurd rfl (L.own _ (PySem.mem_of_lookup k)).2
   · obtain ⟨m,hn,hl⟩:=I.loc
     have hvis:Vis X.env.scope y:=(L.free _ (PySem.mem_of_lookup k) rfl).elim (fun k=>.inr (.inl k)) (fun k=>.inr (.inr k))
     obtain ⟨w',r,q⟩:=hl i y v e1 e2 hvis
     obtain ⟨c2,h2⟩:=look k
     refine ⟨w',r,.inr ⟨.inr k,c2,h2, ?_⟩⟩
     have c1:=cm h2
     rcases q with ⟨k',_⟩ | ⟨_,c3,e',z⟩
     · have k':X.env.scope.names.lookup y=some .local:=k'
       rcases L.free _ (PySem.mem_of_lookup k) rfl with k2 | k2<;>rw [show X.env.scope.names.lookup y=_ from k2] at k'<;>cases k'
     · rw [c1] at e'
       cases e'
       exact cellK (I.freeC y _ c1) z
 · obtain ⟨w',z⟩:=I.cell y c (cm e)
   exact ⟨w',cellK (I.freeC y c (cm e)) z⟩
 · obtain ⟨v,o,ho,hd⟩:=I.cell y c (cm e)
   exact un.free c o ho (I.freeC y c (cm e)) (by simp)
theorem pe_actD {CXg:CXT} {Eg:XK} {Ng:List Str} {qg:Str} {sg:Scope} {g f t c':Addr} {cdg u doc pm ctv:Value} {params:Arguments} {body:Expr} {scope:Scope} {k i:Nat} {a b:Str} {pn:List (Addr×Obj)} {xe:Value→Shared→Prop} {W:WX} {E:XK} {tb:TE} {p1 p2:Pos}
 (I:Inv X pins σ H s) (L:LamD X.N X.env.scope scope b) (hf:s.heap.get? f=some (dObj X params body scope t doc pm c' ctv)) (hfn:H f=none) (hfr:f ∉ frs X.stack) (htt:s.heap.get? t=some (PySem.W.kdv_tup [u])) (htn:H t=none) (htr:t ∉ frs X.stack)
 (hbind:∀s',s'.heap.get? t=some (PySem.W.kdv_tup [u])→BindsTo s' (PySem.W.kdv_fn "<lambda>" (X.env.qual++"<lambda>") params (.expr body) scope (cloFrom X.env.cells scope.names []) (.ref t) doc pm (.ref c') ctv) ⟨[],[]⟩ [(b,u)])
 (tk:Takes ((cxOf CXg X.prog X.w X.K X.mg X.base Ng qg sg g cdg X.A X.stack s H Eg).tr pn xe) W) (hW:∀cls d σ' H',E cls d H'→W cls d σ' H') (hr:Room (k+1) (X.A.deeper (envOfC qg sg s.heap.objs.size g cdg)))
 (hbody:∀(A:Around) (outer:List Env) (s:Shared) (H:Hp),Room k (A.deeper (lamEnv X scope s.heap.objs.size f c'))→PE (lamCx X A outer s H E scope f c') body tb)
 (hN:Ng[i]? =some a) (hv:Vis sg a) (hd:(a==("__debug__":Str))=false:=by decide) (hcd:(a==("__classdict__":Str))=false:=by decide):
 PE ((cxOf CXg X.prog X.w X.K X.mg X.base Ng qg sg g cdg X.A X.stack s H Eg).tr pn xe) (.Call (.Name a p1) [] [] p2)
  (fun σZ HZ Q=>σZ[i]? =some (some (.ref f))∧HZ c'=some (CodeO c' (X.env.qual++"<lambda>"))∧tb σ HZ Q):=by
 refine ⟨fun pinsZ sZ σZ HZ Q IZ h=> ?_⟩
 obtain ⟨hs,hc,ht⟩:=h
 refine wpAny_Call_Name_kw (thn ((pe_var (pos:=p1) (i:=i) hN hv hd hcd).run pinsZ sZ σZ HZ (fun v H1=>v= .ref f∧H1=HZ) IZ ⟨.ref f,hs,rfl,rfl⟩) fun u1 s1 ⟨v,H1,I1,r1,q1⟩=> ?_)
 obtain ⟨ev,eH⟩:=q1
 subst ev
 rw [eH] at I1
 obtain rfl:u1=Value.ref f:=r1
 have of1:s1.heap.get? f=some (dObj X params body scope t doc pm c' ctv):=I1.base.keep f _ hf hfn hfr (fun z=>nomatch (show f∈([]:List Addr) from z))
 have ot1:s1.heap.get? t=some (PySem.W.kdv_tup [u]):=I1.base.keep t _ htt htn htr (fun z=>nomatch (show t∈([]:List Addr) from z))
 refine PySem.W.callWith_F0 ⟨_,_,_,_,of1⟩ ?_
 have un:Un (frs X.stack) [] H HZ s.heap s1.heap:=I1.base
 obtain ⟨⟨oc,vs,t2,hoc,hdc,hvc⟩,_,_⟩:=I1.hok c' _ hc
 have rc:codeAny (model X.prog X.w) (X.A.deeper (envOfC qg sg s.heap.objs.size g cdg)) (.call (.ref f) ⟨[],[]⟩) (CR (L2.CX X.prog X.w) (envOfC qg sg s.heap.objs.size g cdg::X.stack) X.prog X.w HZ s1 Q E) s1:=by
  refine PySem.W.kla_callFunE hr.depth of1 rfl L.co L.gen rfl ⟨c',oc,vs,t2,rfl,hoc,hdc,hvc⟩ ?_
  refine hbind s1 ot1 _ _ _ _ ?_
  refine wpAny_newFunctionEnv (fun y hy=>(L.own y hy).2) (fun y hy=>by rw [List.mem_singleton.mp hy];exact L.lb) (fun h₁ hns hsb=>⟨I1.nolimit.fresh _ hsb, ?_⟩) L.kind
  show codeAny _ _ (.expr body (lamEnv X scope s1.heap.objs.size f c')) _ _
  have kp:∀b o,s1.heap.get? b=some o→h₁.get? b=some o:=fun b o e=>hsb.extBut b o (Nat.ne_of_lt (Heap.lt_size e)) (Heap.get?_push_of_some _ e)
  have J:=lam_startD (A:=X.A.deeper (envOfC qg sg s.heap.objs.size g cdg)) (outer:=envOfC qg sg s.heap.objs.size g cdg::X.stack) (E:=E) (f:=f) (c':=c') (u:=u) (tk:=s1.toks+([(b,u)]:List (Str×Value)).length) I L I1.env0 hr.hd un hns kp
  refine PySem.W.kla_codeExpr (wpAny_mono ((hbody _ _ s1 HZ (hr.deeper _)).run [] _ _ HZ Q J ht) (fun v s' hq=> ?_) fun e s' hq=>hq)
  obtain ⟨w',H',J',rv,q⟩:=hq
  exact ⟨w',H',J'.os,J'.bare,J'.base,J'.hok,rv,q⟩
 have hx:Passes (L2.CX X.prog X.w) ((cxOf CXg X.prog X.w X.K X.mg X.base Ng qg sg g cdg X.A X.stack s H Eg).tr pn xe) E:=passes_call tk hW
 refine wpAny_call (codeAny_mono rc fun r s' hq=> ?_)
 cases r with
 | error e=>exact hx pinsZ σZ HZ s1 e s' I1 hq
 | ok fl=>
   cases fl with
   | ret u=>exact I1.after hq
   | next=>exact False.elim hq
   | brk=>exact False.elim hq
   | cont=>exact False.elim hq
theorem pe_lamcallD {Ts:List (Addr×Str)} {TT:(XK→Hp→VK→Prop)→Hp→VK→Prop} {x a b:Str} {g c P:Addr} {k:Nat} {pg:Arguments} {bg:List Stmt} {sg:Scope} {dV kV doc pm cdv ct oc:Value} {an od:Option Addr} {osl:Array (Option Value)} {Ng:List Str}
 {params:Arguments} {e0 body:Expr} {n0:Int} {scope:Scope} {t:XK→TE} {p lpos pos:Pos} (hg:Gl X x) (hm:X.mg x=some (.ref g)) (hk:PySem.W.keepIn X.K (.ref g)=true)
 (lk:X.K.lookup g=some ⟨oc,od,.func (PySem.W.fnOf x x pg bg sg dV kV doc pm an cdv ct),osl⟩) (hcg:PySem.W.codeIn X.K cdv x=true) (hb:L2.Binds X.K (PySem.W.fnOf x x pg bg sg dV kV doc pm an cdv ct) [a] []) (Sg:FnScope Ng [a] sg) (hNg:Ng[0]? =some a) (hva:Vis sg a)
 (hG:GivesTo X Ng x sg g cdv bg a (X.env.qual++"<lambda>") TT)
 (TB:TabB X.base X.mg c P) (hcode:X.env.code= .ref c) (hmT:(P,X.env.qual++"<lambda>")∈Ts) (hu:∀p∈Ts,p.1=P→p.2=X.env.qual++"<lambda>") (hr:Room (k+2) X.A) (L:LamD X.N X.env.scope scope b) (hd1:params.defaults=[e0]) (hd2:params.kw_defaults=[]) (he0:PE X e0 (tC (.int n0)))
 (hbind:∀(q:Str) (cl:List (Str×Addr)) (doc pm cv ctv u:Value) (t:Addr) (s':Shared),s'.heap.get? t=some (PySem.W.kdv_tup [u])→BindsTo s' (PySem.W.kdv_fn "<lambda>" q params (.expr body) scope cl (.ref t) doc pm cv ctv) ⟨[],[]⟩ [(b,u)])
 (hbody:∀(A:Around) (outer:List Env) (s:Shared) (H:Hp) (E:XK) (f c':Addr),Room k (A.deeper (lamEnv X scope s.heap.objs.size f c'))→PE (lamCx X A outer s H E scope f c') body (t E))
 (hdb:(x==("__debug__":Str))=false:=by decide) (hd:(a==("__debug__":Str))=false:=by decide) (hcd:(a==("__classdict__":Str))=false:=by decide):
 PE X (.Call (.Name x p) [.Lambda params body scope lpos] [] pos) (tLam Ts TT t):=by
 refine ⟨fun pins s σ H Q I h=> ?_⟩
 obtain ⟨hT,h⟩:=h
 refine wpAny_Call_Name_kw (ld_glob I hg hm ?_ hdb)
 refine PySem.W.callWith_K (h₀:=X.base) I.ok.mod.kin hk ?_ (by rfl) (by rfl)
 show wpAny _ _ (spliced ((false,eval (.Lambda params body scope lpos) X.env)::backTo pos (starEach [] X.env))) _ _ s
 refine Calls.spliced_cons (lam_makeD I TB hcode hmT hu hT hd1 hd2 he0 (L.has I.ok) fun f tt c' u doc' pm' ctv H1 s' I1 eN T1 hf hfn hfr htt htn htr hco=> ?_)
 refine Calls.spliced_nil ⟨I1.kIn, ?_⟩
 have rc:codeAny (model X.prog X.w) X.A (.call (.ref g) ⟨[.ref f],[]⟩) (CR C8.CX0 X.stack X.prog X.w H1 s' Q C8.E0) s':=by
  refine run_ofS (N:=Ng) (ps:=[a]) (us:=[.ref f]) (vs:=[.ref f]) lk hcg Sg hr I1.env0 (hb s' [.ref f] I1.kIn rfl) (.cons rfl .nil) rfl fun hr'=> ?_
  obtain ⟨t',ht',hq'⟩:=hG f c' s' H1 Q (fun E H' Q'=>t E σ H' Q') (fun W pn xe E p1 p2 tk hW=>pe_actD (i:=0) I1 L hf hfn hfr htt htn htr (fun s' h'=>hbind _ _ _ _ _ _ _ _ s' h') tk hW hr' (fun A outer s H hr2=>hbody A outer s H E f c' hr2) hNg hva hd hcd) hco (h H1 eN T1)
  exact ⟨t',ht'.nox,hq'⟩
 refine wpAny_call (codeAny_mono rc fun r s2 hq=> ?_)
 cases r with
 | error e=>exact (show False from hq).elim
 | ok fl=>
   cases fl with
   | ret u=>exact I1.after hq
   | next=>exact False.elim hq
   | brk=>exact False.elim hq
   | cont=>exact False.elim hq
end
end M3
namespace PySem
section
variable {M:Model} {A:Around} {E:Value→Shared→Prop} {env:Env} {s:Shared}
def compPostX (M:Model) (A:Around) (E:Value→Shared→Prop) (Q:Value→Shared→Prop) (acc:Value) (ce:Env) (r:Result) (s':Shared):Prop:=
 match r with
 | .ok _=>∃m,s'.heap.Ns ce.locals m∧∀h',Heap.SameBut ce.locals s'.heap h'→Q acc {s' with heap:=h'}
 | .error x=>∃m,s'.heap.Ns ce.locals m∧∀h',Heap.SameBut ce.locals s'.heap h'→wpAny M A (passOn "comprehension.variables-let-go" x ce:Sem Value) (fun _ _=>False) E {s' with heap:=h'}
theorem wpAny_comprehension_X {e:Expr} {scope:Scope} {pos:Pos} {newAcc first:Sem Value} {g:Comprehension} {gs:List Comprehension} {cl:List (Str×Addr)} {Q:Value→Shared→Prop}
 (hcl:clausesOf e=g::gs) (hs:∀x,foldedSetIterable g.iter env x=pure x) (hclos:closureFor scope env=pure cl)
 (hkind:scope.kind= .function) (hnames:∀x∈scope.names,x.2= .local→scope.names.lookup x.1=some .local)
 (h:wpAny M A first (fun x s₁=>wpAny M A (pyIter x) (fun it s₂=>wpAny M A newAcc (fun acc s₃=>
   wpAny M A (newFunctionEnv scope env.globals cl [] env.qual none .none (some env)) (fun cenv s₄=>
    codeAny M A (.compStart e 0 it acc {cenv with scope:=relabel scope env}) (compPostX M A E Q acc {cenv with scope:=relabel scope env}) s₄) E s₃) E s₂) E s₁) E s):
 wpAny M A (comprehension e scope env pos newAcc false first none) Q E s:=by
 unfold comprehension
 rw [hclos,hcl]
 refine wpAny_bind (wpAny_mono h (fun x s₁ h₁=>wpAny_bind (wpAny_standAt (wpAny_bind (wpAny_of_eq (hs x) (wpAny_bind (wpAny_holding (wpAny_mono h₁ (fun it s₂ h₂=>
  wpAny_standIf (wpAny_bind (wpAny_mono h₂ (fun acc s₃ h₃=>wpAny_bind (wpAny_pure (wpAny_bind (wpAny_mono h₃ (fun cenv s₄ h₄=> ?_) fun _ _ h'=>h')))) fun _ _ h'=>h')))
   fun _ _ h'=>h'))))))) fun _ _ h'=>h')
 dsimp only
 have hv:∀x∈(scope.names.filter fun x=>(x.2== .local||x.2== .cell)&&x.1 != (".0":Str)).reverse,x.2= .local→
  Env.kindOf {cenv with scope:=relabel scope env} x.1=some .local:=fun x hx hl=>lookup_relabel_local (hnames x (List.mem_filter.mp (List.mem_reverse.mp hx)).1 hl)
 refine wpAny_holding (wpAny_bind (wpAny_attempt (wpAny_holding (wpAny_run (codeAny_mono h₄ fun r s' hr=> ?_)))))
 cases r with
 | ok f=>
   obtain ⟨m,hn,hr⟩:=hr
   exact wpAny_bind (wpAny_holding (wpAny_comp_letGo (cenv:={cenv with scope:=relabel scope env}) hkind _ s' m hv hn fun h' m' _ hs'=>wpAny_pure (hr h' hs')))
 | error x=>
   obtain ⟨m,hn,hr⟩:=hr
   exact wpAny_bind (wpAny_holding (wpAny_comp_letGo (cenv:={cenv with scope:=relabel scope env}) hkind _ s' m hv hn fun h' m' _ hs'=>wpAny_mono (hr h' hs') (fun _ _ f=>f.elim) fun _ _ y=>y))
theorem noteFrame_congr {e:Value} {env env':Env} (h:env.frame=env'.frame):noteFrame e env=noteFrame e env':=by
 unfold noteFrame frameOf
 rw [h]
end
end PySem
namespace L2
open PySem PySem.Spec PyProof.Rows
theorem sans (h:Heap) (C:Addr):∃G:Heap,(∀b,b≠C→G.get? b=h.get? b)∧G.get? C=none:=by
 obtain ⟨G,g1,g2⟩:=restrict h fun b=>decide (b≠C)
 exact ⟨G,fun b hb=>g1 b (by simp [hb]),g2 C (by simp)⟩
theorem funFrames_sans {C:Addr} {B B3 h h3:Heap} (hB:∀b,b≠C→B3.get? b=B.get? b) (hh:∀b,b≠C→h3.get? b=h.get? b):∀ {l:List Env},h.FunFrames B l→(∀b∈frs l,b≠C)→h3.FunFrames B3 l
 | [],_,_=>trivial
 | env::l,x,n=>by
   obtain ⟨hk,⟨L,o,hf,hb,ho,hd⟩,hr⟩:=x
   have nL:L≠C:=n L (List.mem_filterMap.mpr ⟨env,List.mem_cons_self,hf⟩)
   exact ⟨hk,⟨L,o,hf,by rw [hB L nL];exact hb,by rw [hh L nL];exact ho,hd⟩,funFrames_sans hB hh hr fun b hb=>by
    obtain ⟨e,he,q⟩:=List.mem_filterMap.mp hb
    exact n b (List.mem_filterMap.mpr ⟨e,List.mem_cons_of_mem _ he,q⟩)⟩
theorem held_sans {C:Addr} {B B3 h h3:Heap} {l:List Env} {e L:Addr} {Z:Obj→Prop} (x:HandSPX.HeldZ B l e Z L h) (hB:∀b,b≠C→B3.get? b=B.get? b) (hC:B3.get? C=none) (hh:∀b,b≠C→h3.get? b=h.get? b)
 (n:∀b∈frs l,b≠C) {o:Obj} (ho:h.get? C=some o) (hd:∀vs,o.data≠ .fields vs):HandSPX.HeldZ B3 l e Z L h3:=by
 obtain ⟨k,ne,ff,oe,vs,T,oT,ts,he,hz,hdv,h1,nT,Te,hT,hdT,h3'⟩:=x
 have eC:e≠C:=fun q=>by rw [q,ho] at he;cases he;exact hd _ hdv
 have TC:T≠C:=fun q=>by rw [q,ho] at hT;cases hT;exact hd _ hdT
 refine ⟨fun b u q=> ?_,by rw [hB e eC];exact ne,funFrames_sans hB hh ff n,oe,vs,T,oT,ts,by rw [hh e eC];exact he,hz,hdv,h1,by rw [hB T TC];exact nT,Te,by rw [hh T TC];exact hT,hdT,h3'⟩
 have bC:b≠C:=fun z=>by rw [z,hC] at q;cases q
 rw [hB b bC] at q
 rw [hh b bC]
 exact k b u q
section
variable {X:Cx} {pins:List (Addr×Obj)} {σ:St} {H:Hp} {s s':Shared} {E:XK}
theorem fly_of_call (I:Inv X pins σ H s) {u:Value} (c:CX X.prog X.w X.stack H s E u s'):∃(a:Addr) (B:Heap) (sI:Shared) (H':Hp) (cls:Value) (d:Option Addr),
 u= .ref a∧Inv X pins σ H' sI∧(∀b o,sI.heap.get? b=some o→b ∉ frs X.stack→B.get? b=some o)∧sI.heap.UpToSlots s'.heap∧HandSPX.FlyingZ B X.stack a (Zc cls d) s'.heap∧H' a=none∧s'.os=sI.os∧AllBare s'.gens∧E cls d H':=by
 obtain ⟨a,B,H',cls,d,rfl,fl,hok,ub,na,os,ag,hE⟩:=c
 obtain ⟨G,g1,g2⟩:=restrict s'.heap fun b=>(B.get? b).isSome||decide (b∈frs X.stack)
 have st:B.StaysIn s'.heap:=fl.1
 have gB:∀b o,B.get? b=some o→G.get? b=some o:=fun b o e=>by
  rw [g1 b (by simp [e])]
  exact st b o e
 have gF:∀b,b∈frs X.stack→G.get? b=s'.heap.get? b:=fun b hb=>g1 b (by simp [hb])
 have og:∀b o,G.get? b=some o→s'.heap.get? b=some o∧((B.get? b).isSome=true∨b∈frs X.stack):=fun b o e=>by
  cases q:((B.get? b).isSome||decide (b∈frs X.stack)) with
  | false=>rw [g2 b q] at e;cases e
  | true=>
    rw [g1 b q] at e
    exact ⟨e,by simpa [Bool.or_eq_true] using q⟩
 refine ⟨a,B,{s with heap:=G,gens:=s'.gens,drawn:=s'.drawn,toks:=s'.toks},H',cls,d,rfl, ?_,fun b o e hb=> ?_,Heap.UpToSlots.of_keeps fun b o e=>(og b o e).1,fl,na,os,ag,hE⟩
 · refine I.call (ch:=[]) ⟨fun b o e n hb _=>gB b o (ub.keep b o e n hb),fun b o e n hb _=> ?_,fun b o e n _=>ub.free b o e n,fun b o e _=> ?_,ub.tups,ub.frzs,ub.tbls⟩ (hok.kept gB) ag (fun _ z=>nomatch z)
   · obtain ⟨sl,q⟩:=ub.slot b o e hb
     exact ⟨sl,by rw [gF b hb];exact q⟩
   · by_cases hb:b∈frs X.stack
     · obtain ⟨sl,q⟩:=ub.slot b o e hb
       exact ⟨_,by rw [gF b hb];exact q⟩
     · obtain ⟨o',q⟩:=ub.there b o e hb
       exact ⟨o',gB b o' q⟩
 · obtain ⟨e',h⟩:=og b o e
   rcases h with h | h
   · obtain ⟨o',q⟩:=Option.isSome_iff_exists.mp h
     have z:=st b o' q
     rw [e'] at z;cases z
     exact q
   · exact absurd h hb
end
end L2
namespace L2
open PySem PySem.Spec PyProof.Rows
section
variable {X:Cx}
theorem lc_coreX {pins:List (Addr×Obj)} {s:Shared} {σ:St} {H:Hp} {Q:VK} {elt tg iter:Expr} {ifs:List Expr} {scope:Scope} {own:List (Str×Nat)} {pos pos':Pos} {wi:TI} {g:TG} {tt:TT} {te:TE} {Qf:Value→Shared→Prop} {E:XK} {W:WX}
 (hst:X.stack=X.env::X.outer) (hfm:X.env.frame=some X.env.locals) (tk:Takes X W) (hEW:∀cls d σ H,E cls d H→W cls d σ H)
 (hc:X.calm=true) (hN:X.N.Nodup) (I:Inv X pins σ H s) (hi:PI X tg iter wi) (ok:BlkOk X.N X.env.scope scope own)
 (hg:∀(s:Shared) (H:Hp) (C:Addr) (cl:List (Str×Addr)) (fp:List Addr),PG (X.blk s H scope (compEnvC scope cl C X.env) fp) tg g) (ht:∀(s:Shared) (H:Hp) (C:Addr) (cl:List (Str×Addr)) (fp:List Addr),PTs (X.blk s H scope (compEnvC scope cl C X.env) fp) ifs tt)
 (he:∀(s:Shared) (H:Hp) (C:Addr) (cl:List (Str×Addr)) (fp:List Addr) (xe:Value→Shared→Prop),Passes (CX X.prog X.w) ((X.blk s H scope (compEnvC scope cl C X.env) fp).wish xe) E→PE ((X.blk s H scope (compEnvC scope cl C X.env) fp).wish xe) elt te) (hs:∀x,foldedSetIterable iter X.env x=pure x)
 (h:tLc wi g tt te (own.map (·.2)) σ H Q)
 (hRR:∀D C s' m H',Inv X pins σ H' s'→Q (.ref D) H'→s'.heap.Ns C m→FpOk X pins H' C→∃m,s'.heap.Ns C m∧∀h',Heap.SameBut C s'.heap h'→Qf (.ref D) {s' with heap:=h'}):
 wpAny (model X.prog X.w) X.A (comprehension (.ListComp elt [⟨tg,iter,ifs,0⟩] scope pos) scope X.env pos' (newList []) false (eval iter X.env) none) Qf X.xe s:=by
 have hfree:∀y∈scope.names,y.2= .free→∃c,X.env.cells.lookup y.1=some c:=fun y hy e=>by
  rcases ok.free y hy e with k | k
  · exact I.ok.has _ (.inl k)
  · exact I.ok.has _ (.inr k)
 refine wpAny_comprehension_X rfl hs (closure_ok hfree) ok.kind (fun y hy e=>by rw [ok.uniq y hy,e])
  (thn (hi.run pins s σ H _ I h) fun xv s1 hx=>thn hx fun itv s2 h2=> ?_)
 obtain ⟨it,fp,tn,J,H2,e,I2,T,st2,f2,q⟩:=h2
 subst e
 refine wpAny_newObj_type (newEnv_comp ?_) (by show 0≤sizeLine;decide)
 generalize hD:s2.heap.objs.size=D
 have hDn:H2 D=none:=I2.hok.fresh (Nat.le_of_eq hD)
 obtain ⟨W0,⟨m0,w0⟩,turn⟩:=q D hDn
 generalize hs3:({s2 with heap:=s2.heap.push {cls:=.type "list",data:=.seq ([]:List Value).toArray} }:Shared)=s3
 have I3:Inv X pins σ (upd H2 D (.lst [])) s3:=by
  rw [←hs3]
  refine I2.laid (t':=s2.toks) (fun b o e=>Heap.get?_push_of_some _ e) (Nat.le_of_eq hD) ⟨Nat.zero_le _,[],0,.nil, ?_⟩
  rw [←hD]
  exact Heap.get?_push_size _ rfl
 have h3:s3.heap=s2.heap.push {cls:=.type "list",data:=.seq ([]:List Value).toArray}:=by rw [←hs3]
 have sz:∀b∈fp,b<s2.heap.objs.size:=fun b hb=>by
  obtain ⟨o,e,_⟩:=T.obj _ _ st2 b hb
  exact Heap.lt_size e
 have f3:∀b∈fp,FpOk X pins (upd H2 D (.lst [])) b∧b<s3.heap.objs.size:=fun b hb=>by
  have hlt:=sz b hb
  refine ⟨⟨?_,(f2 b hb).2⟩,by rw [h3,Heap.size_push];exact Nat.lt_succ_of_lt hlt⟩
  rw [upd_ne (by rw [←hD];exact Nat.ne_of_lt hlt)]
  exact (f2 b hb).1
 have st3:tn 0 s3.heap:=T.keep _ _ _ st2 fun b _ o e=>by rw [h3];exact Heap.get?_push_of_some _ e
 have I4:=block_start I3 ok hN f3
 have pg:=hg s3 (upd H2 D (.lst [])) s3.heap.objs.size (cellsFrom (s3.heap.objs.size+1) scope.names (cloFrom X.env.cells scope.names [])) fp
 have pt:=ht s3 (upd H2 D (.lst [])) s3.heap.objs.size (cellsFrom (s3.heap.objs.size+1) scope.names (cloFrom X.env.cells scope.names [])) fp
 have pe:=he s3 (upd H2 D (.lst [])) s3.heap.objs.size (cellsFrom (s3.heap.objs.size+1) scope.names (cloFrom X.env.cells scope.names [])) fp
 show codeAny _ _ (.compStart (.ListComp elt [⟨tg,iter,ifs,0⟩] scope pos) 0 (.ref it) (.ref D) (compEnvC scope (cellsFrom (s3.heap.objs.size+1) scope.names (cloFrom X.env.cells scope.names [])) s3.heap.objs.size X.env)) (compPostX (model X.prog X.w) X.A X.xe Qf (.ref D) (compEnvC scope (cellsFrom (s3.heap.objs.size+1) scope.names (cloFrom X.env.cells scope.names [])) s3.heap.objs.size X.env)) {s3 with heap:=pushCells (s3.heap.push {cls:=.type "dict",data:=.dict #[]}) scope.names}
 have nfp:∀b∈fp,(upd H2 D (.lst [])) b=none:=fun b hb=>(f3 b hb).1.1
 generalize hce:compEnvC scope (cellsFrom (s3.heap.objs.size+1) scope.names (cloFrom X.env.cells scope.names [])) s3.heap.objs.size X.env=ce at I4 pg pt pe ⊢
 have cL:ce.locals=s3.heap.objs.size:=by subst hce;rfl
 have cF:ce.frame=X.env.frame:=by subst hce;rfl
 generalize hH3:upd H2 D (.lst [])=H3 at I3 I4 pg pt pe w0 nfp f3
 generalize hs4:({s3 with heap:=pushCells (s3.heap.push {cls:=.type "dict",data:=.dict #[]}) scope.names}:Shared)=s4 at I4 ⊢
 have st4:tn 0 s4.heap:=T.keep _ _ _ st3 fun b _ o e=>by rw [←hs4];exact pushCells_keeps _ _ _ _ (Heap.get?_push_of_some _ e)
 have stat:∀ {σ':St} {H':Hp} {s':Shared},Inv (X.blk s3 H3 scope ce fp) [] σ' H' s'→(∀b∈fp,H' b=none)→∀b∈fp,FpOk (X.blk s3 H3 scope ce fp) [] H' b:=fun {σ' H' s'} I' hn b hb=>
  ⟨hn b hb,(I'.ok.exf b hb).1,I'.ok.exfs b hb,.inl hb,fun x c e=>(I'.ok.exf b hb).2 x c e,fun p hp=>absurd (show p∈([]:List (Addr×Obj))++[] from hp) (by simp)⟩
 have home:∀ {pins':List (Addr×Obj)} {σ':St} {H5:Hp} {s6:Shared},Inv (X.blk s3 H3 scope ce fp) pins' σ' H5 s6→Inv X pins σ H5 s6∧FpOk X pins H5 s3.heap.objs.size∧∃m,s6.heap.Ns s3.heap.objs.size m:=fun {pins' σ' H5 s6} I6=>by
  have I7:Inv X pins σ H5 s6:=I3.call' (ch:=fp) I6.os I6.base I6.hok I6.bare fun b hb=>⟨(f3 b hb).1.2.2.2.1,(f3 b hb).1.2.1,(f3 b hb).1.2.2.2.2.1,(f3 b hb).1.2.2.2.2.2⟩
  have nC:H5 s3.heap.objs.size=none:=by
   have z:H5 ce.locals=none:=I6.free
   rw [cL] at z
   exact z
  obtain ⟨m,hn,_⟩:=I6.loc
  have hn:s6.heap.Ns ce.locals m:=hn
  rw [cL] at hn
  exact ⟨I7,I3.fpOk (Nat.le_refl _) nC,m,hn⟩
 have nCf:∀b∈frs X.stack,b≠s3.heap.objs.size:=fun b hb z=>by
  obtain ⟨_,o,e,_⟩:=I3.stack.mem hb
  have:=Heap.lt_size e
  rw [z] at this
  exact Nat.lt_irrefl _ this
 have thru:Passes (CX X.prog X.w) ((X.blk s3 H3 scope ce fp).wish (notedBy (model X.prog X.w) X.A ce fun e s'=>compPostX (model X.prog X.w) X.A X.xe Qf (.ref D) ce (.error e) s')) E:=by
  intro pins' σ' H' s5 u s6 I5 cx
  obtain ⟨a,B,sI,H6,cls,d,rfl,Ib,nb,up,fl,na,os,ag,hE⟩:=fly_of_call I5 cx
  have Ib':Inv (X.blk s3 H3 scope ce fp) pins' σ' H6 sI:=Ib.unwish
  show wpAny (model X.prog X.w) X.A (noteFrame (.ref a) ce) _ _ s6
  rw [noteFrame_congr cF]
  have hfr:X.A.frames=some (X.env::X.outer):=by rw [I3.ok.frames,hst]
  have fl:HandSPX.FlyingZ B X.stack a (Zc cls d) s6.heap:=fl
  rw [hst] at fl
  refine HandSPX.looks_onZ Zc.steady hfr hfm fl fun h' hh up'=> ?_
  have Il:Inv (X.blk s3 H3 scope ce fp) pins' σ' H6 {s6 with heap:=h'}:=Inv.landed (s':={s6 with heap:=h'}) Ib' nb hh.1 (up.trans up') os ag
  obtain ⟨_,fpC,m,hn⟩:=home Il
  have hn':h'.Ns s3.heap.objs.size m:=hn
  show ∃m,h'.Ns ce.locals m∧_
  rw [cL]
  refine ⟨m,hn',fun h3' sb=> ?_⟩
  obtain ⟨oC,es,ep,eC,dC,_⟩:=hn'
  have dC':∀vs,oC.data≠ .fields vs:=fun vs z=>by rw [dC] at z;cases z
  obtain ⟨B3,b1,b2⟩:=sans B s3.heap.objs.size
  obtain ⟨G3,g1,g2⟩:=sans sI.heap s3.heap.objs.size
  have hn2:∀b∈frs (X.env::X.outer),b≠s3.heap.objs.size:=by rw [←hst];exact nCf
  have hh3:=held_sans (h3:=h3') hh b1 b2 sb.2 hn2 eC dC'
  have tr:=hh3.2.2.2
  obtain ⟨oe,vs,T0,oT,ts,he0,hz,hdv,h1,_⟩:=tr
  unfold PySem.passOn
  refine wpAny_bind (wpAny_field he0 hdv h1 ?_)
  rw [if_neg (show ¬((Value.ref T0==Value.none)=true) from by simp)]
  refine wpAny_bind ?_
  rw [cF,hfm]
  refine HandSPX.setFlight_onZ hh3 fun h4 hh4 up4=> ?_
  refine wpAny_throw (tk _ _ ?_)
  obtain ⟨Io,fpo,_⟩:=home Ib'
  obtain ⟨f0,f1,f2',f3',f4',f5'⟩:=fpo
  refine ⟨a,B3,{sI with heap:=G3,toks:=sI.toks},pins,σ,H6,cls,d,rfl,Io.turned (fun b o hb e=>by rw [g1 b hb];exact e) f0 f1 f3' f4' f5',fun b o e hb=> ?_,fun b o e hd=> ?_,.inr (.inr (by rw [hst];exact hh4)),na,os,ag,hEW _ _ _ _ hE⟩
  · have e:G3.get? b=some o:=e
    have bC:b≠s3.heap.objs.size:=fun z=>by rw [z,g2] at e;cases e
    rw [g1 b bC] at e
    rw [b1 b bC]
    exact nb b o e hb
  · have e:G3.get? b=some o:=e
    have bC:b≠s3.heap.objs.size:=fun z=>by rw [z,g2] at e;cases e
    rw [g1 b bC] at e
    obtain ⟨sl,e1⟩:=(up.trans up') b o e hd
    have e2:h3'.get? b=some {o with slots:=sl}:=by rw [sb.2 b bC];exact e1
    obtain ⟨sl2,e3⟩:=up4 b _ e2 hd
    exact ⟨sl2,e3⟩
 have pe:=pe _ thru
 have loop:codeAny (model X.prog X.w) X.A (.compLoop (.ListComp elt [⟨tg,iter,ifs,0⟩] scope pos) 0 (.ref it) (.ref D) ce) (compPostX (model X.prog X.w) X.A X.xe Qf (.ref D) ce) s4:=by
  refine compLoop_any (fun n s'=>∃i H',Inv (X.blk s3 H3 scope ce fp) [] (wipe σ (own.map (·.2))) H' s'∧tn i s'.heap∧(∀b∈fp,H' b=none)∧W0 i n H') ?_ m0 ⟨0,H3,I4,st4,nfp,w0⟩
  rintro n s5 ⟨i,H5,I5,st5,n5,w5⟩
  rcases turn i n H5 w5 with ⟨stop,qq⟩ | ⟨go,Nx,hNx,step⟩
  · have td:=T.done (X.blk s3 H3 scope ce fp) rfl rfl rfl hc i [] s5 _ H5 (fun _ _=>False) I5 (stat I5 n5) st5 stop
    refine thnF td fun r s6 ⟨hr,I6⟩=> ?_
    subst hr
    obtain ⟨I7,f7,m,hn⟩:=home I6
    show ∃m,s6.heap.Ns ce.locals m∧_
    rw [cL]
    exact hRR D s3.heap.objs.size s6 m H5 I7 qq hn f7
  · have ti:=T.item (X.blk s3 H3 scope ce fp) rfl rfl rfl hc i [] s5 _ H5 (fun _ _=>False) I5 (stat I5 n5) st5 go
    refine thnF ti fun r s6 ⟨u,hr,h6⟩=> ?_
    subst hr
    refine thnF h6 fun _ s7 ⟨x,H7,I7,r7,y7,st7,n7⟩=> ?_
    have I7':=I7.pinned (stat I7 n7) (T.obj _ _ st7)
    refine thnF (pg.run _ s7 _ H7 x u _ I7' r7 (step x H7 y7)) fun _ s8 ⟨σ8,H8,I8,hw8,q8⟩=> ?_
    refine thnF (pt.run _ s8 σ8 H8 _ I8 q8) fun b s9 ⟨H9,I9,q9⟩=> ?_
    have fin:∀ {s':Shared} {H':Hp},Inv (X.blk s3 H3 scope ce fp) ([]++pinsAt fp s7.heap) σ8 H' s'→Nx H'→∃m,m<n∧∃i H',Inv (X.blk s3 H3 scope ce fp) [] (wipe σ (own.map (·.2))) H' s'∧tn i s'.heap∧(∀b∈fp,H' b=none)∧W0 i m H':=fun {s' H'} I' nx=>by
     obtain ⟨m',hm,w'⟩:=hNx H' nx
     have pin':∀b∈fp,∀o,s7.heap.get? b=some o→s'.heap.get? b=some o∧H' b=none:=fun b hb o e=>
      let z:=I'.pin (b,o) (List.mem_append_right _ (List.mem_append_right _ (mem_pinsAt hb e)))
      ⟨z.1,z.2.1⟩
     have hl:(wipe σ (own.map (·.2))).length=σ8.length:=by rw [←hw8,wipe_length]
     refine ⟨m',hm,i+1,H',(I'.unpinned (pins:=[])).weak hl (fun j v e=> ?_),T.keep _ _ _ st7 fun b hb o e=>(pin' b hb o e).1,fun b hb=> ?_,w'⟩
     · rw [←hw8] at e
       exact (wipe_some e).1
     · obtain ⟨o,e,_⟩:=T.obj _ _ st7 b hb
       exact (pin' b hb o e).2
    cases b with
    | false=>
      simp only [Bool.false_eq_true,if_false] at q9 ⊢
      exact fin I9 q9
    | true=>
      simp only [if_true] at q9 ⊢
      refine thn (pe.run _ s9 σ8 H9 _ (I9.wish _) q9) fun z s10 ⟨yv,H10,I10,r10,acc,hD10,hz10,nx⟩=> ?_
      exact app_ok (X:=X.blk s3 H3 scope ce fp) I10.unwish hD10 hz10 r10 fun s11 I11=>fin I11 nx
 exact codeAny_compStart_list loop (T.self X.A 0 _ _ _ st4 loop)
theorem pe_lcX {elt tg iter:Expr} {ifs:List Expr} {scope:Scope} {own:List (Str×Nat)} {pos:Pos} {wi:TI} {g:TG} {tt:TT} {te:TE} {E:XK} {W:WX} (hst:X.stack=X.env::X.outer) (hfm:X.env.frame=some X.env.locals) (tk:Takes X W) (hEW:∀cls d σ H,E cls d H→W cls d σ H)
 (hc:X.calm=true) (hN:X.N.Nodup) (hi:PI X tg iter wi) (ok:BlkOk X.N X.env.scope scope own)
 (hg:∀(s:Shared) (H:Hp) (C:Addr) (cl:List (Str×Addr)) (fp:List Addr),PG (X.blk s H scope (compEnvC scope cl C X.env) fp) tg g) (ht:∀(s:Shared) (H:Hp) (C:Addr) (cl:List (Str×Addr)) (fp:List Addr),PTs (X.blk s H scope (compEnvC scope cl C X.env) fp) ifs tt)
 (he:∀(s:Shared) (H:Hp) (C:Addr) (cl:List (Str×Addr)) (fp:List Addr) (xe:Value→Shared→Prop),Passes (CX X.prog X.w) ((X.blk s H scope (compEnvC scope cl C X.env) fp).wish xe) E→PE ((X.blk s H scope (compEnvC scope cl C X.env) fp).wish xe) elt te) (hs:∀x,foldedSetIterable iter X.env x=pure x:=by intro _;rfl):
 PE X (.ListComp elt [⟨tg,iter,ifs,0⟩] scope pos) (tLc wi g tt te (own.map (·.2))):=by
 refine ⟨fun pins s σ H Q I h=> ?_⟩
 rw [eval_ListComp]
 refine lc_coreX hst hfm tk hEW hc hN I hi ok hg ht he hs h fun D C s' m H' I' q hn f=>⟨m,hn,fun h'' sb=> ?_⟩
 obtain ⟨f0,f1,f2,f3,f4,f5⟩:=f
 exact ⟨.ref D,H',I'.turned (t':=s'.toks) (fun b o hb e=>(sb.2 b hb).trans e) f0 f1 f3 f4 f5,rfl,q⟩
end
end L2
set_option maxHeartbeats 200000
namespace L2
open PySem PySem.Spec PyProof.Rows
def mrgK (kvs more:List (Key×V)):List (Key×V):=more.foldl (fun m kv=>putK m kv.1 kv.2) kvs
end L2
set_option maxHeartbeats 1000000
namespace M3
open PySem PySem.Spec L2
def valT (ts:List (Key×T)) (k:Key):Option T:=(ts.find? fun kv=>decide (kv.1=k)).map (·.2)
def putT (ts:List (Key×T)) (k:Key) (v:T):List (Key×T):=
 if (ts.any fun kv=>decide (kv.1=k))=true then ts.map (fun kv=>if kv.1=k then (kv.1,v) else kv) else ts++[(k,v)]
def mrgT (ts more:List (Key×T)):List (Key×T):=more.foldl (fun m kv=>putT m kv.1 kv.2) ts
def asD:T→Option (List (Key×T))
 | .dic ts=>some ts
 | _=>none
theorem asD_is {d:T} {ts:List (Key×T)} (h:asD d=some ts):d= .dic ts:=by
 cases d<;>simp [asD] at h<;>subst h<;>rfl
def asK:T→Option Key
 | .str z=>some (.inr z)
 | .int i=>some (.inl i)
 | _=>none
section
variable {K:PySem.W.Frag} {H:Hp}
abbrev RepD (K:PySem.W.Frag) (H:Hp):List (Key×V)→List (Key×T)→Prop:=Paired fun p q=>p.1=q.1∧Rep K H p.2 q.2
theorem RepD.any {kvs:List (Key×V)} {ts:List (Key×T)} (r:RepD K H kvs ts) (k:Key):(kvs.any fun kv=>decide (kv.1=k))=ts.any fun kv=>decide (kv.1=k):=by
 induction r with
 | nil=>rfl
 | cons h _ ih=>simp only [List.any_cons,ih,h.1]
theorem RepD.app {kvs kvs':List (Key×V)} {ts ts':List (Key×T)} (r:RepD K H kvs ts) (r':RepD K H kvs' ts'):RepD K H (kvs++kvs') (ts++ts'):=by
 induction r with
 | nil=>exact r'
 | cons h _ ih=>exact .cons h ih
theorem RepD.repl {kvs:List (Key×V)} {ts:List (Key×T)} (r:RepD K H kvs ts) (k:Key) {v:V} {t:T} (rv:Rep K H v t):RepD K H (kvs.map fun kv=>if kv.1=k then (kv.1,v) else kv) (ts.map fun kv=>if kv.1=k then (kv.1,t) else kv):=by
 induction r with
 | nil=>exact .nil
 | cons h _ ih=>
   rename_i p q _ _ _
   refine .cons ?_ ih
   dsimp only
   by_cases e:p.1=k
   · have e':q.1=k:=h.1 ▸ e
     rw [if_pos e,if_pos e']
     exact ⟨h.1,rv⟩
   · have e':¬q.1=k:=h.1 ▸ e
     rw [if_neg e,if_neg e']
     exact h
theorem RepD.put {kvs:List (Key×V)} {ts:List (Key×T)} (r:RepD K H kvs ts) (k:Key) {v:V} {t:T} (rv:Rep K H v t):RepD K H (putK kvs k v) (putT ts k t):=by
 unfold putK putT
 rw [r.any k]
 split
 · exact r.repl k rv
 · exact r.app (.cons ⟨rfl,rv⟩ .nil)
theorem RepD.mrg {more:List (Key×V)} {more':List (Key×T)} (m:RepD K H more more'):∀ {kvs:List (Key×V)} {ts:List (Key×T)},RepD K H kvs ts→RepD K H (mrgK kvs more) (mrgT ts more'):=by
 induction m with
 | nil=>exact fun r=>r
 | cons h _ ih=>
   intro kvs ts r
   rename_i p q more more' _
   show RepD K H (mrgK (putK kvs p.1 p.2) more) (mrgT (putT ts q.1 q.2) more')
   rw [←h.1]
   exact ih (r.put p.1 h.2)
theorem RepD.val {kvs:List (Key×V)} {ts:List (Key×T)} (r:RepD K H kvs ts) {k:Key} {t:T} (h:valT ts k=some t):∃v,valV kvs k=some v∧Rep K H v t:=by
 induction r with
 | nil=>simp [valT] at h
 | cons e _ ih=>
   rename_i p q kvs ts _
   by_cases c:q.1=k
   · have:q.2=t:=by simpa [valT,List.find?_cons,c] using h
     subst this
     exact ⟨p.2,valV_pos (e.1.trans c),e.2⟩
   · have h':valT ts k=some t:=by simpa [valT,List.find?_cons,c] using h
     obtain ⟨v,hv,rv⟩:=ih h'
     exact ⟨v,by rw [valV_neg (fun z=>c (e.1.symm.trans z))];exact hv,rv⟩
theorem RepD.mono {H':Hp} {kvs:List (Key×V)} {ts:List (Key×T)} (r:RepD K H kvs ts) (e:Same H H'):RepD K H' kvs ts:=by
 induction r with
 | nil=>exact .nil
 | cons h _ ih=>exact .cons ⟨h.1,h.2.mono e⟩ ih
theorem repD_mk:∀ {kvs:List (Key×V)} {ts:List (Key×T)},kvs.map (·.1)=ts.map (·.1)→(∀(i:Nat) v t,(kvs.map (·.2))[i]? =some v→(ts.map (·.2))[i]? =some t→Rep K H v t)→RepD K H kvs ts
 | [],[],_,_=>.nil
 | p::kvs,q::ts,h1,h2=>by
   simp only [List.map_cons,List.cons.injEq] at h1
   exact .cons ⟨h1.1,h2 0 _ _ rfl rfl⟩ (repD_mk h1.2 fun i v t a b=>h2 (i+1) v t (by simpa using a) (by simpa using b))
 | [],_::_,h,_=>by simp at h
 | _::_,[],h,_=>by simp at h
theorem RepD.keys {kvs:List (Key×V)} {ts:List (Key×T)} (r:RepD K H kvs ts):kvs.map (·.1)=ts.map (·.1):=by
 induction r with
 | nil=>rfl
 | cons h _ ih=>simp only [List.map_cons,ih,h.1]
theorem RepD.at {kvs:List (Key×V)} {ts:List (Key×T)} (r:RepD K H kvs ts):∀(i:Nat) v t,(kvs.map (·.2))[i]? =some v→(ts.map (·.2))[i]? =some t→Rep K H v t:=by
 induction r with
 | nil=>intro i v t h;simp at h
 | cons h _ ih=>
   rename_i p q _ _ _
   intro i v t a b
   cases i with
   | zero=>
     have a:p.2=v:=by simpa using a
     have b:q.2=t:=by simpa using b
     subst a b
     exact h.2
   | succ i=>exact ih i v t (by simpa using a) (by simpa using b)
theorem Rep.dicI {v:V} {ts:List (Key×T)} (r:Rep K H v (.dic ts)):∃a o kvs,v= .ref a∧H a=some (.frz o (.dK kvs))∧RepD K H kvs ts:=by
 cases r with
 | dic h hk hr=>exact ⟨_,_,_,rfl,h.choose_spec,repD_mk hk hr⟩
def dget3 (a b:E3):E3:=fun σ Q X=>a σ (fun x=>b σ (fun y=>ob (asD x) fun ts=>ob (asK y) fun k=>ob (valT ts k) Q) X) X
theorem asK_rep {v:V} {t:T} {k:Key} (r:Rep K H v t) (h:asK t=some k):v=kV k:=by
 cases t<;>simp [asK] at h
 · subst h;exact r.intI
 · subst h;exact r.strI
theorem lift_dget {c:Cf} {W:WX} {ta tb:TE} {a b:E3} (ha:Lift K c W ta a) (hb:Lift K c W tb b):Lift K c W (tDGet ta tb) (dget3 a b):=by
 intro σ3 Q3 X h Hb G A σ H Q R k e
 refine ha _ _ _ h Hb G A σ H _ R (fun vx x H1 L1 rx hx=> ?_) e
 refine hb _ _ _ hx Hb G A σ H1 _ (R.le L1) (fun vy y H2 L2 ry hy=> ?_) (fun cls dd x H' L=>e cls dd x H' (L1.trans L))
 obtain ⟨ts,ed,h1⟩:=ob_iff.mp hy
 obtain ⟨ky,ek,h2⟩:=ob_iff.mp h1
 obtain ⟨t,ev,q⟩:=ob_iff.mp h2
 cases asD_is ed
 obtain ⟨a,o,kvs,rfl,hd,rd⟩:=(rx.mono L2.vis).dicI
 obtain ⟨v,hv,rv⟩:=rd.val ev
 exact ⟨a,v,rfl,.inl ⟨kvs,ky,.inr ⟨o,hid_same _ _ hd⟩,asK_rep ry ek,hv.symm⟩,k v t H2 (L1.trans L2) rv q⟩
def keyT:Key→T
 | .inl i=>.int i
 | .inr z=>.str z
theorem RepD.length {kvs:List (Key×V)} {ts:List (Key×T)} (r:RepD K H kvs ts):kvs.length=ts.length:=by
 induction r with
 | nil=>rfl
 | cons _ _ ih=>simp [ih]
theorem RepD.key {kvs:List (Key×V)} {ts:List (Key×T)} (r:RepD K H kvs ts) {i:Nat} {k:Key} {v:V} {d:T} (h:kvs[i]? =some (k,v)) (h':(ts.map fun kv=>keyT kv.1)[i]? =some d):d=keyT k:=by
 have e:=r.keys
 have e1:(kvs.map (·.1))[i]? =some k:=by rw [List.getElem?_map,h];rfl
 rw [e,List.getElem?_map] at e1
 rw [List.getElem?_map] at h'
 cases z:ts[i]? with
 | none=>rw [z] at h';cases h'
 | some q=>
   rw [z] at h' e1
   cases h'
   cases e1
   rfl
end
end M3
namespace L2
open PySem PySem.Spec
end L2
set_option maxHeartbeats 1000000
namespace M3
open PySem L2
end M3
set_option maxHeartbeats 1000000
namespace M3
open PySem L2
end M3
set_option maxHeartbeats 1000000
namespace LamX
open PySem PySem.Spec PyProof.Rows L2
end LamX
set_option maxHeartbeats 1000000
namespace M3
open PySem L2
end M3
set_option maxHeartbeats 1000000
namespace L2
open PySem PySem.Spec PyProof.Rows
theorem Room.units65 {k:Nat} {A:Around} (r:Room k A):A.units+65<cLine:=by have:=r.un;omega
end L2
namespace M3
open PySem L2
end M3
namespace M3
open PySem L2
end M3
namespace M3
open PySem L2
abbrev Mem:=Addr→Option T
def mset (M:Mem) (a:Addr) (t:Option T):Mem:=fun b=>if b=a then t else M b
@[simp] theorem mset_same {M:Mem} {a:Addr} {t:Option T}:mset M a t a=t:=by unfold mset;rw [if_pos rfl]
theorem mset_ne {M:Mem} {a b:Addr} {t:Option T} (h:b≠a):mset M a t b=M b:=by unfold mset;rw [if_neg h]
abbrev XM:=Xn→Mem→Prop
abbrev G4 (β:Type):=List Sl→Mem→(β→Mem→Prop)→XM→Prop
abbrev A4:=G4 (List T)
def CellRep (K:PySem.W.Frag) (Hv H:Hp) (a:Addr):T→Prop
 | .lst xs=>∃vs,H a=some (.lst vs)∧RepL K Hv vs xs
 | .dic kvs=>∃ks,H a=some (.dK ks)∧ks.map (·.1)=kvs.map (·.1)∧RepL K Hv (ks.map (·.2)) (kvs.map (·.2))
 | .ins C fs=>∃dx ks,H a=some (.ins C dx ks)∧ks.map (·.1)=fs.map (·.1)∧RepL K Hv (ks.map (·.2)) (fs.map (·.2))
 | .tup xs=>∃C d oe ks fs,xs=[.ins C fs]∧H a=some (.frz oe (.own a))∧Zc (.ref C) (some d) oe∧(∃vs,oe.data= .fields vs)∧Hv d=some (.xd ks)∧ks.map (·.1)=fs.map (·.1)∧RepL K Hv (ks.map (·.2)) (fs.map (·.2))
 | _=>False
section
variable {K:PySem.W.Frag} {Hv Hv' H H':Hp} {a:Addr} {t:T}
theorem CellRep.mono (r:CellRep K Hv H a t) (e:Same Hv Hv') (h:H' a=H a):CellRep K Hv' H' a t:=by
 cases t with
 | lst xs=>obtain ⟨vs,h1,h2⟩:=r;exact ⟨vs,h.trans h1,h2.mono e⟩
 | dic kvs=>obtain ⟨ks,h1,h2,h3⟩:=r;exact ⟨ks,h.trans h1,h2,h3.mono e⟩
 | ins C fs=>obtain ⟨dx,ks,h1,h2,h3⟩:=r;exact ⟨dx,ks,h.trans h1,h2,h3.mono e⟩
 | tup xs=>obtain ⟨C,d,oe,ks,fs,h0,h1,h2,h3,h4,h5,h6⟩:=r;exact ⟨C,d,oe,ks,fs,h0,h.trans h1,h2,h3,e _ _ h4,h5,h6.mono e⟩
 | _=>exact r.elim
theorem CellRep.obj (r:CellRep K Hv H a t):∃o,H a=some o∧vis o=true∧∀φ,o≠ .ext φ:=by
 cases t with
 | lst xs=>obtain ⟨vs,h1,_⟩:=r;exact ⟨_,h1,rfl,fun _ z=>by cases z⟩
 | dic kvs=>obtain ⟨ks,h1,_⟩:=r;exact ⟨_,h1,rfl,fun _ z=>by cases z⟩
 | ins C fs=>obtain ⟨dx,ks,h1,_⟩:=r;exact ⟨_,h1,rfl,fun _ z=>by cases z⟩
 | tup xs=>obtain ⟨_,_,_,_,_,_,h1,_⟩:=r;exact ⟨_,h1,rfl,fun _ z=>by cases z⟩
 | _=>exact r.elim
end
structure Cells (K:PySem.W.Frag) (S L:List Addr) (M:Mem) (H:Hp):Prop where
 on:∀a,a∈L↔M a≠none
 off:∀a∈L,a ∉ S
 at_:∀a t,M a=some t→CellRep K (hid (S++L) H) H a t
theorem Cells.obj {K:PySem.W.Frag} {S L:List Addr} {M:Mem} {H:Hp} (c:Cells K S L M H) {a:Addr} (h:a∈L):∃o,H a=some o∧vis o=true∧∀φ,o≠ .ext φ:=by
 cases e:M a with
 | none=>exact absurd e ((c.on a).mp h)
 | some t=>exact (c.at_ a t e).obj
abbrev nons (n:Nat):List (Option Addr):=List.replicate n none
theorem addrs_nons (n:Nat):addrs (nons n)=[]:=by
 unfold addrs
 rw [List.filterMap_replicate_of_none rfl]
theorem S_nons {c:Cf} {G L:List Addr} {n:Nat}:c.S (G++L) (nons n)=c.S0++G++L:=by
 unfold Cf.S
 rw [addrs_nons,List.append_nil,List.append_assoc]
theorem nons_of {A:List (Option Addr)} (h:∀a,a ∉ addrs A):A=nons A.length:=by
 refine List.eq_replicate_iff.mpr ⟨rfl,fun o ho=> ?_⟩
 cases o with
 | none=>rfl
 | some a=>exact absurd (mem_addrs.mpr ho) (h a)
abbrev vs4 (c:Cf) (G L:List Addr) (H:Hp):Hp:=hid (c.S0++G++L) H
theorem R3.re {K:PySem.W.Frag} {c:Cf} {Hb H:Hp} {Y:List Addr} {n:Nat} {σ3:List Sl} {σ:St} (r:R3 K c Hb Y (nons n) σ3 σ H):R3 K c H Y (nons n) σ3 σ H:=by
 refine ⟨r.inv, ?_,fun a h=>⟨rfl,(r.gk a h).2⟩,r.gv,r.nd,r.ns,r.l1,r.l2,r.at_⟩
 have e:c.S Y (nons n)=c.S0++Y:=by
  unfold Cf.S
  rw [addrs_nons,List.append_nil]
 rw [e]
 exact Same.refl _
structure R4 (K:PySem.W.Frag) (c:Cf) (Hb:Hp) (G L0 L:List Addr) (M:Mem) (σ3:List Sl) (σ:St) (H:Hp):Prop where
 r3:R3 K c H (G++L) (nons σ3.length) σ3 σ H
 base:Same (vs4 c G L0 Hb) (vs4 c G L H)
 gk:∀a∈G,H a=Hb a
 cells:Cells K (c.S0++G) L M H
section
variable {K:PySem.W.Frag} {c:Cf} {Hb H H':Hp} {G L0 L L':List Addr} {M M':Mem} {σ3:List Sl} {σ:St} {v:V} {t:T}
theorem Le.vis4 {n:Nat} (l:Le c (G++L) (nons n) H H'):Same (vs4 c G L H) (vs4 c G L H'):=by
 have:=l.vis
 rwa [S_nons] at this
theorem R4.le (r:R4 K c Hb G L0 L M σ3 σ H) (l:Le c (G++L) (nons σ3.length) H H'):R4 K c Hb G L0 L M σ3 σ H' where
 r3:=(r.r3.le l).re
 base:=Same.trans r.base l.vis4
 gk:=fun a h=>(l.own a (by simp [h])).trans (r.gk a h)
 cells:=⟨r.cells.on,r.cells.off,fun a t e=>(r.cells.at_ a t e).mono l.vis4 (l.own a (by simp [(r.cells.on a).mpr (by rw [e];intro z;cases z)]))⟩
theorem R4.rep {n:Nat} {u:V} {d:T} (h:Rep K (hid (c.S (G++L) (nons n)) H) u d):Rep K (vs4 c G L H) u d:=by rwa [S_nons] at h
theorem R4.step (r:R4 K c Hb G L0 L M σ3 σ H) (hi:c.I H') (hv:Same (vs4 c G L H) (vs4 c G L' H')) (hg:∀a∈G,H' a=H a) (hc:Cells K (c.S0++G) L' M' H'):R4 K c Hb G L0 L' M' σ3 σ H' where
 r3:=by
  have e0:∀n,hid (c.S (G++L) (nons n)) H=vs4 c G L H:=fun n=>by rw [S_nons]
  refine ⟨hi, ?_,fun a h=>⟨rfl, ?_⟩,fun a h o e=> ?_,by rw [addrs_nons];exact List.nodup_nil,(by rw [addrs_nons];intro a h;cases h),r.r3.l1,r.r3.l2, ?_⟩
  · rw [S_nons, ←List.append_assoc]
    exact Same.refl _
  · rcases List.mem_append.mp h with h | h
    · rw [hg a h]
      exact (r.r3.gk a (by simp [h])).2
    · obtain ⟨o,e,_⟩:=hc.obj h
      exact ⟨(by rw [e];intro z;cases z),fun z=>hc.off a h (by simp [z])⟩
  · rcases List.mem_append.mp h with h | h
    · exact r.r3.gv a (by simp [h]) o (by rw [←hg a h];exact e)
    · obtain ⟨o',e',v',_⟩:=hc.obj h
      rw [e'] at e
      cases e
      exact c.gV _ v'
  · intro i s o x h1 h2 h3
    have z:=r.r3.at_ i s o x h1 h2 h3
    rw [e0] at z
    rw [S_nons]
    cases s with
    | no=>exact z
    | val t=>obtain ⟨e,v,e2,q⟩:=z;exact ⟨e,v,e2,q.mono hv⟩
    | own t=>
      obtain ⟨a,e,_⟩:=z
      have:=(List.mem_replicate.mp (List.mem_of_getElem? h2)).2
      rw [this] at e
      cases e
 base:=Same.trans r.base hv
 gk:=fun a h=>(hg a h).trans (r.gk a h)
 cells:=hc
theorem R4.rebase (r:R4 K c Hb G L0 L M σ3 σ H):R4 K c H G L L M σ3 σ H:=⟨r.r3,Same.refl _,fun _ _=>rfl,r.cells⟩
theorem R4.debase {L1:List Addr} {M1:Mem} {σ1:List Sl} {σ1':St} {H1:Hp} (r1:R4 K c Hb G L0 L1 M1 σ1 σ1' H1) (r:R4 K c H1 G L1 L M σ3 σ H):R4 K c Hb G L0 L M σ3 σ H:=
 ⟨r.r3,Same.trans r1.base r.base,fun a h=>(r.gk a h).trans (r1.gk a h),r.cells⟩
theorem R4.slots {σ3':List Sl} {σ':St} {A':List (Option Addr)} (r:R4 K c Hb G L0 L M σ3 σ H) (q:R3 K c H (G++L) A' σ3' σ' H) (hA:∀a,a ∉ addrs A'):R4 K c Hb G L0 L M σ3' σ' H where
 r3:=by
  have e:=nons_of hA
  rw [q.l1] at e
  rw [e] at q
  exact q
 base:=r.base
 gk:=r.gk
 cells:=r.cells
end
def pu {β:Type} (t:G3 β):G4 β:=fun σ M Q X=>t σ (fun d=>Q d M) (fun x=>X x M)
end M3
namespace M3
open PySem L2
structure N4 where
 nx:List Sl→Mem→Prop
 rt:T→Mem→Prop
 bk:List Sl→Mem→Prop:=fun _ _=>False
 ct:List Sl→Mem→Prop:=fun _ _=>False
 xn:List Sl→Xn→Mem→Prop:=fun _ _ _=>False
abbrev S4:=N4→List Sl→Mem→Prop
structure Fin4 (K:PySem.W.Frag) (c:Cf) (Hb:Hp) (G L0 L:List Addr) (M:Mem) (H:Hp):Prop where
 inv:c.I H
 base:Same (vs4 c G L0 Hb) (vs4 c G L H)
 gk:∀a∈G,H a=Hb a
 cells:Cells K (c.S0++G) L M H
theorem R4.fin {K:PySem.W.Frag} {c:Cf} {Hb H:Hp} {G L0 L:List Addr} {M:Mem} {σ3:List Sl} {σ:St} (r:R4 K c Hb G L0 L M σ3 σ H):Fin4 K c Hb G L0 L M H:=⟨r.r3.inv,r.base,r.gk,r.cells⟩
end M3
namespace M3
open PySem L2
def cellL (M:Mem) (a:Addr):Option (List T):=(M a).bind asL
theorem cellL_is {M:Mem} {a:Addr} {xs:List T} (h:cellL M a=some xs):M a=some (.lst xs):=by
 unfold cellL at h
 cases e:M a with
 | none=>rw [e] at h;cases h
 | some t=>rw [e] at h;rw [asL_is (show asL t=some xs from h)]
section
variable {K:PySem.W.Frag} {c:Cf} {Hb H H':Hp} {G L0 L L':List Addr} {M M':Mem} {σ3:List Sl} {σ:St} {W:WX}
theorem R4.put (r:R4 K c Hb G L0 L M σ3 σ H) {a:Addr} {o:HO} {t:T} (ha:a∈L) (ho:∀φ,o≠ .ext φ) (hr:CellRep K (vs4 c G L H) (upd H a o) a t):R4 K c Hb G L0 L (mset M a (some t)) σ3 σ (upd H a o):=by
 have na:a ∉ c.S0++G:=r.cells.off a ha
 have hv:vs4 c G L (upd H a o)=vs4 c G L H:=hid_upd_in (by simp [ha])
 obtain ⟨o1,e1,_,n1⟩:=r.cells.obj ha
 refine r.step (c.st H _ (fun b hb=>upd_ne (fun z=>na (by rw [←z];simp [hb]))) (fun b φ e=> ?_) r.r3.inv) (by rw [hv];exact Same.refl _) (fun b hb=>upd_ne (fun z=>na (by rw [←z];simp [hb]))) ⟨fun b=> ?_,r.cells.off,fun b t' e=> ?_⟩
 · have:b≠a:=fun z=>by
    rw [z,e1] at e
    cases e
    exact n1 _ rfl
   rw [upd_ne this];exact e
 · by_cases z:b=a
   · subst z
     simp [ha]
   · rw [mset_ne z];exact r.cells.on b
 · show CellRep K (vs4 c G L (upd H a o)) (upd H a o) b t'
   rw [hv]
   by_cases z:b=a
   · subst z
     rw [mset_same] at e
     cases e
     exact hr
   · rw [mset_ne z] at e
     exact (r.cells.at_ b t' e).mono (Same.refl _) (upd_ne z)
theorem R4.atL (r:R4 K c Hb G L0 L M σ3 σ H) {a:Addr} {xs:List T} (h:M a=some (.lst xs)):a∈L∧∃vs,H a=some (.lst vs)∧RepL K (vs4 c G L H) vs xs:=
 ⟨(r.cells.on a).mpr (by rw [h];intro z;cases z),r.cells.at_ a _ h⟩
end
end M3
namespace M3
open PySem L2
end M3
namespace M3
open PySem L2
section
variable {K:PySem.W.Frag} {c:Cf} {Hb H H':Hp} {G L0 L L':List Addr} {M M':Mem} {σ3:List Sl} {σ:St} {W:WX}
theorem set_same {α:Type} {l:List α} {i:Nat} {x:α} (h:l[i]? =some x):l.set i x=l:=by
 apply List.ext_getElem?
 intro j
 by_cases e:i=j
 · subst e
   rw [List.getElem?_set_self (List.getElem?_eq_some_iff.mp h).1,h]
 · rw [List.getElem?_set_ne e]
theorem nons_set {n i:Nat}:(nons n).set i none=nons n:=by
 apply List.ext_getElem?
 intro j
 by_cases e:i=j
 · subst e
   by_cases hl:i<n
   · rw [List.getElem?_set_self (by simpa using hl)]
     simp [hl]
   · rw [List.getElem?_eq_none (by simpa using Nat.le_of_not_lt hl),List.getElem?_eq_none (by simpa using Nat.le_of_not_lt hl)]
 · rw [List.getElem?_set_ne e]
def thaw4 (M:Mem) (σ:List Sl) (i:Nat):Option (List Sl×Mem):=match σ[i]? with
 | some (.val (.ref a))=>(cellL M a).map fun xs=>(σ.set i (.val (.lst xs)),mset M a none)
 | _=>none
theorem R4.thaw (r:R4 K c Hb G L0 L M σ3 σ H) {i:Nat} {p:List Sl×Mem} (h:thaw4 M σ3 i=some p):∃L',R4 K c Hb G L0 L' p.2 p.1 σ H:=by
 unfold thaw4 at h
 split at h
 · rename_i a ea
   cases ex:cellL M a with
   | none=>rw [ex] at h;cases h
   | some xs=>
     rw [ex] at h
     cases h
     obtain ⟨ma,vs,h1,h2⟩:=r.atL (cellL_is ex)
     have sub:∀b∈L.filter (fun b=>decide (b≠a)),b∈L:=fun b hb=>(List.mem_filter.mp hb).1
     have hv:Same (vs4 c G L H) (vs4 c G (L.filter fun b=>decide (b≠a)) H):=hid_mono fun b hb=>by
      rcases List.mem_append.mp hb with hb | hb
      · exact List.mem_append.mpr (.inl hb)
      · exact List.mem_append.mpr (.inr (sub b hb))
     have R1:R4 K c Hb G L0 (L.filter fun b=>decide (b≠a)) (mset M a none) σ3 σ H:=by
      refine r.step r.r3.inv hv (fun _ _=>rfl) ⟨fun b=> ?_,fun b hb=>r.cells.off b (sub b hb),fun b t e=> ?_⟩
      · by_cases z:b=a
        · subst z;simp
        · rw [mset_ne z,List.mem_filter]
          simp [z,r.cells.on b]
      · by_cases z:b=a
        · subst z;rw [mset_same] at e;cases e
        · rw [mset_ne z] at e
          exact (r.cells.at_ b t e).mono hv rfl
     refine ⟨L.filter fun b=>decide (b≠a), ?_⟩
     obtain ⟨v,hσ,rv⟩:=R1.r3.get ea
     cases rv.refI
     have nS:a ∉ c.S0++G++L.filter fun b=>decide (b≠a):=fun z=>by
      rcases List.mem_append.mp z with z | z
      · exact r.cells.off a ma z
      · simpa using (List.mem_filter.mp z).2
     have rl:Rep K (hid (c.S (G++L.filter fun b=>decide (b≠a)) (nons σ3.length)) H) (.ref a) (.lst xs):=by
      rw [S_nons]
      exact .mkL (hid_mk h1 nS) (h2.mono hv)
     have q:=R1.r3.set i rl
     rw [set_same hσ,nons_set] at q
     exact R1.slots q (by intro b hb;rw [addrs_nons] at hb;cases hb)
 · cases h
end
end M3
namespace M3
open PySem L2
end M3
namespace M3
open PySem L2
def tFzD (te:TE):TE:=fun σ H Q=>te σ H fun x H1=>∃p kvs,x= .ref p∧H1 p=some (.dK kvs)∧∀o,Q x (upd H1 p (.frz o (.dK kvs)))
theorem pe_fzD {X:Cx} {e:Expr} {te:TE} (h:PE X e te):PE X e (tFzD te):=by
 constructor
 intro pins s σ H Q I hq
 refine thn (h.run pins s σ H _ I hq) ?_
 rintro v s1 ⟨x,H1,I1,r1,p,kvs,rfl,hp,q⟩
 have ok:=I1.hok p _ hp
 obtain ⟨z,y,vs,rel,o,es,ep,eo,ro⟩:=id ok
 refine ⟨.ref p,upd H1 p (.frz o (.dK kvs)), ?_,r1,q o⟩
 have:=I1.write (x:=p) (e:=p) (o:=.frz o (.dK kvs)) (h':=s1.heap) (t':=s1.toks) (by rw [hp];exact trivial) (.inl rfl) (fun b u _ e=>e) ⟨o,eo⟩ ⟨eo,z,y,vs,rel,o,es,ep,eo,ro⟩
 exact this
structure FrK (K:PySem.W.Frag) (c:Cf) (G:List Addr) (A:List (Option Addr)) (H H':Hp) (D:Addr) (kvs:List (Key×V)) (ts:List (Key×T)):Prop where
 nD:D ∉ c.S G A
 vis:Same (hid (c.S G A) H) (hid (D::c.S G A) H')
 own:∀a∈G++addrs A,H' a=H a
 inv:c.I H'
 at_:H' D=some (.dK kvs)
 key:kvs.map (·.1)=ts.map (·.1)
 rep:RepL K (hid (D::c.S G A) H') (kvs.map (·.2)) (ts.map (·.2))
def LiftFrK (K:PySem.W.Frag) (c:Cf) (W:WX) (te:TE) (t:E3):Prop:=
 ∀σ3 Q3 X,t σ3 Q3 X→∀Hb G A σ H Q,R3 K c Hb G A σ3 σ H→
  (∀D kvs ts H',FrK K c G A H H' D kvs ts→Q3 (.dic ts)→Q (.ref D) H')→
  (∀cls dd x H',Le c G A H H'→XRep K (hid (c.S G A) H') cls dd x→X x→W cls dd σ H')→te σ H Q
section
variable {K:PySem.W.Frag} {c:Cf} {W:WX} {te:TE} {t:E3} {Hb H H':Hp} {G:List Addr} {A:List (Option Addr)} {σ3:List Sl} {σ:St}
theorem rep_dic {Hv:Hp} {a:Addr} {o:Obj} {kvs:List (Key×V)} {ts:List (Key×T)} (h:Hv a=some (.frz o (.dK kvs))) (hk:kvs.map (·.1)=ts.map (·.1)) (r:RepL K Hv (kvs.map (·.2)) (ts.map (·.2))):Rep K Hv (.ref a) (.dic ts):=.dic ⟨o,h⟩ hk fun i v t e1 e2=>r.at e1 e2
theorem lift_fzD (h:LiftFrK K c W te t):Lift K c W (tFzD te) t:=by
 intro σ3 Q3 X ht Hb G A σ H Q R k e
 refine h _ _ _ ht Hb G A σ H _ R (fun D kvs ts H' f q=>⟨D,kvs,rfl,f.at_,fun o=> ?_⟩) e
 have sm:Same (hid (D::c.S G A) H') (hid (c.S G A) (upd H' D (.frz o (.dK kvs)))):=fun a u z=>by
  obtain ⟨z1,z2⟩:=hid_some z
  have na:a≠D:=fun y=>z2 (by rw [y];exact List.mem_cons_self ..)
  exact hid_mk (by rw [upd_ne na];exact z1) (fun y=>z2 (List.mem_cons_of_mem _ y)) (hid_vis z)
 have l:Le c G A H (upd H' D (.frz o (.dK kvs))):=by
  refine ⟨Same.trans f.vis sm,fun a ha=> ?_,c.st H' _ (fun a ha=>upd_ne fun z=>f.nD (mem_S.mpr (.inl (by rw [←z];exact ha)))) (fun a φ z=> ?_) f.inv⟩
  · rw [upd_ne fun z=>f.nD (mem_S.mpr (by rw [←z];rcases List.mem_append.mp ha with z | z;exact .inr (.inl z);exact .inr (.inr z)))]
    exact f.own a ha
  · rw [upd_ne fun y=>by rw [y,f.at_] at z;cases z];exact z
 exact k _ _ _ l (rep_dic (hid_mk upd_same f.nD) f.key (f.rep.mono sm)) q
inductive PsR (K:PySem.W.Frag) (c:Cf) (W:WX):List (TE×TE)→List (Str×E3)→Prop
 | nil:PsR K c W [] []
 | cons {k:Str} {te:TE} {e:E3} {ps:List (TE×TE)} {es:List (Str×E3)} (h:Lift K c W te e) (q:PsR K c W ps es):PsR K c W ((tC (.str k),te)::ps) ((k,e)::es)
def vals3:List (Str×E3)→A3
 | []=>nil3
 | (_,e)::es=>cons3 e (vals3 es)
def disp3 (es:List (Str×E3)):E3:=fun σ Q X=>vals3 es σ (fun ds=>es.length≤15∧Q (.dic (mrgT [] (((es.map (·.1)).zip ds).map fun p=>(.inr p.1,p.2))))) X
theorem zipK {Hv:Hp}:∀ {ks:List Str} {vs:List V} {ds:List T},ks.length=ds.length→RepL K Hv vs ds→RepD K Hv ((ks.zip vs).map fun p=>(.inr p.1,p.2)) ((ks.zip ds).map fun p=>(.inr p.1,p.2))
 | [],_,_,_,_=>by simp;exact .nil
 | _::_,_,[],h,_=>by simp at h
 | _::ks,_,_::ds,h,.cons r rs=>.cons ⟨rfl,r⟩ (zipK (by simpa using h) rs)
theorem rep_off {S:List Addr} {Hx:Hp} {p:Addr} {kvs:List (Key×V)} (hp:Hx p=some (.dK kvs)) {v:V} {d:T} (r:Rep K (hid S Hx) v d):Rep K (hid (p::S) Hx) v d:=by
 have off:∀a o,hid S Hx a=some o→(∀k,o≠ .dK k)→hid (p::S) Hx a=some o:=fun a o z n=>by
  obtain ⟨z1,z2⟩:=hid_some z
  exact hid_mk z1 (fun y=>by
   rcases List.mem_cons.mp y with y | y
   · rw [y,hp] at z1;cases z1;exact n _ rfl
   · exact z2 y) (hid_vis z)
 induction r with
 | non=>exact .non
 | bl b=>exact .bl b
 | int i=>exact .int i
 | str x=>exact .str x
 | ty n=>exact .ty n
 | ref a=>exact .ref a
 | tup h hl _ ih=>
   refine .tup ?_ hl ih
   rcases h with ⟨o,d,e⟩ | h
   · exact .inl ⟨o,d,off _ _ e fun k z=>by cases z⟩
   · exact .inr h
 | lst h hl _ ih=>exact .lst (off _ _ h fun k z=>by cases z) hl ih
 | dic h hk _ ih=>exact .dic (let ⟨o,q⟩:=h; ⟨o,off _ _ q fun k z=>by cases z⟩) hk ih
 | ins h hk _ ih=>exact .ins (off _ _ h fun k z=>by cases z) hk ih
theorem lift_frDisp {ps:List (TE×TE)} {es:List (Str×E3)} (h:PsR K c W ps es):LiftFrK K c W (tDisp ps) (disp3 es):=by
 intro σ3 Q3 X hq Hb G A σ H Q R k e p hp
 have L0:=R.new (o:=.dK []) hp
 have R0:=R.le L0
 have nP:p ∉ c.S G A:=R.free hp
 have go:∀ {ps:List (TE×TE)} {es:List (Str×E3)},PsR K c W ps es→∀(Q3:List T→Prop) (H1:Hp),Le c G A (upd H p (.dK [])) H1→vals3 es σ3 Q3 X→∀(Q:List (V×V)→Hp→Prop),
  (∀vs ds H',Le c G A H1 H'→RepL K (hid (c.S G A) H') vs ds→ds.length=es.length→Q3 ds→Q (((es.map (·.1)).zip vs).map fun q=>(.str q.1,q.2)) H')→tPairs ps σ H1 Q:=by
  intro ps es hps
  induction hps with
  | nil=>intro Q3 H1 l hq Q kk;exact kk [] [] H1 (Le.refl l.inv) .nil rfl hq
  | @cons kx te ex ps es hx hps ih=>
    intro Q3 H1 l hq Q kk
    show te σ H1 _
    refine hx _ _ _ hq Hb G A σ H1 _ (R0.le l) (fun v d H2 l2 rv q2=> ?_) (fun cls dd x H' l' r q=>e cls dd x H' ((L0.trans l).trans l') r q)
    refine ih _ H2 (l.trans l2) q2 _ (fun vs ds H3 l3 rs hl q3=> ?_)
    exact kk (v::vs) (d::ds) H3 (l2.trans l3) (.cons (rv.mono l3.vis) rs) (by simp [hl]) q3
 refine go h _ _ (Le.refl L0.inv) hq _ (fun vs ds H' l rs hl q=> ?_)
 have at1:H' p=some (.dK []):=(hid_some (l.vis _ _ (R.newAt (o:=.dK []) hp))).1
 have kl:(es.map (·.1)).length=ds.length:=by rw [List.length_map,hl]
 have lv:=rs.length
 refine ⟨at1,((es.map (·.1)).zip vs).map fun q=>(.inr q.1,q.2),by rw [List.map_map];rfl,by simp;omega, ?_⟩
 have sm:Same (hid (c.S G A) H) (hid (p::c.S G A) (upd H' p (.dK (mergeK [] (((es.map (·.1)).zip vs).map fun q=>(.inr q.1,q.2)))))):=by
  rw [hid_upd_in (List.mem_cons_self ..)]
  intro a u z
  obtain ⟨z1,z2⟩:=hid_some z
  have na:a≠p:=fun y=>by rw [y,hp] at z1;cases z1
  have:=(hid_some (l.vis _ _ (L0.vis _ _ z))).1
  exact hid_mk this (fun y=>by
   rcases List.mem_cons.mp y with y | y
   · exact na y
   · exact z2 y) (hid_vis z)
 have hv:hid (p::c.S G A) (upd H' p (.dK (mergeK [] (((es.map (·.1)).zip vs).map fun q=>(.inr q.1,q.2)))))=hid (p::c.S G A) H':=hid_upd_in (List.mem_cons_self ..)
 have rs2:RepL K (hid (p::c.S G A) H') vs ds:=Paired.mapP rs fun _ _ z=>rep_off at1 z
 have rd:RepD K (hid (p::c.S G A) H') (mergeK [] (((es.map (·.1)).zip vs).map fun q=>(.inr q.1,q.2))) (mrgT [] (((es.map (·.1)).zip ds).map fun q=>(.inr q.1,q.2))):=RepD.mrg (zipK kl rs2) .nil
 refine k p _ _ _ ⟨nP,sm,fun a ha=> ?_,c.st H' _ (fun a ha=>upd_ne fun z=>nP (mem_S.mpr (.inl (by rw [←z];exact ha)))) (fun a φ z=> ?_) l.inv,upd_same,rd.keys, ?_⟩ q.2
 · rw [upd_ne fun z=>nP (mem_S.mpr (by rw [←z];rcases List.mem_append.mp ha with z | z;exact .inr (.inl z);exact .inr (.inr z)))]
   exact ((L0.trans l).own a ha)
 · rw [upd_ne fun y=>by rw [y,at1] at z;cases z];exact z
 · rw [hv]
   exact repL_mk (by have:=congrArg List.length rd.keys;simpa using this) rd.at
end
end M3
namespace PySem.SeqAt
open AutoSeq1 (wpAny_loadPart')
open MeetsSeq MeetsSeq2 MeetsSeq3 SeqRoads2
end PySem.SeqAt
namespace M3
open PySem L2
end M3
namespace M3
open PySem L2
def flatV (t:T):Bool:=match t with
 | .dic _=>false
 | .tup _=>false
 | _=>true
end M3
namespace M3
open PySem L2
end M3
namespace M3
open PySem L2
end M3
namespace M3
open PySem L2 PySem.Froz PyProof.Rows
structure TxS (P:Program) (w:World) (D:SD) (l:List Str):Prop where
 ok:TxOk P w D l
 nd:l.Nodup
 ris:Ris D.2.2.place.toList
 led:w.params.followText "set-order"=true∨D.2.2.led=true
end M3
namespace M3
open PySem L2 PySem.Froz PyProof.Rows
end M3
namespace M3
open PySem L2 PySem.Froz PyProof.Rows
end M3
namespace M3
open PySem L2 PySem.Froz PyProof.Rows PySem.Spec
end M3
namespace M3
open PySem L2 PySem.Froz PyProof.Rows
end M3
namespace M3
open PySem PySem.Spec PySem.Froz PyProof.Rows L2
end M3
namespace M3
open PySem L2
end M3
namespace M3
open PySem PySem.Spec PyProof.Rows L2
def IteG (K:PySem.W.Frag) (k:Kd):It:=
 ⟨fun i H=>∃(xs:List V) (x:V),k.has K H xs∧xs[i]? =some x,fun i H v H'=>∃Tt x,v= .ref Tt∧H Tt=none∧H'=upd H Tt (.tup [.int (i:Nat),x])∧∀xs,k.has K H xs→xs[i]? =some x,fun i H=>∃xs:List V,k.has K H xs∧i=xs.length⟩
theorem turn_enumG {P:Program} {w:World} {K:PySem.W.Frag} {elts:List Expr} {kk:Nat} {tpos:Pos} {e it:Addr} {k:Kd} (n1:k.ne it) (hne:e≠it) (hef:e ∉ k.fp it):
 Turn P w K (.Tuple elts kk tpos) (IteG K k) [e,it] e (fun i h=>(∃old,IsEnum h e it ((i:Nat):Int) old)∧k.tn it i h) where
 mem:=by simp
 obj:=fun i h st b hb=>by
  obtain ⟨⟨old,he⟩,t1⟩:=st
  have e':b=e∨b=it:=by simpa using hb
  rcases e' with z | z
  · rw [z];exact ⟨_,he,fun v q=>nomatch q⟩
  · rw [z];exact k.obj t1
 keep:=fun i h h' st kp=>by
  obtain ⟨⟨old,he⟩,t1⟩:=st
  exact ⟨⟨old,kp e (by simp) _ he⟩,k.keep t1 (kp it (by simp))⟩
 item:=by
  intro X hP hw hK hc i pins s σ H E I hf st hg
  subst hP hw hK
  obtain ⟨⟨old,he⟩,t1⟩:=st
  obtain ⟨xs,x,hqx,hx⟩:=hg
  obtain ⟨P1,St1,D1,st1,pr1,to1⟩:=k.draws I hqx n1 t1
  have hh:=I.ok.hd hc
  have l1:i<xs.length:=(List.getElem?_eq_some_iff.mp hx).1
  have hel:e<s.heap.objs.size:=Heap.lt_size he
  have hil:it<s.heap.objs.size:=by obtain ⟨_,q,_⟩:=k.obj t1;exact Heap.lt_size q
  refine wpAny_pyNext_enum_itemD (D1 _ (by simpa using hh)) he st1 l1 hne hef fun u h' tk p1 ho s1' hT hsz hk=> ?_
  obtain ⟨xx,ex,ru⟩:=pr1 i u p1
  rw [hx] at ex
  cases ex
  refine ⟨_,rfl,wpAny_letOwnedTupleGo_enum (s:={s with heap:=h',toks:=tk+1}) ho fun h'' he' sb=> ?_⟩
  have hT2:h''.get? s.heap.objs.size=some {cls:=.type "tuple",data:=.seq #[.int i tk,u]}:=(sb.2 _ (Nat.ne_of_gt hel)).trans hT
  have new:ObjOk X.prog X.w (upd H s.heap.objs.size (.tup [.int (i:Nat),x])) h'' s.heap.objs.size (.tup [.int (i:Nat),x]):=
   ⟨by show 2≤sizeLine;decide,[.int i tk,u],.cons ⟨_,rfl⟩ (.cons ru .nil),⟨_,hT2,rfl,_,rfl⟩⟩
  have I1:Inv X pins σ (upd H s.heap.objs.size (.tup [.int (i:Nat),x])) {s with heap:=h'',toks:=tk+1}:=
   I.turnedNew (ch:=[e,it]) (fun b ob hb q=>(sb.2 b (fun z=>hb (by simp [z]))).trans (hk b ob (fun z=>hb (by simp [z])) (fun z=>hb (by simp [z])) q)) hf (Nat.le_refl _) new
  refine ⟨.ref s.heap.objs.size,_,I1,rfl,⟨_,x,rfl,I.hok.fresh (Nat.le_refl _),rfl,fun ys hy=>by rw [k.inj I hy hqx];exact hx⟩,⟨⟨u, ?_⟩, ?_⟩,fun b hb=> ?_⟩
  · have e1:((i+1:Nat):Int)=(i:Int)+1:=by omega
    rw [e1];exact he'
  · exact k.keep (to1 _ _ s1') fun o q=>(sb.2 it (Ne.symm hne)).trans q
  · have hb':b<s.heap.objs.size:=by
     have e':b=e∨b=it:=by simpa using hb
     rcases e' with z | z
     · rw [z];exact hel
     · rw [z];exact hil
    rw [upd_ne (Nat.ne_of_lt hb')]
    exact (hf b hb).1
 done:=by
  intro X hP hw hK hc i pins s σ H E I hf st hg
  subst hP hw hK
  obtain ⟨⟨old,he⟩,t1⟩:=st
  obtain ⟨xs,hq,rfl⟩:=hg
  obtain ⟨P1,St1,D1,st1,pr1,to1⟩:=k.draws I hq n1 t1
  have hh:=I.ok.hd hc
  obtain ⟨f0,f1,f2,f3,f4,f5⟩:=hf it (by simp)
  exact wpAny_pyNext_enum_endD (D1 _ (by simpa using hh)) he st1 fun h' eb=>⟨rfl,I.turned (t':=s.toks) (fun b o hb q=>eb b o hb q) f0 f1 f3 f4 f5⟩
 self:=fun A i s Q E st h=>let ⟨⟨_,he⟩,_⟩:=st;wpAny_pyIter_enum he h
def Kd.isT:Kd→Bool
 | .t _=>true
 | _=>false
def iEnumG (K:PySem.W.Frag) (ta:TA):TI:=fun σ H R=>ta σ H fun vs H1=>∃k xs,vs=[Kd.v k]∧k.isT=false∧k.has K H1 xs∧R (IteG K k) H1
theorem pi_enumG {X:Cx} {K:PySem.W.Frag} {e:Expr} {ta:TA} {p pos tpos:Pos} {elts:List Expr} {kk:Nat} (hK:X.K=K) (hg:Gl X "enumerate") (hm:X.mg "enumerate"=none) (ha:PA X [e] ta) (hs:starEach [e] X.env=[(false,eval e X.env)]:=by rfl):
 PI X (.Tuple elts kk tpos) (.Call (.Name "enumerate" p) [e] [] pos) (iEnumG K ta):=by
 subst hK
 refine ⟨fun pins s σ H R I h=> ?_⟩
 refine Call_ (ld_blt I hg hm boot_enumerate (PyProof.Rows.callWith_type1 (thn (ha.run pos pins s σ H _ I h) fun us s1 ⟨vs,H1,I1,r1,q1⟩=> ?_) hs rfl))
 obtain ⟨k,xs,ex,hT,hq,q⟩:=q1
 subst ex
 cases r1 with
 | cons r rr=>
   cases rr
   have fp:∀b∈[s1.heap.objs.size+1,s1.heap.objs.size],FpOk X pins H1 b:=fun b hb=>by
    have e':b=s1.heap.objs.size+1∨b=s1.heap.objs.size:=by simpa using hb
    have hle:s1.heap.objs.size≤b:=by
     rcases e' with z | z
     · rw [z];exact Nat.le_add_right _ _
     · rw [z];exact Nat.le_refl _
    exact I1.fpOk hle (I1.hok.fresh hle)
   cases k with
   | l a=>
     cases r
     obtain ⟨its,rv,p',hz⟩:=I1.list hq
     have la:a<s1.heap.objs.size:=p'.lt
     refine call_enumerate_list p'.isList fun h' he hit hsz hk=>wpAny_pyIter_enum he ?_
     have I2:Inv X pins σ H1 {s1 with heap:=h'}:=I1.kept (t':=s1.toks) hk
     exact ⟨s1.heap.objs.size+1,[s1.heap.objs.size+1,s1.heap.objs.size],_,_,H1,rfl,I2,turn_enumG (k:=.l a) (Nat.ne_of_lt la) (Nat.succ_ne_self _) (by
      simp only [Kd.fp,List.mem_cons,List.not_mem_nil,or_false,not_or]
      exact ⟨Nat.succ_ne_self _,fun e=>by
       rw [←e] at la
       exact absurd la (Nat.not_lt.mpr (Nat.le_succ _))⟩),⟨⟨.none,he⟩,hit⟩,fp,q⟩
   | s x=>
     obtain ⟨t,rfl⟩:=r
     refine call_enumerate_str fun h' he hit hsz hk=>wpAny_pyIter_enum he ?_
     have I2:Inv X pins σ H1 {s1 with heap:=h'}:=I1.kept (t':=s1.toks) hk
     exact ⟨s1.heap.objs.size+1,[s1.heap.objs.size+1,s1.heap.objs.size],_,_,H1,rfl,I2,turn_enumG (k:=.s x) trivial (Nat.succ_ne_self _) (by simp [Kd.fp]),⟨⟨.none,he⟩,⟨t,hit⟩⟩,fp,q⟩
   | t a=>cases hT
def numT:Nat→List T→List T
 | _,[]=>[]
 | i,x::xs=>.tup [.int i,x]::numT (i+1) xs
theorem numT_len:∀(i:Nat) (xs:List T),(numT i xs).length=xs.length
 | _,[]=>rfl
 | i,x::xs=>by show (numT (i+1) xs).length+1=xs.length+1;rw [numT_len]
theorem numT_get:∀ {j:Nat} {xs:List T} {i:Nat} {d:T},(numT j xs)[i]? =some d→∃x,xs[i]? =some x∧d= .tup [.int ((j+i:Nat):Int),x]
 | _,[],i,d,h=>by simp [numT] at h
 | j,x::xs,0,d,h=>⟨x,rfl,by simpa [numT] using h.symm⟩
 | j,x::xs,i+1,d,h=>by
   obtain ⟨y,h1,h2⟩:=numT_get (j:=j+1) (xs:=xs) (i:=i) (d:=d) (by simpa [numT] using h)
   refine ⟨y,by simpa using h1, ?_⟩
   rw [h2]
   have:j+1+i=j+(i+1):=by omega
   rw [this]
section
variable {K:PySem.W.Frag} {c:Cf} {W:WX}
theorem walks_enumG {S:List Addr} {H0:Hp} {k:Kd} {vs:List V} {xs:List T} (ha:∀S' H',Same (hid S H0) (hid S' H')→k.has K H' vs) (r:RepL K (hid S H0) vs xs):WalksB K true (hid S H0) (IteG K k) (numT 0 xs) where
 go:=fun i d S' H hd e=>by
  obtain ⟨x,h1,_⟩:=numT_get hd
  obtain ⟨v,hv,_⟩:=r.get h1
  exact ⟨vs,v,ha _ _ e,hv⟩
 yld:=fun i d S' H x H' hd e hS y=>by
  obtain ⟨x1,h1,rfl⟩:=numT_get hd
  obtain ⟨v,hv,rv⟩:=r.get h1
  obtain ⟨Tt,p,rfl,hT,e',f1⟩:=y
  have z1:=f1 vs (ha _ _ e)
  rw [hv] at z1
  cases z1
  have e0:((0+i:Nat):Int)=((i:Nat):Int):=by omega
  rw [e0]
  exact yld_pair hS hT e' (.int _) (rv.mono e)
 stop:=fun S' H e=>⟨vs,ha _ _ e,by rw [numT_len,r.length]⟩
def isTp:T→Bool
 | .tup _=>true
 | _=>false
def iterEn3 (x:A3):A3:=fun σ Q X=>x σ (fun ds=>ob (one ds) fun d=>isTp d=false∧ob (itemsP d) fun xs=>Q (numT 0 xs)) X
theorem Rep.kdE {S:List Addr} {H:Hp} {v:V} {t:T} {ds:List T} (r:Rep K (hid S H) v t) (hn:isTp t=false) (h:itemsP t=some ds):∃k vs,v=Kd.v k∧k.isT=false∧RepL K (hid S H) vs ds∧∀S' H',Same (hid S H) (hid S' H')→k.has K H' vs:=by
 cases t with
 | lst xs=>
   obtain ⟨a,vs,rfl,h1,h2⟩:=r.lstI
   cases h
   exact ⟨.l a,vs,rfl,rfl,h2,fun S' H' e=>SqL.of (hid_same _ _ (e _ _ h1))⟩
 | str z=>
   cases r.strI
   obtain ⟨k,vs,e1,e2,e3⟩:=(Rep.str z:Rep K (hid S H) (.str z) (.str z)).kd h
   cases k with
   | s x=>exact ⟨.s x,vs,e1,rfl,e2,e3⟩
   | l a=>cases e1
   | t a=>cases e1
 | tup xs=>cases hn
 | _=>cases h
theorem lift_iEn {t:TA} {x:A3} (ha:LiftA K c W t x):LiftIB K c true W (iEnumG K t) (iterEn3 x):=by
 intro σ3 Q3 X h Hb G A σ H R' R k e
 refine ha _ _ _ h Hb G A σ H _ R (fun v d H1 L1 r q=> ?_) e
 obtain ⟨d1,ed,hn,q1⟩:=ob_iff.mp q
 obtain ⟨xs,ex,q2⟩:=ob_iff.mp q1
 cases one_is ed
 obtain ⟨v,rfl,rv⟩:=repL_one r
 obtain ⟨k1,vs,rfl,hT,rl1,a1⟩:=rv.kdE hn ex
 exact ⟨k1,vs,rfl,hT,a1 _ _ (Same.refl _),k _ _ H1 L1 (walks_enumG a1 rl1) q2⟩
end
end M3
namespace M3
open PySem PySem.Spec PyProof.Rows L2
section
variable {prog:Program} {w:World} {A:Around} {E:Value→Shared→Prop} {s:Shared}
theorem star_list {l:Addr} {items:Array Value} {n i:Nat} {Q:List Value→Shared→Prop} (ht:s.heap.IsList l items) (hh:A.handled=none) (hi:i<n) (hn:n≤items.size+1) (hz:items.size≤sizeLine)
 (hq:∀D h2 tk,(∀b o,s.heap.get? b=some o→h2.get? b=some o)→s.heap.get? D=none→h2.get? D=some {cls:=.type "list",data:=.seq ((items.toList.drop i).take (items.size+1-n)).toArray}→
   Q (items.toList.take i++[.ref D]++(items.toList.drop i).drop (items.size+1-n)) {s with heap:=h2,toks:=tk}):wpAny (model prog w) A (unpackItems (.ref l) n (some i)) Q E s:=by
 have ne:l≠s.heap.objs.size:=by
  obtain ⟨o,e,_⟩:=ht
  exact Nat.ne_of_lt (Heap.lt_size e)
 unfold unpackItems notIterableAtAll
 refine wpAny_bind (wpAny_bind (wpAny_specialOf ht.typeIs slot_list_iter.lookup (wpAny_pure ?_)))
 simp only [Bool.false_eq_true,if_false]
 refine wpAny_bind (wpAny_holding (wpAny_pyIter_list ht ?_))
 refine wpAny_bind (wpAny_holding (PySem.W.kun_draw ne i 0 _ _ ⟨_,Heap.get?_push_size _ rfl,rfl,rfl⟩ (ht.push _) (by omega) fun h1 it1 sb=> ?_))
 have ht1:=(ht.push {cls:=.type "list_iterator",data:=.fields #[.ref l,.int 0 0]}).extBut sb.extBut ne
 rw [Nat.zero_add] at it1
 rw [List.drop_zero,if_neg (by rw [List.length_take,Array.length_toList];omega)]
 refine star_end (s:=s) (I:=s.heap.objs.size) (ax:=l) (T:="list_iterator") (.inr (.inr (.inl rfl))) (PySem.Walks.list (A:=A.in1) hh s.heap.objs.size l ne items) (fun _ _ st=>st.1.typeIs) ⟨it1,ht1⟩ ?_ ?_ ?_ ?_ hi hn hz hq
 · obtain ⟨o,e,_⟩:=it1
   exact Heap.lt_size e
 · obtain ⟨o,e,_⟩:=ht1
   exact Heap.lt_size e
 · cases e:s.heap.get? s.heap.objs.size with
   | none=>rfl
   | some o=>exact absurd (Heap.lt_size e) (Nat.lt_irrefl _)
 · exact fun b o nb e=>sb.extBut b o nb (Heap.get?_push_of_some _ e)
end
def gStarL (K:PySem.W.Frag) (n i:Nat) (t:TGs):TG:=fun v σ H Q=>∃a xs,v= .ref a∧SqL K H a xs∧i<n∧n≤xs.length+1∧
 ∀p,H p=none→t (xs.take i++[.ref p]++(xs.drop i).drop (xs.length+1-n)) σ (upd H p (.lst ((xs.drop i).take (xs.length+1-n)))) Q
section
variable {X:Cx} {K:PySem.W.Frag} {pos:Pos}
theorem pg_starL {es:List Expr} {k n i:Nat} {t:TGs} (hK:X.K=K) (hc:X.calm=true) (hp:PGs X es t) (hn:(assignEach es X.env).length=n:=by rfl) (hst:(assignEach es X.env).findIdx? (·.1)=some i:=by rfl):PG X (.Tuple es k pos) (gStarL K n i t):=by
 subst hK
 constructor
 rintro pins s σ H v u Q I r ⟨a,xs,rfl,hq,hi,hl,hw⟩
 cases r
 obtain ⟨its,rv,ht,hz⟩:=I.list hq
 have le:xs.length=its.length:=rv.length
 rw [assign_Tuple]
 refine wpAny_bind (wpAny_standAt ?_)
 unfold unpack
 rw [hn,hst]
 refine wpAny_bind (wpAny_holding (star_list (items:=its.toArray) ht.isList (I.ok.hd hc) hi (by rw [List.size_toArray];omega) (by rw [List.size_toArray];omega) fun D h2 tk kp nD eD=> ?_))
 rw [List.size_toArray, ←le] at eD ⊢
 have nH:H D=none:=I.hok.gone nD
 refine hp.run pins _ σ _ _ _ Q (I.laidN (t':=tk) (o:=.lst ((xs.drop i).take (xs.length+1-n))) kp nD nH ⟨?_,_,0,vals_take _ (rv.drop i),by simpa using eD⟩) ?_ (hw D nH)
 · rw [List.length_take,List.length_drop];omega
 · exact ((vals_take i rv).append (.cons (show RelV (V.ref D) (Value.ref D) from rfl) .nil)).append ((rv.drop i).drop _)
end
section
variable {K:PySem.W.Frag} {c:Cf} {ws:List Nat}
def gstarL3 (n i:Nat) (r:List T→List Sl→(List Sl→Prop)→Prop):TG3:=fun d σ Q=>ob (asL d) fun ds=>i<n∧n≤ds.length+1∧r (ds.take i++[.lst ((ds.drop i).take (ds.length+1-n))]++(ds.drop i).drop (ds.length+1-n)) σ Q
theorem lift_asgStarL {W:WX} {ta:TE} {a:E3} {n i:Nat} {u:TGs} {u3:List T→List Sl→(List Sl→Prop)→Prop} (ha:Lift K c W ta a) (h:LiftTgs K c ws u u3):LiftS K c W (tAsg ta (gStarL K n i u)) (asg3 a (gstarL3 n i u3)):=by
 intro N σ3 hh Hb G A σ H D R Z
 refine ha _ _ _ hh Hb G A σ H _ R (fun v d H' L r q=> ?_) (fun cls dd x H' L r q=>Z.xn _ _ _ _ _ _ _ (R.le L) r q)
 obtain ⟨ds,ed,hi,hl,hh1⟩:=ob_iff.mp q
 cases asL_is ed
 obtain ⟨ad,vs,rfl,hs,rl⟩:=r.lstI
 refine ⟨ad,vs,rfl,SqL.of (hid_same _ _ hs),hi,by rw [rl.length];exact hl,fun p hp=> ?_⟩
 have R1:=R.le L
 have L2:=R1.new (o:=.lst ((vs.drop i).take (vs.length+1-n))) hp
 have rl':=rl.mono L2.vis
 refine h _ _ _ hh1 Hb G A σ _ _ _ (R1.le L2) ?_ (fun A' σ3' σ' H2 R2 _ _ q2=>Z.nx _ _ _ _ R2 q2)
 have e:=rl.length
 rw [←e]
 exact ((rl'.take i).append (.cons (.mkL (R1.newAt hp) ((rl'.drop i).take _)) .nil)).append ((rl'.drop i).drop _)
end
section
variable {K:PySem.W.Frag} {c:Cf} {W:WX} {ta tb:TE} {a b:E3} {X:Cx}
def strI3:List T→(T→Prop)→Prop:=fun xs Q=>ob (one xs) fun d=>ob (asI d) fun i=>i.natAbs.log2<1920∧Q (.str (Str.ofString (toString i)))
theorem rl_strI:RLn K (fun xs H Q=>∃i,xs=[.int i]∧i.natAbs.log2<1920∧Q (.str (Str.ofString (toString i))) H) strI3:=by
 intro c xs Q3 hh Hb G A σ3 σ H vs Q R rx k
 obtain ⟨d,ed,h1⟩:=ob_iff.mp hh
 obtain ⟨i,ei,h2⟩:=ob_iff.mp h1
 cases one_is ed
 cases asI_is ei
 obtain ⟨v,rfl,rv⟩:=repL_one rx
 exact ⟨i,by rw [rv.intI],h2.1,k _ _ H (Le.refl R.inv) (.str _) h2.2⟩
def intS3:List T→(T→Prop)→Prop:=fun xs Q=>ob (one xs) fun d=>ob (asS d) fun x=>ob (PySem.intText? x) fun n=>x.length≤640∧Q (.int n)
theorem rl_intS:RLn K (fun xs H Q=>∃a n,xs=[.str a]∧PySem.intText? a=some n∧a.length≤640∧Q (.int n) H) intS3:=by
 intro c xs Q3 hh Hb G A σ3 σ H vs Q R rx k
 obtain ⟨d,ed,h1⟩:=ob_iff.mp hh
 obtain ⟨x,ex,h2⟩:=ob_iff.mp h1
 obtain ⟨n,en,h3⟩:=ob_iff.mp h2
 cases one_is ed
 cases asS_is ex
 obtain ⟨v,rfl,rv⟩:=repL_one rx
 exact ⟨x,n,by rw [rv.strI],en,h3.1,k _ _ H (Le.refl R.inv) (.int _) h3.2⟩
def m13 (r3:Str→T→(T→Prop)→Prop) (a b:E3):E3:=fun σ Q X=>a σ (fun x=>ob (asS x) fun s=>b σ (fun y=>r3 s y Q) X) X
def RLm (K:PySem.W.Frag) (r:V→List V→Hp→VK→Prop) (r3:Str→T→(T→Prop)→Prop):Prop:=
 ∀(c:Cf) s y Q3,r3 s y Q3→∀Hb G A σ3 σ H vy Q,R3 K c Hb G A σ3 σ H→Rep K (hid (c.S G A) H) vy y→
  (∀v d H',Le c G A H H'→Rep K (hid (c.S G A) H') v d→Q3 d→Q v H')→r (.str s) [vy] H Q
theorem lift_m1 {r:V→List V→Hp→VK→Prop} {r3:Str→T→(T→Prop)→Prop} (hr:RLm K r r3) (ha:Lift K c W ta a) (hb:Lift K c W tb b):Lift K c W (tM1 r ta tb) (m13 r3 a b):=by
 intro σ3 Q3 X h Hb G A σ H Q R k e
 refine ha _ _ _ h Hb G A σ H _ R (fun vx x H1 L1 rx hx=> ?_) e
 obtain ⟨s,es,hx⟩:=ob_iff.mp hx
 cases asS_is es
 cases rx.strI
 refine ⟨⟨s,rfl⟩, ?_⟩
 refine hb _ _ _ hx Hb G A σ H1 _ (R.le L1) (fun vy y H2 L2 ry hy=> ?_) (fun cls dd x H' L=>e cls dd x H' (L1.trans L))
 exact hr c _ _ _ hy Hb G A σ3 σ H2 vy Q ((R.le L1).le L2) ry (fun v d H3 L3=>k v d H3 ((L1.trans L2).trans L3))
def joinM3 (s:Str) (y:T) (Q:T→Prop):Prop:=ob (items y) fun ts=>ob (txs ts) fun ys=>(ys.map (·.length)).sum+ys.length * s.length≤16777216∧Q (.str (Txt.join s ys))
theorem rl_join:RLm K (fun x xs H Q=>∃a p,∃ys:List Str,x= .str a∧xs=[.ref p]∧(SqL K H p (ys.map V.str)∨SqT K H p (ys.map V.str))∧(ys.map (·.length)).sum+ys.length * a.length≤16777216∧Q (.str (Txt.join a ys)) H) joinM3:=by
 intro c s y Q3 hh Hb G A σ3 σ H vy Q R ry k
 obtain ⟨ts,et,h1⟩:=ob_iff.mp hh
 obtain ⟨ys,ey,hz,h2⟩:=ob_iff.mp h1
 cases strs_is ey
 rcases items_cases et with rfl | rfl
 · obtain ⟨p,vs,rfl,hp,rl⟩:=ry.lstI
   cases RepL.texts rl
   exact ⟨s,p,ys,rfl,rfl,.inl (SqL.of (hid_same _ _ hp)),hz,k _ _ H (Le.refl R.inv) (.str _) h2⟩
 · obtain ⟨p,vs,rfl,hp,rl⟩:=ry.tupI
   cases RepL.texts rl
   exact ⟨s,p,ys,rfl,rfl,.inr (Same.sqT hid_same hp),hz,k _ _ H (Le.refl R.inv) (.str _) h2⟩
theorem pe_joinK {o e:Expr} {to te:TE} {apos pos:Pos} (hK:X.K=K) (ho:PE X o to) (he:PE X e te) (hs:starEach [e] X.env=[(false,eval e X.env)]:=by rfl) (hbase:attributeBase o "join" X.env (eval o X.env)=eval o X.env:=by rfl) (hline:(apos.endLine==pos.line)=true:=by rfl):
 PE X (.Call (.Attribute o "join" apos) [e] [] pos) (tM1 (fun x xs H Q=>∃a p,∃ys:List Str,x= .str a∧xs=[.ref p]∧(SqL K H p (ys.map V.str)∨SqT K H p (ys.map V.str))∧(ys.map (·.length)).sum+ys.length * a.length≤16777216∧Q (.str (Txt.join a ys)) H) to te):=by
 subst hK
 exact pe_join ho he hs hbase hline
def startM3 (s:Str) (y:T) (Q:T→Prop):Prop:=ob (asS y) fun b=>Q (.bl (Txt.startswith s b))
def endM3 (s:Str) (y:T) (Q:T→Prop):Prop:=ob (asS y) fun b=>Q (.bl (Txt.endswith s b))
theorem rl_start:RLm K (fun x xs H Q=>∃a b,x= .str a∧xs=[.str b]∧Q (.bl (Txt.startswith a b)) H) startM3:=by
 intro c s y Q3 hh Hb G A σ3 σ H vy Q R ry k
 obtain ⟨b,eb,h1⟩:=ob_iff.mp hh
 cases asS_is eb
 exact ⟨s,b,rfl,by rw [ry.strI],k _ _ H (Le.refl R.inv) (.bl _) h1⟩
theorem rl_end:RLm K (fun x xs H Q=>∃a b,x= .str a∧xs=[.str b]∧Q (.bl (Txt.endswith a b)) H) endM3:=by
 intro c s y Q3 hh Hb G A σ3 σ H vy Q R ry k
 obtain ⟨b,eb,h1⟩:=ob_iff.mp hh
 cases asS_is eb
 exact ⟨s,b,rfl,by rw [ry.strI],k _ _ H (Le.refl R.inv) (.bl _) h1⟩
theorem pe_starts {o e:Expr} {to te:TE} {apos pos:Pos} (ho:PE X o to) (he:PE X e te) (hs:starEach [e] X.env=[(false,eval e X.env)]:=by rfl) (hbase:attributeBase o "startswith" X.env (eval o X.env)=eval o X.env:=by rfl) (hline:(apos.endLine==pos.line)=true:=by rfl):
 PE X (.Call (.Attribute o "startswith" apos) [e] [] pos) (tM1 (fun x xs H Q=>∃a b,x= .str a∧xs=[.str b]∧Q (.bl (Txt.startswith a b)) H) to te):=pe_m1 F.slot_str_startswith F.type_str_startswith mt_startswith ho he hs hbase hline
theorem pe_ends {o e:Expr} {to te:TE} {apos pos:Pos} (ho:PE X o to) (he:PE X e te) (hs:starEach [e] X.env=[(false,eval e X.env)]:=by rfl) (hbase:attributeBase o "endswith" X.env (eval o X.env)=eval o X.env:=by rfl) (hline:(apos.endLine==pos.line)=true:=by rfl):
 PE X (.Call (.Attribute o "endswith" apos) [e] [] pos) (tM1 (fun x xs H Q=>∃a b,x= .str a∧xs=[.str b]∧Q (.bl (Txt.endswith a b)) H) to te):=pe_m1 F.slot_str_endswith F.type_str_endswith mt_endswith ho he hs hbase hline
def rPart:V→List V→Hp→VK→Prop:=fun x xs H Q=>∃a b,x= .str a∧xs=[.str b]∧(b.length==0)=false∧a.length≤sizeLine∧newT H [.str (Txt.partition a b).1,.str (Txt.partition a b).2.1,.str (Txt.partition a b).2.2] Q
theorem mt_partF:MtR X "str.partition" rPart:=by
 intro pins s σ H x xs v us Q I rx rs h
 obtain ⟨a,b,rfl,rfl,hb,hz,h⟩:=h
 obtain ⟨t,rfl⟩:=rx
 cases rs with
 | cons r1 rs=>
   cases rs
   obtain ⟨u,rfl⟩:=r1
   have fin:∀(x y z:Str) (t u v:Tok) (k:Nat),newT H [.str x,.str y,.str z] Q→EP X pins σ Q (.ref s.heap.objs.size) {s with toks:=k,heap:=s.heap.push {cls:=.type "tuple",data:=.seq [Value.str x t,.str y u,.str z v].toArray} }:=fun x y z t u v k q=>
    lay_tup (s:={s with toks:=k}) (xs:=[.str x,.str y,.str z]) (its:=[Value.str x t,.str y u,.str z v]) (I.tok k) (by show 3≤sizeLine;decide) (.cons ⟨t,rfl⟩ (.cons ⟨u,rfl⟩ (.cons ⟨v,rfl⟩ .nil))) q
   refine call_meets F.slot_str_partition (typeIs_str _ _ _) F.entry_str_partition (F.args_str_partition_2 _ _) (meets_str_partition a b t u hb hz) ?_
   unfold Txt.partition at h
   revert h
   cases Builtin.Str.occurrences a b 0 a.length 1 with
   | nil=>intro h;exact fin _ _ _ _ _ _ _ h
   | cons i r=>intro h;exact fin _ _ _ _ _ _ _ h
theorem pe_part {o e:Expr} {to te:TE} {apos pos:Pos} (ho:PE X o to) (he:PE X e te) (hs:starEach [e] X.env=[(false,eval e X.env)]:=by rfl) (hbase:attributeBase o "partition" X.env (eval o X.env)=eval o X.env:=by rfl) (hline:(apos.endLine==pos.line)=true:=by rfl):
 PE X (.Call (.Attribute o "partition" apos) [e] [] pos) (tM1 rPart to te):=pe_m1 F.slot_str_partition F.type_str_partition mt_partF ho he hs hbase hline
def partM3 (s:Str) (y:T) (Q:T→Prop):Prop:=ob (asS y) fun b=>(b.length==0)=false∧s.length≤sizeLine∧Q (.tup [.str (Txt.partition s b).1,.str (Txt.partition s b).2.1,.str (Txt.partition s b).2.2])
theorem rl_part:RLm K rPart partM3:=by
 intro c s y Q3 hh Hb G A σ3 σ H vy Q R ry k
 obtain ⟨b,eb,h0,hz,h1⟩:=ob_iff.mp hh
 cases asS_is eb
 refine ⟨s,b,rfl,by rw [ry.strI],h0,hz,fun p o hp hd=> ?_⟩
 have L:=R.new (o:=.frz o (.tup [.str (Txt.partition s b).1,.str (Txt.partition s b).2.1,.str (Txt.partition s b).2.2])) hp
 exact k _ _ _ L (.mkT (FqT.of hd (R.newAt hp)) (.cons (.str _) (.cons (.str _) (.cons (.str _) .nil)))) h1
end
def augI3 (f:Int→Int→Int) (i:Nat) (e:E3):S3:=fun N σ=>ob (slot σ i) fun x=>ob (asI x) fun m=>e σ (fun y=>ob (asI y) fun n=>N.nx (σ.set i (.val (.int (f m n))))) (N.xn σ)
theorem lift_augI {K:PySem.W.Frag} {c:Cf} {W:WX} {f:Int→Int→Int} {i:Nat} {te:TE} {e:E3} (he:Lift K c W te e):LiftS K c W (tAug i te (ipI f)) (augI3 f i e):=by
 intro N σ3 hh Hb G A σ H D R Z
 obtain ⟨x,ex,h1⟩:=ob_iff.mp hh
 obtain ⟨m,em,h2⟩:=ob_iff.mp h1
 cases asI_is em
 obtain ⟨v,hv,rv⟩:=R.get (slot_get ex)
 cases rv.intI
 refine ⟨.int m,hv, ?_⟩
 refine he _ _ _ h2 Hb G A σ H _ R (fun vy y H' L r q=> ?_) (fun cls dd x H' L r q=>Z.xn _ _ _ _ _ _ _ (R.le L) r q)
 obtain ⟨n,en,q1⟩:=ob_iff.mp q
 cases asI_is en
 cases r.intI
 exact ⟨m,n,rfl,rfl,Z.nx _ _ _ _ ((R.le L).set i (.int _)) q1⟩
end M3
set_option maxHeartbeats 1000000
namespace M3
open PySem PySem.Spec PyProof.Rows L2 LamX
structure LamP (sc scope:Scope) (b:Str):Prop where
 kind:scope.kind= .function
 co:scope.isCoroutine=false
 gen:scope.isGenerator=false
 own:∀y∈scope.names,(y.2= .local→y.1=b)∧y.2≠ .cell
 lb:scope.names.lookup b=some .local
 free:∀y∈scope.names,y.2= .free→sc.names.lookup y.1=some .cell∨sc.names.lookup y.1=some .free
 nn:∀y∈scope.names,y.1≠Str.empty
theorem LamP.has {X:Cx} {scope:Scope} {b:Str} (L:LamP X.env.scope scope b) (ok:X.Ok):∀y∈scope.names,y.2= .free→∃c,X.env.cells.lookup y.1=some c:=fun y hy e=>by
 rcases L.free y hy e with k | k
 · exact ok.has _ (.inl k)
 · exact ok.has _ (.inr k)
end M3
set_option maxHeartbeats 1000000
namespace M3
open PySem PySem.Spec PyProof.Rows L2 LamX PySem.W PySem.Calls
theorem Un.untracked {fs ex:List Addr} {H H1:Hp} {h h1 h2:Heap} {x:Addr} (u:Un fs ex H H1 h h1) (k:∀b o,b≠x→h1.get? b=some o→h2.get? b=some o) (hx:h.get? x=none):Un fs ex H H1 h h2:=by
 have ne:∀ {b:Addr} {o:Obj},h.get? b=some o→b≠x:=fun {b o} e z=>by rw [z,hx] at e;cases e
 exact ⟨fun b o e n h1 h2=>k b o (ne e) (u.keep b o e n h1 h2),fun b o e n h1 h2=>by
  obtain ⟨sl,q⟩:=u.slot b o e n h1 h2
  exact ⟨sl,k b _ (ne e) q⟩,u.free,fun b o e hb=>by
  obtain ⟨o',q⟩:=u.there b o e hb
  exact ⟨o',k b _ (ne e) q⟩,u.tups,u.frzs,u.tbls⟩
theorem HOk.untracked {P:Program} {w:World} {H:Hp} {h h':Heap} {x:Addr} (z:HOk P w H h) (hx:H x=none) (k:∀b o,b≠x→h.get? b=some o→h'.get? b=some o):HOk P w H h':=fun a o e=>
 (z a o e).stay (fun b u hb q=>k b u (fun y=>by
   subst y
   rcases hb with hb | hb
   · subst hb;rw [hx] at e;cases e
   · rw [hx] at hb;cases hb) q) (fun _ q=>q) fun _ _ q=>q
section
variable {X:Cx} {pins:List (Addr×Obj)} {σ:L2.St} {H0:Hp} {s0 s:Shared} {a kS f c':Addr} {k:Nat} {b:Str} {tb:TE} {params:Arguments} {body:Expr} {scope:Scope} {pm ctv:Value} {Qk:List V→Hp→Prop} {P:PySem.Fin→Shared→Prop} {E:Value→Shared→Prop} {A:Around} {e1:Nat}
structure KSt (X:Cx) (H0 H:Hp) (s0 s:Shared) (a kS:Addr) (e1:Nat) (ks:List V):Prop where
 os:s.os=s0.os
 bare:AllBare s.gens
 un:Un (frs X.stack) [] H0 H s0.heap s.heap
 hok:HOk X.prog X.w H s.heap
 nk:∃kA e,s.heap.get? kS=some (seqObj "list" kA e)∧Vals ks kA.toList
 na:s.heap.get? a=some (seqObj "list" #[] e1)
 fk:H kS=none
 fa:H a=none
theorem KSt.inv (z:KSt X H0 H s0 s a kS e1 ks) (I0:Inv X pins σ H0 s0):Inv X pins σ H s:=I0.call' (ch:=[]) z.os z.un z.hok z.bare fun b hb=>absurd hb (by simp)
theorem KSt.push (z:KSt X H0 H s0 s a kS e1 ks) (hk0:s0.heap.get? kS=none) (hka:kS≠a) (nfk:kS ∉ frs X.stack) (nfa:a ∉ frs X.stack) {H1:Hp} {s1:Shared} {v:V} {u:Value} (os:s1.os=s.os) (bare:AllBare s1.gens) (un:Un (frs X.stack) [] H H1 s.heap s1.heap) (hok:HOk X.prog X.w H1 s1.heap) (r:RelV v u)
 {g:Shared} (hg:g={s1 with heap:=s1.heap.update kS (Obj.mapSeq (·.push u))}):KSt X H0 H1 s0 g a kS e1 (ks++[v]):=by
 obtain ⟨kA,e,nk,hv⟩:=z.nk
 have nk2:s1.heap.get? kS=some (seqObj "list" kA e):=un.keep kS _ nk z.fk nfk (by simp)
 have na2:s1.heap.get? a=some (seqObj "list" #[] e1):=un.keep a _ z.na z.fa nfa (by simp)
 have fk2:H1 kS=none:=un.free kS _ nk z.fk (by simp)
 have fa2:H1 a=none:=un.free a _ z.na z.fa (by simp)
 have sb:=Heap.SameBut.update s1.heap kS (Obj.mapSeq (·.push u))
 obtain ⟨c2,hc2⟩:∃c2,(s1.heap.update kS (Obj.mapSeq (·.push u))).get? kS=some (seqObj "list" (kA.push u) c2):=⟨_,get?_update_seq nk2 (·.push u)⟩
 have kk:∀b o,b≠kS→s1.heap.get? b=some o→(s1.heap.update kS (Obj.mapSeq (·.push u))).get? b=some o:=fun b o hb e=>(sb.2 b hb).trans e
 subst hg
 refine ⟨os.trans z.os,bare,Un.untracked (z.un.trans un) kk hk0,HOk.untracked hok fk2 kk,⟨_,_,hc2, ?_⟩,(sb.2 a hka.symm).trans na2,fk2,fa2⟩
 rw [Array.toList_push]
 exact hv.append (.cons r .nil)
end
end M3
set_option maxHeartbeats 1000000
namespace M3
open PySem PySem.Spec PyProof.Rows L2 LamX PySem.W PySem.Calls
end M3
set_option maxHeartbeats 1000000
namespace M3
open PySem PySem.Spec PyProof.Rows L2 LamX PySem.W PySem.Calls
section
variable {K:PySem.W.Frag} {fr:Bool} {p cc:Addr} {P:Addr×Str} {Ts:List (Addr×Str)} {Hb H H1:Hp} {G:List Addr} {A:List (Option Addr)} {σ3:List Sl} {σ:L2.St}
theorem Le.code (L:Le (potR fr p cc (P::Ts)) G A H H1) (hi:(potR fr p cc (P::Ts)).I H) {c':Addr} {q:Str} (h:H c'=some (CodeO c' q)):H1 c'=some (CodeO c' q):=by
 by_cases hS:c'∈(potR fr p cc (P::Ts)).S G A
 · rcases mem_S.mp hS with z | z | z
   · exfalso
     have z:c'∈p::cc::(P::Ts).map (·.1):=z
     obtain ⟨⟨cs,i,n,s,h1,h2,_⟩,ht⟩:=hi
     rcases List.mem_cons.mp z with z | z
     · rw [z,h1] at h
       have h:=Option.some.inj h
       unfold CodeO at h
       cases h
     · rcases List.mem_cons.mp z with z | z
       · rw [z,h2] at h
         have h:=Option.some.inj h
         unfold CodeO at h
         cases h
       · obtain ⟨q',hq,e⟩:=List.mem_map.mp z
         obtain ⟨ps,e2,_⟩:=ht q' hq
         rw [←e,e2] at h
         exact codeO_ne ps (Option.some.inj h).symm
   · rw [L.own c' (List.mem_append.mpr (.inl z))];exact h
   · rw [L.own c' (List.mem_append.mpr (.inr z))];exact h
 · exact (hid_some (L.vis _ _ (hid_mk h hS rfl))).1
end
end M3
set_option maxHeartbeats 1000000
namespace M3
open PySem PySem.Spec PyProof.Rows L2
theorem RepL.rep {K:PySem.W.Frag} {H:Hp} {vs:List V} {ts:List T} (r:RepL K H vs ts):∀n:Nat,RepL K H (List.replicate n vs).flatten (List.replicate n ts).flatten
 | 0=>.nil
 | n+1=>by
   rw [List.replicate_succ,List.replicate_succ,List.flatten_cons,List.flatten_cons]
   exact r.append (RepL.rep r n)
end M3
namespace M3
open PySem PySem.Spec PySem.Froz PyProof.Rows L2
end M3
set_option maxHeartbeats 1000000
namespace M3
open PySem L2
end M3
set_option maxHeartbeats 1000000
namespace M3
open PySem L2
def setI3 (i:Nat) (e1 e2:E3):S3:=fun N σ=>e2 σ (fun d2=>ob (ownL σ i) fun xs=>e1 σ (fun d1=>ob (asI d1) fun k=>ob (ixN xs.length k) fun j=>N.nx (σ.set i (.own (.lst (xs.set j d2))))) (N.xn σ)) (N.xn σ)
section
variable {K:PySem.W.Frag} {c:Cf} {W:WX} {i:Nat}
theorem lift_setI {te1 te2:TE} {e1 e2:E3} (h1:Lift K c W te1 e1) (h2:Lift K c W te2 e2):LiftS K c W (tAsg te2 (gSub (tVar i) te1 rSetL)) (setI3 i e1 e2):=by
 intro N σ3 h Hb G A σ H D R Z
 refine h2 _ _ _ h Hb G A σ H _ R (fun v2 d2 H1 L1 r2 q=> ?_) (fun cls dd x H' L r q=>Z.xn _ _ _ _ _ _ _ (R.le L) r q)
 obtain ⟨xs,ex,q⟩:=ob_iff.mp q
 have R1:=R.le L1
 obtain ⟨a,hA,hσ,vs,o1,o2⟩:=R1.ownGet (ownL_is ex)
 have ma:a∈G++addrs A:=List.mem_append.mpr (.inr (mem_addrs.mpr (List.mem_of_getElem? hA)))
 refine ⟨_,hσ, ?_⟩
 refine h1 _ _ _ q Hb G A σ H1 _ R1 (fun v d H2 L2 r q=> ?_) (fun cls dd x H' L r q=>Z.xn _ _ _ _ _ _ _ (R1.le L) r q)
 obtain ⟨k,ek,q8⟩:=ob_iff.mp q
 obtain ⟨j,ej,q9⟩:=ob_iff.mp q8
 cases asI_is ek
 have R2:=R1.le L2
 have o3:H2 a=some (.lst vs):=by rw [L2.own a ma];exact o1
 have o4:=o2.mono L2.vis
 exact ⟨a,vs,k,j,rfl,r.intI,o3,by rw [RepL.length o4];exact ej,Z.nx _ _ _ _ (R2.ownPut (ownL_is ex) hA o3 (RepL.set (r2.mono L2.vis) j o4)) q9⟩
def ixO3 (i:Nat) (e:E3):E3:=fun σ Q X=>ob (ownL σ i) fun xs=>e σ (fun d=>ob (asI d) fun k=>ob (L2.atI xs k) Q) X
theorem lift_ixO {te:TE} {e:E3} (he:Lift K c W te e):Lift K c W (tOp (rIx K) (tVar i) te) (ixO3 i e):=by
 intro σ3 Q3 X h Hb G A σ H Q R k ee
 obtain ⟨xs,ex,h⟩:=ob_iff.mp h
 obtain ⟨a,hA,hσ,vs,o1,o2⟩:=R.ownGet (ownL_is ex)
 have ma:a∈G++addrs A:=List.mem_append.mpr (.inr (mem_addrs.mpr (List.mem_of_getElem? hA)))
 refine ⟨_,hσ, ?_⟩
 refine he _ _ _ h Hb G A σ H _ R (fun v d H1 L1 r q=> ?_) ee
 obtain ⟨n,en,q8⟩:=ob_iff.mp q
 obtain ⟨t,et,q9⟩:=ob_iff.mp q8
 cases asI_is en
 have o3:H1 a=some (.lst vs):=by rw [L1.own a ma];exact o1
 have o4:=o2.mono L1.vis
 obtain ⟨w,ew,rw'⟩:=RepL.atI o4 et
 exact .inl ⟨a,vs,n,w,rfl,r.intI,SqL.of o3,ew,k w t H1 L1 rw' q9⟩
end
end M3
set_option maxHeartbeats 1000000
namespace M3
open PySem PySem.Spec PyProof.Rows L2
def SideO (K:PySem.W.Frag) (C:Addr) (y:V) (H:Hp):Prop:=(∃b dy gs,y= .ref b∧H b=some (.ins C dy gs))∨∃n,TyX K H y (.type n)∧PySem.W.notFirst K C (.type n)=true
theorem SideO.look {X:Cx} {pins:List (Addr×Obj)} {s:Shared} {σ:L2.St} {H:Hp} {C:Addr} {y:V} {v:Value} (h:SideO X.K C y H) (I:Inv X pins σ H s) (ry:RelV y v):∃tb,(∀M:Model,PySem.W.Looks M s.heap (typeOf v) tb)∧PySem.W.notFirst X.K C tb=true:=by
 rcases h with ⟨b,dy,gs,rfl,hb⟩ | ⟨n,ty,hn⟩
 · cases ry
   obtain ⟨mB,J',_⟩:=ins_get I.hok hb
   obtain ⟨od',J',_⟩:=J'.look
   exact ⟨.ref C,fun M=>J'.type,by simp [PySem.W.notFirst]⟩
 · obtain ⟨P,Z,p,_⟩:=kit_of I ry ty
   exact ⟨_,fun M=>Z.ty M s.heap I.kIn p,hn⟩
end M3
set_option maxHeartbeats 1000000
namespace M3
open PySem PySem.Spec PyProof.Rows L2
end M3
set_option maxHeartbeats 1000000
namespace M3
open PySem PySem.Spec PyProof.Rows L2 PySem.W
end M3
set_option maxHeartbeats 1000000
namespace M3
open PySem PySem.Spec PyProof.Rows L2 LamX PySem.W PySem.Calls
end M3
set_option maxHeartbeats 1000000
namespace M3
open PySem PySem.Spec PyProof.Rows L2 LamX PySem.W PySem.Calls
end M3
set_option maxHeartbeats 1000000
namespace M3
open PySem PySem.Spec PyProof.Rows L2
end M3
set_option maxHeartbeats 1000000
namespace M3
open PySem L2
structure FrO (K:PySem.W.Frag) (c:Cf) (G:List Addr) (A:List (Option Addr)) (H H':Hp) (D:Addr) (d:T):Prop where
 nD:D ∉ c.S G A
 vis:Same (hid (c.S G A) H) (hid (D::c.S G A) H')
 own:∀a∈G++addrs A,H' a=H a
 inv:c.I H'
 rep:OwnRep K (hid (D::c.S G A) H') H' D d
def LiftFrO (K:PySem.W.Frag) (c:Cf) (W:WX) (te:TE) (t:E3):Prop:=
 ∀σ3 Q3 X,t σ3 Q3 X→∀Hb G A σ H Q,R3 K c Hb G A σ3 σ H→
  (∀D d H',FrO K c G A H H' D d→Q3 d→Q (.ref D) H')→
  (∀cls dd x H',Le c G A H H'→XRep K (hid (c.S G A) H') cls dd x→X x→W cls dd σ H')→te σ H Q
section
variable {K:PySem.W.Frag} {c:Cf} {W:WX} {te:TE} {t:E3} {i:Nat} {Hb H H':Hp} {G:List Addr} {A:List (Option Addr)} {σ3:List Sl} {σ:St} {D:Addr} {d:T}
theorem FrO.le (f:FrO K c G A H H' D d):Le c G A H H':=⟨Same.trans f.vis (hid_mono fun a h=>List.mem_cons_of_mem _ h),f.own,f.inv⟩
theorem LiftFr.o (h:LiftFr K c W te t):LiftFrO K c W te t:=fun σ3 Q3 X ht Hb G A σ H Q R k e=>
 h _ _ _ ht Hb G A σ H Q R (fun D vs ds H' f q=>k D (.lst ds) H' ⟨f.nD,f.vis,f.own,f.inv,vs,f.at_,f.rep⟩ q) e
theorem LiftFrK.o (h:LiftFrK K c W te t):LiftFrO K c W te t:=fun σ3 Q3 X ht Hb G A σ H Q R k e=>
 h _ _ _ ht Hb G A σ H Q R (fun D kvs ts H' f q=>k D (.dic ts) H' ⟨f.nD,f.vis,f.own,f.inv,kvs,f.at_,f.key,f.rep⟩ q) e
def ofL3 (t:E3):E3:=fun σ Q X=>t σ (fun d=>ob (asL d) fun xs=>Q (.lst xs)) X
end
section
variable {K:PySem.W.Frag} {c:Cf} {W:WX} {i:Nat} {Hb H:Hp} {G:List Addr} {A:List (Option Addr)} {σ3:List Sl} {σ:St}
def isSelf:T→Bool
 | .tup _=>true
 | _=>false
theorem OwnRep.ty_ {Hv:Hp} {a:Addr} {d:T} {n:String} (r:OwnRep K Hv H a d) (h:tyn d=some n) (hn:isSelf d=false):TyX K H (.ref a) (.type n):=by
 cases d with
 | lst xs=>cases h;obtain ⟨vs,h1,_⟩:=r;exact .base (.lst h1)
 | dic ts=>cases h;obtain ⟨vs,h1,_⟩:=r;exact .base (.dK h1)
 | tup xs=>cases hn
 | kd w es=>cases h
 | _=>exact r.elim
theorem RepD.mem {Hv:Hp} {kvs:List (Key×V)} {ts:List (Key×T)} (r:RepD K Hv kvs ts) {p:Key×V} (h:p∈kvs):∃q∈ts,p.1=q.1∧Rep K Hv p.2 q.2:=by
 induction r with
 | nil=>cases h
 | cons e _ ih=>
   rcases List.mem_cons.mp h with h | h
   · subst h;exact ⟨_,List.mem_cons_self ..,e⟩
   · obtain ⟨q,hq,e⟩:=ih h
     exact ⟨q,List.mem_cons_of_mem _ hq,e⟩
end
end M3
set_option maxHeartbeats 1000000
namespace PySem
end PySem
namespace M3
open PySem PySem.Spec PyProof.Rows L2
def Kd.seq:Kd→Prop
 | .s _=>False
 | _=>True
end M3
set_option maxHeartbeats 1000000
namespace M3
open PySem L2
end M3
set_option maxHeartbeats 1000000
namespace M3
open PySem L2
structure TabD (K:PySem.W.Frag) (mg:Str→Option Value) (base:Heap) (nm:Str) (st:Stmt) (ps:List Str) (Ts:List (Addr×Str)):Prop where
 ex:∃(f cL PL:Addr) (kV doc pm ct oc:Value) (an od:Option Addr) (osl:Array (Option Value)),K.lookup f=some ⟨oc,od,.func (PySem.W.fnOf nm nm (defArgs st) (defBody st) (defScope st) .none kV doc pm an (.ref cL) ct),osl⟩∧PySem.W.codeIn K (.ref cL) nm=true∧LamX.TabB base mg cL PL∧
  (PL,(nm++".<locals>.":Str)++"<lambda>")∈Ts∧(∀p∈Ts,p.1=PL→p.2=(nm++".<locals>.":Str)++"<lambda>")∧mg nm=some (.ref f)∧PySem.W.keepIn K (.ref f)=true∧L2.Binds K (PySem.W.fnOf nm nm (defArgs st) (defBody st) (defScope st) .none kV doc pm an (.ref cL) ct) ps []
end M3
set_option maxHeartbeats 1000000
namespace L2
open PySem PySem.Spec PyProof.Rows
end L2
namespace M3
open PySem L2
theorem RepD.has {K:PySem.W.Frag} {H:Hp} {kvs:List (Key×V)} {ts:List (Key×T)} (r:RepD K H kvs ts) (k:Key):(valV kvs k).isSome=(valT ts k).isSome:=by
 have h:=r.keys
 unfold valV valT
 rw [Option.isSome_map,Option.isSome_map]
 induction r with
 | nil=>rfl
 | cons e _ ih=>
   simp only [List.map_cons,List.cons.injEq] at h
   rw [List.find?_cons,List.find?_cons,h.1]
   generalize decide (_=k)=b
   cases b with
   | true=>rfl
   | false=>exact ih h.2
end M3
set_option maxHeartbeats 1000000
namespace M3
open PySem L2
end M3
set_option maxHeartbeats 1000000
namespace L2
open PySem PySem.Spec PyProof.Rows
def rInDF (neg:Bool):R2:=fun x y H Q=>∃a kvs k,y= .ref a∧Rd H a (.dK kvs)∧x=kV k∧Q (.bl (if neg then !(valV kvs k).isSome else (valV kvs k).isSome)) H
section
variable {X:Cx}
theorem op_notInDF (hu:X.A.units+65<cLine):OpR X (compareOp .NotIn) (rInDF true):=by
 intro pins s σ H x y v u Q I rx ry h
 obtain ⟨a,kvs,k,rfl,e,rfl,q⟩:=h
 cases (show u=Value.ref a from ry)
 exact d_notIn (o:=valV kvs k) (by omega) I (.inl ⟨kvs,k,e,rfl,rfl⟩) rx fun s' I'=>⟨.bl _,H,I',rfl,q⟩
end
end L2
namespace M3
open PySem PyProof.Rows L2
def inDF3 (neg:Bool):T→T→(T→Prop)→Prop:=fun x y Q=>ob (asD y) fun ts=>ob (asK x) fun k=>Q (.bl (if neg then !(valT ts k).isSome else (valT ts k).isSome))
theorem rl_inDF {K:PySem.W.Frag} {neg:Bool}:RL2 K (rInDF neg) (inDF3 neg):=by
 intro c x y Q3 hh Hb G A σ3 σ H vx vy Q R rx ry k
 obtain ⟨ts,ed,h1⟩:=ob_iff.mp hh
 obtain ⟨k',ek,q⟩:=ob_iff.mp h1
 cases asD_is ed
 obtain ⟨p,o,kvs,rfl,hp,rd⟩:=ry.dicI
 refine ⟨p,kvs,k',rfl,.inr ⟨o,hid_same _ _ hp⟩,asK_rep rx ek, ?_⟩
 rw [rd.has k']
 exact k _ _ H (Le.refl R.inv) (.bl _) q
end M3
set_option maxHeartbeats 1000000
namespace M3
open PySem PySem.Spec PyProof.Rows L2
end M3
set_option maxHeartbeats 1000000
namespace M3
open PySem PySem.Spec PyProof.Rows L2
section
variable {P:Program} {w:World} {K:PySem.W.Frag} {mg:Str→Option Value} {base:Heap} {CX:CXT} {nm qual:Str} {st:Stmt} {ps:List Str} {Ts:List (Addr×Str)} {lv:Nat} {sp:Sp} {C:Addr}
theorem TabD.cl (D:TabD K mg base nm st ps Ts)
 (h:∀(f cL PL:Addr) (kV doc pm ct oc:Value) (an od:Option Addr) (osl:Array (Option Value)),K.lookup f=some ⟨oc,od,.func (PySem.W.fnOf nm nm (defArgs st) (defBody st) (defScope st) .none kV doc pm an (.ref cL) ct),osl⟩→PySem.W.codeIn K (.ref cL) nm=true→LamX.TabB base mg cL PL→
   (PL,(nm++".<locals>.":Str)++"<lambda>")∈Ts→(∀p∈Ts,p.1=PL→p.2=(nm++".<locals>.":Str)++"<lambda>")→FnOk P w K mg base CX lv f (PySem.W.fnOf nm nm (defArgs st) (defBody st) (defScope st) .none kV doc pm an (.ref cL) ct) ps sp):Cl P w K mg base CX nm lv [] sp:=by
 obtain ⟨f,cL,PL,kV,doc,pm,ct,oc,an,od,osl,lk,hcd,TB,hm,hu,hmg,kp,bd⟩:=D.ex
 exact ⟨f,_,ps,[],h f cL PL kV doc pm ct oc an od osl lk hcd TB hm hu,hmg,kp,bd,.nil⟩
end
end M3
namespace PySem.HandSPX
open PySem PySem.Spec PyProof.Rows
section
variable {M:Model} {A:Around} {E:Value→Shared→Prop} {h:Heap} {g:Array GenState} {d:Drawn} {t:Nat} {os:OsState}
variable {nm q:Str} {C N:Addr} {bs bm bmB:List Value} {hdct:Bool} {sn:List Str} {sub:List Value} {ab:Bool} {col:Option Bool} {dd:Option Addr} {k0 k1 k2 k3 k5:Option Value} {B newId initId:String}
theorem check_new_ownK (F:ExcBaseFacts B newId initId bmB) (hT:∀X:String,bm.contains (.type X)=bmB.contains (.type X)) {rest:List Value} {kw:List (Str×Value)} {Q:Unit→Shared→Prop}
 (hC:h.get? C=some (excClassObj nm q C N bs bm hdct sn sub ab col dd k0 k1 k2 k3 k5 newId)) (hq:Q () ⟨h,g,d,t,os⟩):wpAny M A (checkBuiltinCall newId ⟨.ref C::rest,kw⟩) Q E ⟨h,g,d,t,os⟩:=by
 have hcont:(Value.ref C::bm).contains (.type B)=true:=by rw [List.contains_cons,hT,F.hasB,Bool.or_true]
 have hstar:=F.noStar
 simp only [checkBuiltinCall,F.newKind,F.newSplit,F.newRow]
 repeat (first | refine wpAny_loadPart_at hC ?_ | (refine wpAny_isSubtype_exc hC ?_;rw [hcont]) | refine wpAny_staticBase_exc hC ?_ | refine wpAny_madeBy_exc hC ?_ | simp only [bne_self_eq_false,Bool.false_eq_true,if_false] | wp_step)
 exact hq
end
section
variable {prog:Program} {w:World} {A:Around} {E:Value→Shared→Prop} {R:Result→Shared→Prop} {h:Heap} {g:Array GenState} {d:Drawn} {t:Nat} {os:OsState}
variable {nm q:Str} {C N:Addr} {bs bm bmB:List Value} {hdct:Bool} {sn:List Str} {sub:List Value} {ab:Bool} {col:Option Bool} {dd:Option Addr} {k0 k1 k2 k3 k5:Option Value} {B newId initId:String}
theorem new_ownK (F:ExcBaseFacts B newId initId bmB) (hT:∀X:String,bm.contains (.type X)=bmB.contains (.type X)) {rest:List Value} {kw:List (Str×Value)}
 (hC:h.get? C=some (excClassObj nm q C N bs bm hdct sn sub ab col dd k0 k1 k2 k3 k5 newId))
 (hq:R (.ok (.ret (.ref (h.objs.size+1)))) ⟨(h.push {cls:=.type "tuple",data:=.seq rest.toArray}).push
   {cls:=.ref C,data:=.fields #[.ref h.objs.size,.none,.none,.none,.bool false,.none]},g,d,t,os⟩) (hrest:rest.length≤sizeLine):
 codeAny (model prog w) A (.builtin newId ⟨.ref C::rest,kw⟩) R ⟨h,g,d,t,os⟩:=by
 have hends:=F.ends
 have hcB:(Value.ref C::bm).contains (.type B)=true:=by rw [List.contains_cons,hT,F.hasB,Bool.or_true]
 have hcA:(Value.ref C::bm).contains (.type "AttributeError")=false:=by rw [List.contains_cons,hT,F.noAttr];rfl
 have hcN:(Value.ref C::bm).contains (.type "NameError")=false:=by rw [List.contains_cons,hT,F.noName];rfl
 refine codeAny_builtinAt F.entry ?_
 unfold Builtin.«BaseException.__new__»
 refine wpAt_bind ?_
 show wpAt _ _ _ (stack >>= _) _ _ _
 refine wpAt_bind (wpAt_stack fun p below=>wpAt_of_wpAny ?_)
 wp_walk
 refine wpAt_of_wpAny ?_
 rw [F.owner]
 repeat (first | with_reducible refine wpAny_madeHere_exc F.canon hC ?_ | with_reducible refine wpAny_loadPart_at hC ?_ | (with_reducible refine wpAny_isSubtype_exc hC ?_;first | rw [hcB] | rw [hcA] | rw [hcN]) | wp_step)
 show R _ _
 rw [Heap.size_push]
 exact hq
theorem type_call_ownK (F:ExcBaseFacts B newId initId bmB) (hT:∀X:String,bm.contains (.type X)=bmB.contains (.type X)) {rest:List Value} {kw:List (Str×Value)} {fI:Addr} {Q:Fin→Shared→Prop}
 (hC:h.get? C=some (excClassObj nm q C N bs bm hdct sn sub ab col dd k0 k1 k2 k3 k5 newId))
 (hi:W.Looks (model prog w) h (typeLookup (.ref C) "__init__") (some (.ref fI))) (hb:∀self,W.Looks (model prog w) h (bindSpecial (.ref fI) self) (.ref fI,[self])) (hrest:rest.length≤sizeLine)
 (hq:codeAny (model prog w) A (.call (.ref fI) ⟨.ref (h.objs.size+1)::rest,kw⟩)
   (fun r s'=>match r with | .ok (.ret v)=>v= .none∧Q (.done (.ret (.ref (h.objs.size+1)))) s' | .ok _=>False | .error e=>E e s')
   ⟨(h.push (W.kdv_tup rest)).push (excO C h.objs.size),g,d,t,os⟩):
 wpAny (model prog w) A (Builtin.«type.__call__» ⟨.ref C::rest,kw⟩) Q E ⟨h,g,d,t,os⟩:=by
 repeat (first | with_reducible refine wpAny_loadPart_at hC ?_ | with_reducible refine wpAny_madeBy_exc hC ?_ | wp_step)
 refine codeAny_call_builtin_code (Code.quiet_builtin _ F.quiet) (check_new_ownK F hT hC ?_)
 refine new_ownK F hT hC ?_ hrest
 show wpAny _ _ _ _ _ _
 have k:∀b o,h.get? b=some o→((h.push (W.kdv_tup rest)).push (excO C h.objs.size)).get? b=some o:=fun b o e=>Heap.get?_push_of_some _ (Heap.get?_push_of_some _ e)
 have hC₁:=k _ _ hC
 have hget:((h.push (W.kdv_tup rest)).push (excO C h.objs.size)).get? (h.objs.size+1)=some (excO C h.objs.size):=by heap_get
 have hcC:(Value.ref C::bm).contains (.ref C)=true:=by simp
 have i1:=hi.keeps k
 have b1:=(hb (.ref (h.objs.size+1))).keeps k
 unfold isInstance
 repeat (first | with_reducible refine wpAny_loadPart_at hget ?_ | (with_reducible refine wpAny_isSubtype_exc hC₁ ?_;rw [hcC]) | wp_step)
 show wpAny _ _ (typeLookup (.ref C) _) _ _ _
 refine i1.at ?_
 refine wpAny_holding (wpAny_bind (b1.at ?_))
 refine wpAny_bind (wpAny_call (codeAny_mono hq fun r s' z=> ?_))
 rcases r with e | (v | _ | _ | _)<;>first | exact z | exact z.elim | skip
 obtain ⟨rfl,z⟩:=z
 first
  | exact wpAny_pure (wpAny_pure z)
  | (wp_walk;exact z)
theorem call_ownK (F:ExcBaseFacts B newId initId bmB) (hT:∀X:String,bm.contains (.type X)=bmB.contains (.type X)) {rest:List Value} {kw:List (Str×Value)} {fI:Addr}
 (hC:h.get? C=some (excClassObj nm q C N bs bm hdct sn sub ab col dd k0 k1 k2 k3 k5 newId))
 (hi:W.Looks (model prog w) h (typeLookup (.ref C) "__init__") (some (.ref fI))) (hb:∀self,W.Looks (model prog w) h (bindSpecial (.ref fI) self) (.ref fI,[self])) (hrest:rest.length≤sizeLine)
 (hq:codeAny (model prog w) (A.under (.builtin "type.__call__" ⟨.ref C::rest,kw⟩)) (.call (.ref fI) ⟨.ref (h.objs.size+1)::rest,kw⟩) (W.InitBack (h.objs.size+1) R)
   ⟨(h.push (W.kdv_tup rest)).push (excO C h.objs.size),g,d,t,os⟩):
 codeAny (model prog w) A (.call (.ref C) ⟨rest,kw⟩) R ⟨h,g,d,t,os⟩:=by
 have f1:=tc_lookup
 have f2:=tc_bind (.ref C)
 have hTy:(⟨h,g,d,t,os⟩:Shared).TypeIs (.ref C) "type":=⟨_,hC,rfl⟩
 refine codeAny_of_tree ?_
 show wpAny _ _ (callAny (.ref C) _) _ _ _
 repeat (any_goals (first | assumption | with_reducible refine wpAny_loadPart_at hC ?_ | wp_step))
 refine ⟨rfl, ?_⟩
 refine codeAny_call_builtin_at (Code.quiet_builtin _ (by decide +kernel)) entry_typeCall (wpAny_check_type_call_sub hC (type_call_ownK F hT hC hi hb hrest ?_))
 refine codeAny_mono hq fun r s' z=> ?_
 rcases r with e | (v | _ | _ | _)<;>exact z
end
end PySem.HandSPX
namespace L2
open PySem PySem.Spec PyProof.Rows
def tMkOK (C:Addr) (sp:Sp) (m:Nat) (gV:List V→List V→List V) (tk:TA):St→Hp→XK→Prop:=fun σ H Q=>tk σ H fun zs H1=>zs.length=m∧∀a,H1 a=none→sp (gV [.ref a] zs) (upd H1 a (exo a C none))
 (fun v H2=>v= .non∧∃(d:Addr) (fs:List (Str×V)),H2 a=some (exo a C (some d))∧H2 d=some (exd d fs)∧H1 d=none∧Q (.ref C) (some d) (upd (del H2 a) d (.xd fs))) (fun _ _ _=>False)
theorem pmk_oexK {X:Cx} {CX:CXT} {x:Str} {C fI:Addr} {k:Nat} {fd:FuncData} {ps ks:List Str} {sp:Sp} {g:List Value→List Value→List Value} {gV:List V→List V→List V} {kws:List Keyword} {tk:TA} {p pos:Pos} (T:OexC X.K C) (iC:PySem.W.findIn X.K (.ref C) "__init__"=some (some (.ref fI))) (tI:PySem.W.typeIn X.K (.ref fI)=some (.type "function"))
 (F1:FnOk X.prog X.w X.K X.mg X.base CX k fI fd ps sp) (hr:Room (k+1) X.A) (hb:KBn X.K fd ps 1 ks g gV) (hx:Passes CX X (fun _ _ _=>False)) (hg:Gl X x) (hm:X.mg x=some (.ref C)) (hkw:PK X kws tk)
 (hall:(backToKw pos (keywordEach kws X.env)).all (·.1.isSome)=true:=by rfl) (hks:(backToKw pos (keywordEach kws X.env)).filterMap (·.1)=ks:=by rfl) (hdb:(x==("__debug__":Str))=false:=by decide)
 (hpl:((backTo pos (starEach [] X.env)).any (·.1)||(backToKw pos (keywordEach kws X.env)).any (·.1.isNone))=false:=by rfl):
 PMk X (.Call (.Name x p) [] kws pos) (tMkOK C sp ks.length gV tk):=by
 intro pins s σ H Q I h
 obtain ⟨nm,q,N,bs,bm,sn,sub,ab,col,dd,k0,k1,k2,k3,k5,hC,hbm⟩:=T.cls
 refine wpAny_Call_Name_kw (ld_glob I hg hm ?_ hdb)
 refine PySem.W.callWith_KW0 (h₀:=X.base) I.ok.mod.kin T.kC hall ?_ hpl
 refine thn (hkw.run pos pins s σ H _ I h) fun ws s1 ⟨zs,H1,I1,rz,l1,q1⟩=>⟨I1.kIn, ?_⟩
 rw [hks]
 obtain ⟨hp,g',dr,tk',os⟩:=s1
 have hsz:hp.objs.size≤hp.objs.size+1:=Nat.le_succ _
 have hn:H1 (hp.objs.size+1)=none:=I1.hok.fresh hsz
 have hq:=q1 (hp.objs.size+1) hn
 have kk:∀b o,hp.get? b=some o→((hp.push (PySem.W.kdv_tup [])).push (PySem.HandSPX.excO C hp.objs.size)).get? b=some o:=fun b o e=>Heap.get?_push_of_some _ (Heap.get?_push_of_some _ e)
 have hget:((hp.push (PySem.W.kdv_tup [])).push (PySem.HandSPX.excO C hp.objs.size)).get? (hp.objs.size+1)=some (PySem.HandSPX.excO C hp.objs.size):=by heap_get
 have I2:Inv X pins σ (upd H1 (hp.objs.size+1) (exo (hp.objs.size+1) C none)) ⟨(hp.push (PySem.W.kdv_tup [])).push (PySem.HandSPX.excO C hp.objs.size),g',dr,tk',os⟩:=
  I1.laid (t':=tk') (a:=hp.objs.size+1) (o:=exo (hp.objs.size+1) C none) (h':=(hp.push (PySem.W.kdv_tup [])).push (PySem.HandSPX.excO C hp.objs.size)) kk hsz (exo_ok hget)
 have r2:=hb.rel (.cons (show RelV (V.ref (hp.objs.size+1)) (Value.ref (hp.objs.size+1)) from rfl) .nil) rz
 refine wpAny_call (PySem.HandSPX.call_ownK F.excBase_ValueError (fun Y=>PySem.HandSPX.refsVE_contains Y bm hbm) (I1.kIn _ _ hC) (PySem.W.looks_findIn I1.kIn iC) (fun self=>PySem.W.bind_fn I1.kIn self tI) (by simp)
  (codeAny_mono (F1.run _ X.stack _ _ ⟨[Value.ref (hp.objs.size+1)],ks.zip ws⟩ (g [Value.ref (hp.objs.size+1)] ws) _ _ (fun _ _ _=>False) (hr.make C [] (ks.zip ws)) (I2.env0.make C [] (ks.zip ws)) (hb.to _ [Value.ref (hp.objs.size+1)] ws I2.kIn rfl (rz.length.symm.trans l1)) r2 hq) fun r s' hq'=> ?_))
 cases r with
 | error er=>exact hx pins σ _ _ er s' I2 hq'
 | ok fl=>
   cases fl with
   | ret u=>
     obtain ⟨v,H2,os2,bare2,un2,hok2,rv,ev,d,fs,ea,ed,hd1,q2⟩:=hq'
     subst ev
     obtain ⟨h2,g2,d2,t2,os'⟩:=s'
     exact ⟨rv,mk_end (raises_own T.exC T.tyC) I1 hsz kk un2 hok2 os2 bare2 ea ed hd1 q2⟩
   | next=>exact False.elim hq'
   | brk=>exact False.elim hq'
   | cont=>exact False.elim hq'
end L2
namespace M3
open PySem PySem.Spec PyProof.Rows L2
def FmtV (v:V):Prop:=(∃y:Str,v= .str y∧y.length≤1000)∨∃i:Int,v= .int i∧i.natAbs.log2<1920
def spXK (C:Addr) (fs:List Str) (mis:List Nat):Sp:=fun vs H Q _=>∃a ws,vs= .ref a::ws∧ws.length=fs.length∧(∀i∈mis,∃v,ws[i]? =some v∧FmtV v)∧H a=some (exo a C none)∧
 ∀dx H',H dx=none→dx≠a→H' a=some (exo a C (some dx))→H' dx=some (exd dx (fs.zip ws).reverse)→(∀b,b≠a→b≠dx→H' b=H b)→Q .non H'
theorem spXK_len {C:Addr} {fs:List Str} {mis:List Nat} {ps:List Str} (h:ps.length=fs.length+1):∀vs H Q E,spXK C fs mis vs H Q E→vs.length=ps.length:=by
 rintro vs H Q E ⟨a,ws,rfl,hl,_⟩
 rw [List.length_cons,hl,h]
section
variable {K:PySem.W.Frag} {C:Addr} {m m2:Str} {vs:List V} {H:Hp} {Q:VK} {E:XK} {N:List Str} {f1 f2 f3:Str}
theorem fmt_step {σ:L2.St} {j:Nat} {v:V} {acc:Str} {ts:List TE} {Qs:Str→Hp→Prop} (hs:σ[j]? =some (some v)) (fv:FmtV v) (ha:acc.length≤10000) (k:∀acc',acc'.length≤acc.length+3000→tJs ts acc' σ H Qs):tJs (tFmt (tVar j)::ts) acc σ H Qs:=by
 have sl:sizeLine=16777216:=by decide
 rcases fv with ⟨y,rfl,hy⟩ | ⟨i,rfl,hi⟩
 · exact ⟨.str y,hs,.inl ⟨y,rfl,by omega,y,rfl,by rw [Str.length_append];omega,k _ (by rw [Str.length_append];omega)⟩⟩
 · have e:=int_text_length_le (k:=1920) (by decide) hi
   have l2:(Str.ofString (toString i)).length≤3000:=by rw [PySem.ofString_length];omega
   exact ⟨.int i,hs,.inr ⟨i,rfl,hi,Str.ofString (toString i),rfl,by rw [Str.length_append];omega,k _ (by rw [Str.length_append];omega)⟩⟩
theorem txt_step {σ:L2.St} {m acc:Str} {ts:List TE} {Qs:Str→Hp→Prop} (hm:m.length≤1000) (ha:acc.length≤10000) (k:∀acc',acc'.length≤acc.length+1000→tJs ts acc' σ H Qs):tJs (tC (.str m)::ts) acc σ H Qs:=by
 have sl:sizeLine=16777216:=by decide
 exact ⟨m,rfl,by rw [Str.length_append];omega,k _ (by rw [Str.length_append];omega)⟩
end
structure XClsK (w:World) (K:PySem.W.Frag) (mg:Str→Option Value) (x:Str) (fs:List Str):Prop where
 g:mg x=some (.ref ((csOf w K mg).at_ x))
 oex:OexC K ((csOf w K mg).at_ x)
 no:∀f∈fs,PySem.W.findIn K (.ref ((csOf w K mg).at_ x)) f=some none
 fn:∀fI,PySem.W.findIn K (.ref ((csOf w K mg).at_ x)) "__init__"=some (some (.ref fI))→PySem.W.isFn K (.ref fI)=true
def fmtB:Option T→Bool
 | some (.str z)=>decide (z.length≤1000)
 | some (.int i)=>decide (i.natAbs.log2<1920)
 | _=>false
theorem zfst {α β:Type}:∀(xs:List α) (ys:List β),ys.length=xs.length→(xs.zip ys).map (·.1)=xs:=fun xs ys h=>List.map_fst_zip (by omega)
theorem zsnd {α β:Type}:∀(xs:List α) (ys:List β),ys.length=xs.length→(xs.zip ys).map (·.2)=ys:=fun xs ys h=>List.map_snd_zip (by omega)
theorem paired_snoc {α β:Type} {R:α→β→Prop} {a:α} {b:β}:∀ {as:List α} {bs:List β},Paired R as bs→R a b→Paired R (as++[a]) (bs++[b])
 | _,_,.nil,h=>.cons h .nil
 | _,_,.cons g r,h=>.cons g (paired_snoc r h)
theorem paired_rev {α β:Type} {R:α→β→Prop}:∀ {as:List α} {bs:List β},Paired R as bs→Paired R as.reverse bs.reverse
 | _,_,.nil=>.nil
 | _,_,.cons h r=>by rw [List.reverse_cons,List.reverse_cons];exact paired_snoc (paired_rev r) h
theorem fmtV_of {K:PySem.W.Frag} {H:Hp} {vs:List V} {ds:List T} (r:RepL K H vs ds) {i:Nat} (h:fmtB ds[i]? =true):∃v,vs[i]? =some v∧FmtV v:=by
 cases e:ds[i]? with
 | none=>rw [e] at h;cases h
 | some d=>
   rw [e] at h
   obtain ⟨v,ev,rv⟩:=r.get e
   refine ⟨v,ev, ?_⟩
   cases d with
   | str z=>cases rv.strI;exact .inl ⟨z,rfl,of_decide_eq_true h⟩
   | int z=>cases rv.intI;exact .inr ⟨z,rfl,of_decide_eq_true h⟩
   | _=>cases h
end M3
set_option maxHeartbeats 1000000
namespace M3
open PySem PySem.Spec PyProof.Rows L2
end M3
set_option maxHeartbeats 1000000
namespace M3
open PySem L2
end M3
namespace PySem
end PySem
namespace L2
open PySem PySem.Spec PyProof.Rows
end L2
namespace M3
open PySem L2
def dcomp3 (g:TG3) (tt:B3) (tk te:E3) (σ:List Sl) (X:X3) (Q:List (Key×T)→Prop):List T→List (Key×T)→Prop
 | [],acc=>Q acc
 | x::r,acc=>g x σ fun σ'=>tt σ' (fun b=>if b=true then tk σ' (fun y=>te σ' (fun z=>ob (asK y) fun k=>acc.length<sizeLine∧dcomp3 g tt tk te σ X Q r (putT acc k z)) X) (fun _=>False) else dcomp3 g tt tk te σ X Q r acc) X
def dc3 (s:A3) (g:TG3) (tt:B3) (tk te:E3) (vs:List Nat):E3:=fun σ Q X=>noOwn σ vs∧s σ (fun ds=>dcomp3 g tt tk te (wipe3 σ vs) X (fun ys=>Q (.dic ys)) ds []) X
end M3
set_option maxHeartbeats 1000000
namespace M3
open PySem L2
section
variable {K:PySem.W.Frag} {c:Cf} {W:WX}
theorem LiftFrO.l {te:TE} {t:E3} (h:LiftFrO K c W te t):LiftFr K c W te (ofL3 t):=by
 intro σ3 Q3 X ht Hb G A σ H Q R k e
 refine h _ _ _ ht Hb G A σ H _ R (fun D d H' f q=> ?_) e
 obtain ⟨xs,ex,q⟩:=ob_iff.mp q
 cases asL_is ex
 obtain ⟨vs,h1,h2⟩:=f.rep
 exact k D vs xs H' ⟨f.nD,f.vis,f.own,f.inv,h1,h2⟩ q
end
end M3
namespace PySem
open Sem (wp)
open AutoSeq1 (wpAny_loadPart')
end PySem
namespace M3
open PySem PySem.Spec PyProof.Rows L2
end M3
set_option maxHeartbeats 1000000
namespace M3
open PySem L2
def KeyAt (K:PySem.W.Frag) (H:Hp) (v:V) (κ:NestedKey):Prop:=κ.depth≤8∧∃t,nkT t=some κ∧Rep K H v t
theorem KeyAt.mono {K:PySem.W.Frag} {H H':Hp} {v:V} {κ:NestedKey} (h:KeyAt K H v κ) (e:Same H H'):KeyAt K H' v κ:=⟨h.1,h.2.choose,h.2.choose_spec.1,h.2.choose_spec.2.mono e⟩
def hasKd (xs:List (NestedKey×Addr×V)) (κ:NestedKey):Bool:=xs.any fun q=>decide (q.1=κ)
def stKd (xs:List (NestedKey×Addr×V)) (κ:NestedKey) (b:Addr) (v:V):List (NestedKey×Addr×V):=if hasKd xs κ=true then xs.map (fun q=>if q.1=κ then (q.1,q.2.1,v) else q) else xs++[(κ,b,v)]
abbrev KPair (xs:List (NestedKey×Addr×V)) (ys:List (NestedKey×Addr×Value)):Prop:=Paired (fun (p:NestedKey×Addr×V) (q:NestedKey×Addr×Value)=>p.1=q.1∧p.2.1=q.2.1∧RelV p.2.2 q.2.2) xs ys
theorem KPair.has {xs:List (NestedKey×Addr×V)} {ys:List (NestedKey×Addr×Value)} (r:KPair xs ys) (κ:NestedKey):(atKey ys κ).isSome=hasKd xs κ:=by
 unfold atKey hasKd
 rw [Option.isSome_map]
 induction r with
 | nil=>rfl
 | cons e _ ih=>
   rw [List.find?_cons,List.any_cons,e.1]
   generalize decide (_=κ)=b
   cases b with
   | true=>rfl
   | false=>simpa using ih
theorem KPair.app {xs:List (NestedKey×Addr×V)} {ys:List (NestedKey×Addr×Value)} {x:NestedKey×Addr×V} {y:NestedKey×Addr×Value} (r:KPair xs ys) (h:x.1=y.1∧x.2.1=y.2.1∧RelV x.2.2 y.2.2):KPair (xs++[x]) (ys++[y]):=by
 induction r with
 | nil=>exact .cons h .nil
 | cons e _ ih=>exact .cons e ih
theorem KPair.put {xs:List (NestedKey×Addr×V)} {ys:List (NestedKey×Addr×Value)} (r:KPair xs ys) {κ:NestedKey} {b:Addr} {v:V} {u:Value} (rv:RelV v u):KPair (stKd xs κ b v) (storedH ys κ b u):=by
 unfold stKd storedH
 rw [KPair.has r κ]
 by_cases z:hasKd xs κ=true
 · rw [if_pos z,if_pos z]
   clear z
   induction r with
   | nil=>exact .nil
   | @cons p y _ _ e _ ih=>
     refine .cons ?_ ih
     show (if p.1=κ then (p.1,p.2.1,v) else p).1=(if y.1=κ then (y.1,y.2.1,u) else y).1∧(if p.1=κ then (p.1,p.2.1,v) else p).2.1=(if y.1=κ then (y.1,y.2.1,u) else y).2.1∧RelV (if p.1=κ then (p.1,p.2.1,v) else p).2.2 (if y.1=κ then (y.1,y.2.1,u) else y).2.2
     by_cases q:y.1=κ
     · rw [if_pos q,if_pos (e.1.trans q)];exact ⟨e.1,e.2.1,rv⟩
     · rw [if_neg q,if_neg (fun z=>q (e.1.symm.trans z))];exact e
 · rw [if_neg z,if_neg z]
   exact KPair.app r ⟨rfl,rfl,rv⟩
end M3
set_option maxHeartbeats 1000000
namespace M3
open PySem L2
section
variable {X:Cx} {K:PySem.W.Frag}
theorem op_inLK (h:X.K=K) (hu:X.A.units+65<cLine):OpR X (compareOp .In) (rInD K):=h ▸ op_inD hu
end
def listD:PyData→Option (List PyData)
 | .list ds=>some ds
 | _=>none
def inLD3 (neg:Bool):T→T→(T→Prop)→Prop:=fun x y Q=>ob (dat x) fun d=>ob (dat y) fun e=>ob (listD e) fun ds=>SeqAt.shaped d=true∧SeqAt.shaped (.list ds)=true∧Q (.bl (if neg then !(ds.any fun z=>PyData.eqv z d) else ds.any fun z=>PyData.eqv z d))
section
variable {K:PySem.W.Frag} {c:Cf} {W:WX} {t:TA} {x:A3}
theorem rl_inLD:RL2 K (rInD K) (inLD3 false):=by
 intro c x y Q3 hh Hb G A σ3 σ H vx vy Q R rx ry k
 obtain ⟨d,ed,h1⟩:=ob_iff.mp hh
 obtain ⟨e,ee,h2⟩:=ob_iff.mp h1
 obtain ⟨ds,et,s1,s2,q⟩:=ob_iff.mp h2
 have:e= .list ds:=by
  cases e<;>simp [listD] at et
  subst et;rfl
 subst this
 exact ⟨d,ds,dp_of hid_same _ _ _ rx ed,dp_of hid_same _ _ _ ry ee,s1,s2,k _ _ H (Le.refl R.inv) (.bl _) q⟩
end
end M3
namespace L2
open PySem PySem.Spec PyProof.Rows M3
end L2
namespace M3
open PySem L2
section
variable {X:Cx} {td ty tx:TE} {o e f:Expr} {apos cpos:Pos}
def getKd (xs:List (NestedKey×Addr×V)) (κ:NestedKey):Option V:=(xs.find? fun q=>decide (q.1=κ)).map (·.2.2)
theorem KPair.get {xs:List (NestedKey×Addr×V)} {ys:List (NestedKey×Addr×Value)} (r:KPair xs ys) (κ:NestedKey) {v:V} {u:Value} (rv:RelV v u):RelV ((getKd xs κ).getD v) (((atKey ys κ).map (·.2)).getD u):=by
 unfold atKey getKd
 induction r with
 | nil=>exact rv
 | cons e _ ih=>
   rw [List.find?_cons,List.find?_cons,e.1]
   generalize decide (_=κ)=b
   cases b with
   | true=>exact e.2.2
   | false=>exact ih
end
end M3
set_option maxHeartbeats 1000000
namespace M3
open PySem L2
structure TabF (K:PySem.W.Frag) (mg:Str→Option Value) (base:Heap) (nm:Str) (st:Stmt) (dts:List T) (kns:List Str) (kts:List T) (Ts:List (Addr×Str)):Prop where
 d:DefAt K mg nm nm st dts kns kts
 ex:∃(f cL PL:Addr) (dV kV doc pm ct oc:Value) (an od:Option Addr) (osl:Array (Option Value)),K.lookup f=some ⟨oc,od,.func (PySem.W.fnOf nm nm (defArgs st) (defBody st) (defScope st) dV kV doc pm an (.ref cL) ct),osl⟩∧PySem.W.codeIn K (.ref cL) nm=true∧LamX.TabB base mg cL PL∧
  (PL,(nm++".<locals>.":Str)++"<lambda>")∈Ts∧(∀p∈Ts,p.1=PL→p.2=(nm++".<locals>.":Str)++"<lambda>")∧mg nm=some (.ref f)
theorem TabF.ok {P:Program} {w:World} {K:PySem.W.Frag} {mg:Str→Option Value} {base:Heap} {CX:CXT} {nm:Str} {st:Stmt} {dts kts:List T} {kns:List Str} {Ts:List (Addr×Str)} {k:Nat} {ps:List Str} {sp:Sp} (t:TabF K mg base nm st dts kns kts Ts)
 (h:∀(f cL PL:Addr) (dV kV doc pm ct oc:Value) (an od:Option Addr) (osl:Array (Option Value)),K.lookup f=some ⟨oc,od,.func (PySem.W.fnOf nm nm (defArgs st) (defBody st) (defScope st) dV kV doc pm an (.ref cL) ct),osl⟩→PySem.W.codeIn K (.ref cL) nm=true→LamX.TabB base mg cL PL→
   (PL,(nm++".<locals>.":Str)++"<lambda>")∈Ts→(∀p∈Ts,p.1=PL→p.2=(nm++".<locals>.":Str)++"<lambda>")→FnOk P w K mg base CX k f (PySem.W.fnOf nm nm (defArgs st) (defBody st) (defScope st) dV kV doc pm an (.ref cL) ct) ps sp):OkF P w K mg base CX nm nm st dts kns kts k ps sp:=by
 obtain ⟨f',fd,dvs,kvs,rd,rk,F,hm⟩:=t.d.ex
 obtain ⟨f,cL,PL,dV,kV,doc,pm,ct,oc,an,od,osl,lk,hc,tb,h1,h2,m⟩:=t.ex
 rw [hm] at m
 cases m
 obtain ⟨oc',od',dV',kV',doc',pm',an',cdv',ct',osl',e,lk',_⟩:=F.ex
 rw [lk] at lk'
 have e2:PySem.W.fnOf nm nm (defArgs st) (defBody st) (defScope st) dV kV doc pm an (.ref cL) ct=fd:=by
  injection lk' with z
  injection z with _ _ z _
  injection z
 refine ⟨_,fd,dvs,kvs,rd,rk,F,hm, ?_⟩
 rw [←e2]
 exact h _ cL PL dV kV doc pm ct oc an od osl lk hc tb h1 h2
end M3
set_option maxHeartbeats 1000000
namespace M3
open PySem PySem.Spec PyProof.Rows L2
theorem KPair.at_ {xs:List (NestedKey×Addr×V)} {ys:List (NestedKey×Addr×Value)} (r:KPair xs ys) (κ:NestedKey) {v:V} (h:getKd xs κ=some v):∃p,atKey ys κ=some p∧RelV v p.2:=by
 unfold atKey
 unfold getKd at h
 induction r with
 | nil=>cases h
 | @cons p q _ _ e _ ih=>
   rw [List.find?_cons,e.1] at h
   rw [List.find?_cons]
   by_cases z:q.1=κ
   · rw [decide_eq_true z] at h ⊢
     cases h
     exact ⟨_,rfl,e.2.2⟩
   · rw [decide_eq_false z] at h ⊢
     exact ih h
end M3
set_option maxHeartbeats 1000000
namespace M3
open PySem L2
end M3
set_option maxHeartbeats 1000000
namespace M3
open PySem L2
end M3
namespace M3
open PySem L2
section
variable {K:PySem.W.Frag} {c:Cf} {Hb H H':Hp} {G L0 L L':List Addr} {M M':Mem} {σ3:List Sl} {σ:St} {W:WX}
theorem R4.atI (r:R4 K c Hb G L0 L M σ3 σ H) {a C:Addr} {fs:List (Str×T)} (h:M a=some (.ins C fs)):a∈L∧∃dx ks,H a=some (.ins C dx ks)∧ks.map (·.1)=fs.map (·.1)∧RepL K (vs4 c G L H) (ks.map (·.2)) (fs.map (·.2)):=
 ⟨(r.cells.on a).mpr (by rw [h];intro z;cases z),r.cells.at_ a _ h⟩
theorem R4.fresh (R:R4 K c Hb G L0 L M σ3 σ H) {a:Addr} {o:HO} {t:T} (na:H a=none) (hr:∀Hv,Same (vs4 c G L H) Hv→CellRep K Hv (upd H a o) a t):M a=none∧R4 K c Hb G L0 (a::L) (mset M a (some t)) σ3 σ (upd H a o)∧Same (vs4 c G L H) (vs4 c G (a::L) (upd H a o)):=by
 have l:=R.r3.new (o:=o) na
 have nS:a ∉ c.S0++G++L:=by have:=R.r3.free na;rwa [S_nons] at this
 have mD:M a=none:=by
  cases e:M a with
  | none=>rfl
  | some t=>exact absurd (by simp [(R.cells.on a).mpr (by rw [e];intro z;cases z)]) nS
 have vis:Same (vs4 c G L H) (vs4 c G (a::L) (upd H a o)):=fun b u z=>by
  obtain ⟨z1,z2,z3⟩:=hid_all z
  refine hid_mk (by rw [upd_ne (ne_of_none z1 na)];exact z1) (fun y=>z2 ?_) z3
  rcases List.mem_append.mp y with y | y
  · exact List.mem_append.mpr (.inl y)
  · rcases List.mem_cons.mp y with y | y
    · rw [y,na] at z1;cases z1
    · exact List.mem_append.mpr (.inr y)
 refine ⟨mD,R.step l.inv vis (fun b h=>l.own b (by simp [h])) ⟨fun b=> ?_,fun b h=> ?_,fun b t' e=> ?_⟩,vis⟩
 · by_cases z:b=a
   · subst z;simp
   · rw [mset_ne z,List.mem_cons]
     exact ⟨fun h=>(R.cells.on b).mp (h.resolve_left z),fun h=>.inr ((R.cells.on b).mpr h)⟩
 · rcases List.mem_cons.mp h with rfl | h
   · exact fun z=>nS (by simp at z ⊢;rcases z with z | z<;>simp [z])
   · exact R.cells.off b h
 · by_cases z:b=a
   · subst z
     rw [mset_same] at e
     cases e
     exact hr _ vis
   · rw [mset_ne z] at e
     exact (R.cells.at_ b t' e).mono vis (l.own b (by simp [(R.cells.on b).mpr (by rw [e];intro z;cases z)]))
end
end M3
set_option maxHeartbeats 1000000
namespace M3
open PySem PySem.Spec PyProof.Rows L2 LamX PySem.W PySem.Calls
end M3
namespace PySem
structure ZOn (h:Heap) (zz TI TO j1 j2:Addr) (L:List (Addr×Value×Value)):Prop where
 ti:IsTupOf2 h TI (.ref j1) (.ref j2)
 st:(L=[]∧IsZip h zz TI TO .none∧∃a1 a2,IsTupOf2 h TO a1 a2)∨∃q fl,q∈L∧IsZipHeld h zz TI TO q.1 fl
 tup:∀q∈L,IsTupOf2 h q.1 q.2.1 q.2.2
theorem ZOn.keep {h h':Heap} {zz TI TO j1 j2:Addr} {L:List (Addr×Value×Value)} (z:ZOn h zz TI TO j1 j2 L) (k:∀b o,b=zz∨b=TI∨b=TO∨b∈L.map (·.1)→h.get? b=some o→h'.get? b=some o):ZOn h' zz TI TO j1 j2 L where
 ti:=k _ _ (.inr (.inl rfl)) z.ti
 st:=by
  rcases z.st with ⟨e,h1,a1,a2,h2⟩ | ⟨q,fl,hq,h1⟩
  · exact .inl ⟨e,k _ _ (.inl rfl) h1,a1,a2,k _ _ (.inr (.inr (.inl rfl))) h2⟩
  · exact .inr ⟨q,fl,hq,k _ _ (.inl rfl) h1⟩
 tup:=fun q hq=>k _ _ (.inr (.inr (.inr (List.mem_map.mpr ⟨q,hq,rfl⟩)))) (z.tup q hq)
end PySem
namespace PySem
end PySem
namespace M3
open PySem PySem.Spec PyProof.Rows L2
end M3
set_option maxHeartbeats 1000000
namespace M3
open PySem PySem.Spec PyProof.Rows L2
def frzL (F:Addr→Obj) (Z:List Addr) (H:Hp):Hp:=fun a=>if a∈Z then (match H a with | some (.dK kvs)=>some (.frz (F a) (.dK kvs)) | o=>o) else H a
def isDK:Option HO→Bool
 | some (.dK _)=>true
 | _=>false
def thw:Option HO→Option HO
 | some (.frz _ (.dK kvs))=>some (.dK kvs)
 | o=>o
def unfL (H:Hp) (Z:List Addr) (H1:Hp):Hp:=fun a=>if a∈Z∧isDK (H a)=true then thw (H1 a) else H1 a
theorem isDK_is {o:Option HO} (h:isDK o=true):∃kvs,o=some (.dK kvs):=by
 unfold isDK at h
 split at h
 · exact ⟨_,rfl⟩
 · cases h
section
variable {F:Addr→Obj} {Z:List Addr} {H H1:Hp} {a:Addr}
theorem frzL_dK {kvs:List (Key×V)} (hz:a∈Z) (h:H a=some (.dK kvs)):frzL F Z H a=some (.frz (F a) (.dK kvs)):=by
 unfold frzL
 rw [if_pos hz,h]
theorem frzL_ne (h:∀kvs,H a≠some (.dK kvs)):frzL F Z H a=H a:=by
 unfold frzL
 split
 · split
   · rename_i kvs e
     exact absurd e (h kvs)
   · rfl
 · rfl
theorem frzL_off (h:a ∉ Z):frzL F Z H a=H a:=by
 unfold frzL
 rw [if_neg h]
theorem unfL_off (h:¬(a∈Z∧isDK (H a)=true)):unfL H Z H1 a=H1 a:=by
 unfold unfL
 rw [if_neg h]
theorem unfL_on (h:a∈Z∧isDK (H a)=true):unfL H Z H1 a=thw (H1 a):=by
 unfold unfL
 rw [if_pos h]
end
end M3
set_option maxHeartbeats 1000000
namespace M3
open PySem L2
structure See where
 l:Bool
 d:Bool
 cl:List Addr
def hidC (e:See) (M:Mem) (a:Addr):Bool:=match M a with
 | some (.lst _)=> !e.l
 | some (.dic _)=> !e.d
 | some (.ins C _)=> !decide (C∈e.cl)
 | _=>true
def noC (e:See) (M:Mem) (L:List Addr):List Addr:=L.filter fun a=>hidC e M a
def isDic:Option T→Bool
 | some (.dic _)=>true
 | _=>false
def zs (e:See) (M:Mem) (L:List Addr):List Addr:=L.filter fun a=>e.d&&isDic (M a)
mutual
def okS (e:See):T→Bool
 | .tup xs=>okSL e xs
 | .lst xs=> !e.l&&okSL e xs
 | .ins C fs=> !decide (C∈e.cl)&&okSF e fs
 | .dic ts=> !e.d&&okSD e ts
 | .kd _ _=>false
 | _=>true
def okSL (e:See):List T→Bool
 | []=>true
 | x::xs=>okS e x&&okSL e xs
def okSF (e:See):List (Str×T)→Bool
 | []=>true
 | x::xs=>okS e x.2&&okSF e xs
def okSD (e:See):List (Key×T)→Bool
 | []=>true
 | x::xs=>okS e x.2&&okSD e xs
end
theorem okSL_get {e:See}:∀ {xs:List T} {i:Nat} {x:T},okSL e xs=true→xs[i]? =some x→okS e x=true
 | [],_,_,_,h=>by simp at h
 | x::xs,0,y,h,q=>by
   simp only [okSL,Bool.and_eq_true] at h
   simp at q
   rw [←q];exact h.1
 | x::xs,i+1,y,h,q=>by
   simp only [okSL,Bool.and_eq_true] at h
   exact okSL_get (i:=i) h.2 (by simpa using q)
theorem okSF_get {e:See}:∀ {xs:List (Str×T)} {i:Nat} {x:T},okSF e xs=true→(xs.map (·.2))[i]? =some x→okS e x=true
 | [],_,_,_,h=>by simp at h
 | x::xs,0,y,h,q=>by
   simp only [okSF,Bool.and_eq_true] at h
   simp at q
   rw [←q];exact h.1
 | x::xs,i+1,y,h,q=>by
   simp only [okSF,Bool.and_eq_true] at h
   exact okSF_get (i:=i) h.2 (by simpa using q)
theorem okSD_get {e:See}:∀ {xs:List (Key×T)} {i:Nat} {x:T},okSD e xs=true→(xs.map (·.2))[i]? =some x→okS e x=true
 | [],_,_,_,h=>by simp at h
 | x::xs,0,y,h,q=>by
   simp only [okSD,Bool.and_eq_true] at h
   simp at q
   rw [←q];exact h.1
 | x::xs,i+1,y,h,q=>by
   simp only [okSD,Bool.and_eq_true] at h
   exact okSD_get (i:=i) h.2 (by simpa using q)
section
variable {K:PySem.W.Frag} {c:Cf} {Hb H H' H2:Hp} {G L0 L L':List Addr} {M M':Mem} {σ3:List Sl} {σ:St} {W:WX} {e:See} {F:Addr→Obj} {v:V} {d:T}
theorem noC_sub {a:Addr} (h:a∈noC e M L):a∈L:=(List.mem_filter.mp h).1
theorem zs_sub {a:Addr} (h:a∈zs e M L):a∈L∧e.d=true∧isDic (M a)=true:=by
 obtain ⟨h1,h2⟩:=List.mem_filter.mp h
 simp only [Bool.and_eq_true] at h2
 exact ⟨h1,h2⟩
abbrev HL (F:Addr→Obj) (e:See) (M:Mem) (L:List Addr) (H:Hp):Hp:=frzL F (zs e M L) H
theorem HL_off {a:Addr} (h:a ∉ zs e M L):HL F e M L H a=H a:=frzL_off h
theorem HL_ne {a:Addr} (h:∀kvs,H a≠some (.dK kvs)):HL F e M L H a=H a:=frzL_ne h
theorem HL_dK {a:Addr} {kvs:List (Key×V)} (hz:a∈zs e M L) (h:H a=some (.dK kvs)):HL F e M L H a=some (.frz (F a) (.dK kvs)):=frzL_dK hz h
theorem zs_dK (cl:Cells K (c.S0++G) L M H) {a:Addr} (h:a∈zs e M L):isDK (H a)=true:=by
 obtain ⟨h1,_,h2⟩:=zs_sub h
 cases em:M a with
 | none=>rw [em] at h2;cases h2
 | some t=>
   rw [em] at h2
   have:=cl.at_ a t em
   cases t with
   | dic kvs=>obtain ⟨ks,e1,_⟩:=this;rw [e1];rfl
   | _=>cases h2
theorem HL_same:Same (vs4 c G L H) (hid (c.S0++G++noC e M L) (HL F e M L H)):=fun a o h=>by
 obtain ⟨h1,h2⟩:=hid_some h
 have nL:a ∉ L:=fun z=>h2 (List.mem_append.mpr (.inr z))
 refine hid_mk (by rw [HL_off (fun z=>nL (zs_sub z).1)];exact h1) (fun z=> ?_) (hid_vis h)
 rcases List.mem_append.mp z with z | z
 · exact h2 (List.mem_append.mpr (.inl z))
 · exact nL (noC_sub z)
theorem R4.look (r:R4 K c Hb G L0 L M σ3 σ H):R3 K c (HL F e M L H) (G++noC e M L) (nons σ3.length) σ3 σ (HL F e M L H):=by
 have e0:∀n,hid (c.S (G++L) (nons n)) H=vs4 c G L H:=fun n=>by rw [S_nons]
 have off:∀a∈c.S0++G,a ∉ zs e M L:=fun a h z=>r.cells.off a (zs_sub z).1 h
 have off2:∀a∈noC e M L,a ∉ zs e M L:=fun a h z=>by
  obtain ⟨_,z1,z2⟩:=zs_sub z
  have h:=(List.mem_filter.mp h).2
  unfold hidC at h
  cases em:M a with
  | none=>rw [em] at z2;cases z2
  | some t=>
    rw [em] at z2 h
    cases t with
    | dic _=>rw [z1] at h;cases h
    | _=>cases z2
 have hm:∀a,a∈G++noC e M L→a∈G++L∧a ∉ zs e M L:=fun a h=>by
  rcases List.mem_append.mp h with h | h
  · exact ⟨List.mem_append.mpr (.inl h),off a (List.mem_append.mpr (.inr h))⟩
  · exact ⟨List.mem_append.mpr (.inr (noC_sub h)),off2 a h⟩
 refine ⟨c.st H _ (fun a h=>HL_off (off a (List.mem_append.mpr (.inl h)))) (fun a q h=>by rw [HL_ne (fun kvs z=>by rw [h] at z;cases z)];exact h) r.r3.inv, ?_,fun a h=>⟨rfl, ?_⟩,fun a h o eo=> ?_,by rw [addrs_nons];exact List.nodup_nil,(by rw [addrs_nons];intro a h;cases h),r.r3.l1,r.r3.l2, ?_⟩
 · rw [S_nons, ←List.append_assoc]
   exact Same.refl _
 · obtain ⟨h1,h2⟩:=hm a h
   rw [HL_off h2]
   exact (r.r3.gk a h1).2
 · obtain ⟨h1,h2⟩:=hm a h
   rw [HL_off h2] at eo
   exact r.r3.gv a h1 o eo
 · intro i s o' x h1 h2 h3
   have z:=r.r3.at_ i s o' x h1 h2 h3
   rw [e0] at z
   rw [S_nons]
   cases s with
   | no=>exact z
   | val t=>obtain ⟨e,v,e2,q⟩:=z;exact ⟨e,v,e2,q.mono HL_same⟩
   | own t=>
     obtain ⟨a,e,_⟩:=z
     have:=(List.mem_replicate.mp (List.mem_of_getElem? h2)).2
     rw [this] at e
     cases e
end
end M3
set_option maxHeartbeats 1000000
namespace M3
open PySem L2
section
variable {K:PySem.W.Frag} {c:Cf} {Hb H H' H2:Hp} {G L0 L L':List Addr} {M M':Mem} {σ3:List Sl} {σ:St} {W:WX} {e:See} {F:Addr→Obj} {v:V} {d:T}
abbrev HU (e:See) (M:Mem) (L:List Addr) (H H2:Hp):Hp:=unfL H (zs e M L) H2
theorem HU_off {a:Addr} (h:a ∉ L):HU e M L H H2 a=H2 a:=unfL_off fun z=>h (zs_sub z.1).1
structure Lk (K:PySem.W.Frag) (c:Cf) (G L:List Addr) (M:Mem) (H:Hp) (e:See) (F:Addr→Obj) (Ds:List Addr) (H2:Hp):Prop where
 vis:Same (hid (c.S0++G++noC e M L) (HL F e M L H)) (hid (Ds++(c.S0++G++noC e M L)) H2)
 own:∀a∈G++noC e M L,H2 a=HL F e M L H a
 inv:c.I H2
 nD:∀D∈Ds,D ∉ c.S0++G++noC e M L
variable {Ds:List Addr}
theorem Lk.at_ (k:Lk K c G L M H e F Ds H2) (cl:Cells K (c.S0++G) L M H) {a:Addr} (h:a∈L):a ∉ Ds∧H2 a=HL F e M L H a:=by
 by_cases z:a∈noC e M L
 · exact ⟨fun q=>k.nD a q (List.mem_append.mpr (.inr z)),k.own a (List.mem_append.mpr (.inr z))⟩
 · obtain ⟨o,eo,vo,_⟩:=cl.obj h
   have nS:a ∉ c.S0++G++noC e M L:=fun y=>by
    rcases List.mem_append.mp y with y | y
    · exact cl.off a h y
    · exact z y
   by_cases zz:a∈zs e M L
   · obtain ⟨kvs,ek⟩:=isDK_is (zs_dK cl zz)
     have e1:HL F e M L H a=some (.frz (F a) (.dK kvs)):=HL_dK zz ek
     obtain ⟨q1,q2⟩:=hid_some (k.vis _ _ (hid_mk e1 nS))
     exact ⟨fun q=>q2 (List.mem_append.mpr (.inl q)),q1.trans e1.symm⟩
   · have e1:HL F e M L H a=some o:=(HL_off zz).trans eo
     obtain ⟨q1,q2⟩:=hid_some (k.vis _ _ (hid_mk e1 nS vo))
     exact ⟨fun q=>q2 (List.mem_append.mpr (.inl q)),q1.trans e1.symm⟩
theorem Lk.cell (k:Lk K c G L M H e F Ds H2) (cl:Cells K (c.S0++G) L M H) {a:Addr} (h:a∈L):HU e M L H H2 a=H a:=by
 obtain ⟨_,q⟩:=k.at_ cl h
 by_cases zz:a∈zs e M L
 · obtain ⟨kvs,ek⟩:=isDK_is (zs_dK cl zz)
   rw [show HU e M L H H2 a=thw (H2 a) from unfL_on ⟨zz,zs_dK cl zz⟩,q,HL_dK zz ek,ek]
   rfl
 · rw [show HU e M L H H2 a=H2 a from unfL_off fun z=>zz z.1,q,HL_off zz]
theorem Lk.stay (k:Lk K c G L M H e F Ds H2) (cl:Cells K (c.S0++G) L M H):Same (vs4 c G L H) (hid (Ds++(c.S0++G++L)) (HU e M L H H2)):=fun a o h=>by
 obtain ⟨h1,h2⟩:=hid_some h
 have nL:a ∉ L:=fun z=>h2 (List.mem_append.mpr (.inr z))
 have nz:a ∉ zs e M L:=fun z=>nL (zs_sub z).1
 have nS:a ∉ c.S0++G++noC e M L:=fun z=>by
  rcases List.mem_append.mp z with z | z
  · exact h2 (List.mem_append.mpr (.inl z))
  · exact nL (noC_sub z)
 obtain ⟨q1,q2⟩:=hid_some (k.vis _ _ (hid_mk ((HL_off nz).trans h1) nS (hid_vis h)))
 refine hid_mk ((HU_off nL).trans q1) (fun z=> ?_) (hid_vis h)
 rcases List.mem_append.mp z with z | z
 · exact q2 (List.mem_append.mpr (.inl z))
 · exact h2 z
theorem Lk.seenC (k:Lk K c G L M H e F Ds H2) (cl:Cells K (c.S0++G) L M H) {a:Addr} (h:a∈L) (n:a ∉ noC e M L):(e.l=true∧∃vs,H2 a=some (.lst vs))∨(e.d=true∧∃o kvs,H2 a=some (.frz o (.dK kvs)))∨∃C dx ks,C∈e.cl∧H2 a=some (.ins C dx ks):=by
 obtain ⟨_,q⟩:=k.at_ cl h
 have nh:hidC e M a=false:=by
  cases z:hidC e M a with
  | false=>rfl
  | true=>exact absurd (List.mem_filter.mpr ⟨h,z⟩) n
 cases em:M a with
 | none=>exact absurd em ((cl.on a).mp h)
 | some t=>
   have at_:=cl.at_ a t em
   unfold hidC at nh
   rw [em] at nh
   cases t with
   | lst xs=>
     obtain ⟨vs,h1,_⟩:=at_
     have nz:a ∉ zs e M L:=fun z=>by
      have:=(zs_sub z).2.2
      rw [em] at this
      cases this
     exact .inl ⟨by simpa using nh,vs,by rw [q,HL_off nz];exact h1⟩
   | dic ts=>
     obtain ⟨ks,h1,_⟩:=at_
     have ed:e.d=true:=by simpa using nh
     have nz:a∈zs e M L:=List.mem_filter.mpr ⟨h,by rw [em,ed];rfl⟩
     exact .inr (.inl ⟨ed,_,ks,by rw [q,HL_dK nz h1]⟩)
   | ins C fs=>
     obtain ⟨dx,ks,h1,_⟩:=at_
     have nz:a ∉ zs e M L:=fun z=>by
      have:=(zs_sub z).2.2
      rw [em] at this
      cases this
     exact .inr (.inr ⟨C,dx,ks,by simpa using nh,by rw [q,HL_off nz];exact h1⟩)
   | tup xs=>cases nh
   | _=>exact at_.elim
theorem Lk.ok (k:Lk K c G L M H e F Ds H2) (cl:Cells K (c.S0++G) L M H) (r:Rep K (hid (Ds++(c.S0++G++noC e M L)) H2) v d):okS e d=true→Rep K (hid (Ds++(c.S0++G++L)) (HU e M L H H2)) v d:=by
 have put:∀ {a:Addr} {o:HO},hid (Ds++(c.S0++G++noC e M L)) H2 a=some o→a ∉ L→hid (Ds++(c.S0++G++L)) (HU e M L H H2) a=some o:=fun {a o} h n=>by
  obtain ⟨h1,h2⟩:=hid_some h
  refine hid_mk ((HU_off n).trans h1) (fun z=>h2 ?_) (hid_vis h)
  rcases List.mem_append.mp z with z | z
  · exact List.mem_append.mpr (.inl z)
  · refine List.mem_append.mpr (.inr ?_)
    rcases List.mem_append.mp z with z | z
    · exact List.mem_append.mpr (.inl z)
    · exact absurd z n
 have out:∀ {a:Addr} {o:HO},hid (Ds++(c.S0++G++noC e M L)) H2 a=some o→a ∉ noC e M L:=fun {a o} h z=>(hid_some h).2 (List.mem_append.mpr (.inr (List.mem_append.mpr (.inr z))))
 induction r with
 | non=>exact fun _=>.non
 | bl b=>exact fun _=>.bl b
 | int i=>exact fun _=>.int i
 | str x=>exact fun _=>.str x
 | ty n=>exact fun _=>.ty n
 | ref a=>exact fun _=>.ref a
 | @tup a vs ts h hl hr ih=>
   intro q
   have q:okSL e ts=true:=by simpa [okS] using q
   refine .tup ?_ hl fun i v t h1 h2=>ih i v t h1 h2 (okSL_get q h2)
   rcases h with ⟨o,dn,eo⟩ | h
   · refine .inl ⟨o,dn,put eo fun z=> ?_⟩
     have e2:=(hid_some eo).1
     rcases k.seenC cl z (out eo) with ⟨_,vs,e1⟩ | ⟨_,o,kvs,e1⟩ | ⟨C,dx,ks,_,e1⟩<;>rw [e1] at e2<;>cases e2
   · exact .inr h
 | @lst a vs ts h hl hr ih=>
   intro q
   have q:e.l=false∧okSL e ts=true:=by simpa [okS] using q
   refine .lst (put h fun z=> ?_) hl fun i v t h1 h2=>ih i v t h1 h2 (okSL_get q.2 h2)
   have e2:=(hid_some h).1
   rcases k.seenC cl z (out h) with ⟨l1,vs,e1⟩ | ⟨_,o,kvs,e1⟩ | ⟨C,dx,ks,_,e1⟩
   · rw [l1] at q;cases q.1
   · rw [e1] at e2;cases e2
   · rw [e1] at e2;cases e2
 | @dic a kvs ts h hk hr ih=>
   intro q
   have q:e.d=false∧okSD e ts=true:=by simpa [okS] using q
   obtain ⟨o,h⟩:=h
   refine .dic ⟨o,put h fun z=> ?_⟩ hk fun i v t h1 h2=>ih i v t h1 h2 (okSD_get q.2 h2)
   have e2:=(hid_some h).1
   rcases k.seenC cl z (out h) with ⟨l1,vs,e1⟩ | ⟨d1,o,kvs,e1⟩ | ⟨C,dx,ks,_,e1⟩
   · rw [e1] at e2;cases e2
   · rw [d1] at q;cases q.1
   · rw [e1] at e2;cases e2
 | @ins a C dx fs ts h hk hr ih=>
   intro q
   have q:C ∉ e.cl∧okSF e ts=true:=by simpa [okS] using q
   refine .ins (put h fun z=> ?_) hk fun i v t h1 h2=>ih i v t h1 h2 (okSF_get q.2 h2)
   have e2:=(hid_some h).1
   rcases k.seenC cl z (out h) with ⟨l1,vs,e1⟩ | ⟨d1,o,kvs,e1⟩ | ⟨C,dx,ks,hc,e1⟩
   · rw [e1] at e2;cases e2
   · rw [e1] at e2;cases e2
   · rw [e1] at e2;cases e2;exact q.1 hc
end
end M3
set_option maxHeartbeats 1000000
namespace M3
open PySem L2
def okC (e:See):T→Bool
 | .lst xs=>okSL e xs
 | .dic ts=>okSL e (ts.map (·.2))
 | _=>false
end M3
set_option maxHeartbeats 1000000
namespace M3
open PySem L2
end M3
set_option maxHeartbeats 1000000
namespace M3
open PySem PySem.Spec PyProof.Rows L2
end M3
set_option maxHeartbeats 1000000
namespace M3
open PySem PySem.Spec PyProof.Rows L2
end M3
set_option maxHeartbeats 1000000
namespace M3
open PySem PySem.Spec PyProof.Rows L2
end M3
set_option maxHeartbeats 1000000
namespace M3
open PySem L2
section
variable {K:PySem.W.Frag} {c:Cf} {Hb H H' H1:Hp} {G L0 L L':List Addr} {M M':Mem} {σ3:List Sl} {σ:St} {W:WX}
theorem RepL.reverse {H:Hp} {vs:List V} {ts:List T} (r:RepL K H vs ts):RepL K H vs.reverse ts.reverse:=by
 induction r with
 | nil=>exact .nil
 | cons h _ ih=>rw [List.reverse_cons,List.reverse_cons];exact ih.append (.cons h .nil)
end
end M3
set_option maxHeartbeats 1000000
namespace M3
open PySem PySem.Spec PyProof.Rows L2
end M3
set_option maxHeartbeats 1000000
namespace M3
open PySem PySem.Spec PyProof.Rows L2
section
variable {K:PySem.W.Frag} {c:Cf} {Hb H H' H2:Hp} {G L0 L L':List Addr} {M M':Mem} {σ3:List Sl} {σ:L2.St} {W:WX} {e:See} {n:Nat} {is:List Nat} {F:Addr→Obj} {Ds:List Addr}
theorem Lk.xd (k:Lk K c G L M H e F [] H2) (cl:Cells K (c.S0++G) L M H) {d:Addr} {fs:List (Str×V)} (h:hid (c.S0++G++noC e M L) H2 d=some (.xd fs)):vs4 c G L (HU e M L H H2) d=some (.xd fs):=by
 obtain ⟨h1,h2⟩:=hid_some h
 have nL:d ∉ L:=fun z=>by
  by_cases nn:d∈noC e M L
  · exact h2 (List.mem_append.mpr (.inr nn))
  · rcases k.seenC cl z nn with ⟨_,vs,q⟩ | ⟨_,o,kvs,q⟩ | ⟨C,dx,ks,_,q⟩<;>(rw [h1] at q;cases q)
 refine hid_mk ((HU_off nL).trans h1) (fun z=> ?_) (hid_vis h)
 rcases List.mem_append.mp z with z | z
 · exact h2 (List.mem_append.mpr (.inl z))
 · exact nL z
end
end M3
set_option maxHeartbeats 1000000
namespace L2
open PySem PySem.Spec PyProof.Rows
end L2
namespace M3
open PySem L2
end M3
set_option maxHeartbeats 1000000
namespace M3
open PySem PySem.Spec PyProof.Rows L2
end M3
set_option maxHeartbeats 1000000
namespace M3
open PySem L2
end M3
set_option maxHeartbeats 1000000
namespace M3
open PySem PySem.Spec PyProof.Rows L2 LamX PySem.W PySem.Calls
end M3
set_option maxHeartbeats 1000000
namespace M3
open PySem L2 PySem.Froz PyProof.Rows
end M3
set_option maxHeartbeats 1000000
namespace M3
open PySem L2 PySem.Froz PyProof.Rows
section
variable {P:Program} {w:World} {A:Around} {E:Value→Shared→Prop} {s:Shared}
structure Fr1 (f:Addr) (s s':Shared):Prop where
 heap:∀b o,b≠f→s.heap.get? b=some o→s'.heap.get? b=some o
 gens:s'.gens=s.gens
 os:s'.os=s.os
theorem Fr1.refl {f:Addr} {s:Shared}:Fr1 f s s:=⟨fun _ _ _ e=>e,rfl,rfl⟩
theorem Fr1.trans {f:Addr} {s s' s'':Shared} (x:Fr1 f s s') (y:Fr1 f s' s''):Fr1 f s s'':=⟨fun b o n e=>y.heap b o n (x.heap b o n e),y.gens.trans x.gens,y.os.trans x.os⟩
theorem fits_of {t t':SetTable} {n:Nat} (h:t.fits n=true) (e1:t'.place=t.place) (e2:t'.dummies=t.dummies) (e3:t'.mask=t.mask):t'.fits n=true:=by
 unfold SetTable.fits SetTable.fill at h ⊢
 rw [e1,e2,e3];exact h
theorem TxS.weak {es:Array (Int×Value)} {ep ep':Nat} {t t':SetTable} {l:List Str} (T:TxS P w (es,ep,t) l) (e1:t'.place=t.place) (e2:t'.dummies=t.dummies) (e3:t'.mask=t.mask) (hl:w.params.followText "set-order"=true∨t'.led=true):TxS P w (es,ep',t') l:=
 ⟨⟨T.ok.el,T.ok.mem,T.ok.sz,fits_of T.ok.fit e1 e2 e3⟩,T.nd,by show Ris t'.place.toList;rw [e1];exact T.ris,hl⟩
end
end M3
set_option maxHeartbeats 1000000
namespace M3
open PySem L2 PySem.Froz PyProof.Rows PySem.Spec
end M3
namespace L2
open PySem
end L2
namespace M3
open PySem L2
end M3
namespace L2H
open PySem PySem.Spec PyProof.Rows L2 HotX
end L2H
namespace L2
open PySem PySem.Spec PyProof.Rows L2H HotX
end L2
namespace M3
open PySem PySem.Spec PyProof.Rows L2 L2H HotX
section
variable {K:PySem.W.Frag} {C:Addr} {m:Str} {vs:List V} {H:Hp} {Q:VK} {E:XK} {N:List Str} {f1:Str}
theorem bodyXK1 (hN:N.length=2) (hm:m.length≤1000) (T:OexC K C) (n1:PySem.W.findIn K (.ref C) f1=some none) (h:spXK C [f1] [0] vs H Q E):
 tSeq (tDrop (tVeI K (tCons (tVar 0) (tCons (fun σ H Q=>tJs [tC (.str m),tFmt (tVar 1)] Str.empty σ H fun out H1=>Q (.str out) H1) tNil)))) (tOst K f1 (tVar 0) (tVar 1)) {nx:=fun _ H'=>Q .non H',rt:=Q} (start N vs) H:=by
 obtain ⟨a,ws,rfl,hl,hf,ha,q⟩:=h
 match ws,hl with
 | [w1],_=>
   obtain ⟨v,e1,fv⟩:=hf 0 (by simp)
   cases e1
   have es:start N [V.ref a,w1]=[some (.ref a),some w1]:=by
    rw [start_eq,hN]
    rfl
   rw [es]
   refine ⟨.ref a,rfl, ?_⟩
   refine txt_step hm (by decide) fun acc h1=>fmt_step (j:=1) rfl fv (by rw [show Str.empty.length=0 from rfl] at h1;omega) fun acc' h2=> ?_
   refine ⟨a,C,_,rfl,by show (1:Nat)≤1000;decide,T,ha, ?_⟩
   refine ⟨w1,rfl,.ref a,rfl,a,C,rfl,T,n1,.inl ⟨ha,fun dx h1 h2=> ?_⟩⟩
   exact q dx _ h1 h2 upd_same ((upd_ne h2).trans upd_same) fun b b1 b2=>(upd_ne b1).trans (upd_ne b2)
end
end M3
namespace M3
open PySem PySem.Spec PyProof.Rows L2 L2H
end M3
set_option maxHeartbeats 1000000
namespace M3
open PySem L2
end M3
namespace PySem.SeqAt
open AutoSeq1 (wpAny_loadPart')
open MeetsSeq MeetsSeq2 MeetsSeq3 SeqRoads2
end PySem.SeqAt
namespace M3
open PySem L2
end M3
namespace L2
open PySem PySem.Spec PyProof.Rows
end L2
namespace M3
open PySem L2
end M3
namespace M3
open PySem PySem.Spec PyProof.Rows L2
section
variable {P:Program} {w:World} {K:PySem.W.Frag} {mg:Str→Option Value} {base:Heap} {x m qual:Str} {fs ks ps:List Str} {mis is:List Nat} {st:Stmt} {k:Nat} {dts:List T} {C:Addr}
structure InX (P:Program) (w:World) (K:PySem.W.Frag) (mg:Str→Option Value) (base:Heap) (lv:Nat) (C:Addr) (m qual:Str) (st:Stmt) (ps fs:List Str) (mis:List Nat) (dts:List T):Prop where
 ex:∃fI fd dvs,(∀H,RepL K H dvs dts)∧PySem.W.findIn K (.ref C) "__init__"=some (some (.ref fI))∧FunD K m qual (defArgs st) (defBody st) (defScope st) dvs [] fI fd∧FnOk P w K mg base CX0 lv fI fd ps (spXK C fs mis)
theorem inX_of (D:MethAt K C "__init__" m qual st dts [] []) (h:∀(fI:Addr) (fd:FuncData) (dvs:List V),FunD K m qual (defArgs st) (defBody st) (defScope st) dvs [] fI fd→FnOk P w K mg base CX0 k fI fd ps (spXK C fs mis)):InX P w K mg base k C m qual st ps fs mis dts:=by
 obtain ⟨fI,fd,dvs,kvs,rd,rk,F,hm⟩:=D.ex
 exact ⟨fI,fd,dvs,rd,hm,F,h fI fd dvs F⟩
structure InK (P:Program) (w:World) (K:PySem.W.Frag) (mg:Str→Option Value) (base:Heap) (lv:Nat) (C:Addr) (fs:List Str) (mis:List Nat) (ks:List Str) (is:List Nat) (dvs:List V):Prop where
 ex:∃fI fd ps g,PySem.W.findIn K (.ref C) "__init__"=some (some (.ref fI))∧FnOk P w K mg base CX0 lv fI fd ps (spXK C fs mis)∧KBn K fd ps 1 ks g (fun us ws=>us++sel is (ws++dvs))
structure InKT (P:Program) (w:World) (K:PySem.W.Frag) (mg:Str→Option Value) (base:Heap) (lv:Nat) (C:Addr) (fs:List Str) (mis:List Nat) (ks:List Str) (is:List Nat) (dts:List T):Prop where
 ex:∃dvs,(∀H,RepL K H dvs dts)∧InK P w K mg base lv C fs mis ks is dvs
theorem InX.kwD (M:InX P w K mg base k C m qual st ps fs mis dts) (hd:dts≠[]) (ks:List Str) (is:List Nat)
 (h:∀(Ta:Addr) (kV doc pm:Value) (an:Option Addr) (cdv ct:Value) (us its ws:List Value),us.length=1→its.length=dts.length→ws.length=ks.length→
   ∃k,bindArgs (PySem.W.fnOf m qual (defArgs st) (defBody st) (defScope st) (.ref Ta) kV doc pm an cdv ct) ⟨us,ks.zip ws⟩=seqItems? (.ref Ta) >>= k∧k (some its.toArray)=pure (ps.zip (us++sel is (ws++its)))):InKT P w K mg base k C fs mis ks is dts:=by
 obtain ⟨fI,fd,dvs,rd,hm,F,O⟩:=M.ex
 have e1:=(rd (fun _=>none)).length
 obtain ⟨oc,od,dV,kV,doc,pm,an,cdv,ct,osl,rfl,lk,hcd,hD,hK⟩:=F.ex
 rcases hD with ⟨e,_⟩ | ⟨_,Ta,o,its,n,rfl,lT,oT,rT⟩
 · rw [e] at e1
   cases dts with
   | nil=>exact absurd rfl hd
   | cons=>cases e1
 · refine ⟨dvs,rd,fI,_,ps,fun us ws=>us++sel is (ws++its),hm,O, ?_,fun r1 r2=>r1.append (vals_sel is (r2.append rT))⟩
   intro s us ws X l1 l2
   obtain ⟨k,q1,q2⟩:=h Ta kV doc pm an cdv ct us its ws l1 (rT.length.symm.trans e1) l2
   refine BindsTo.of_looks fun M=> ?_
   rw [q1]
   exact looks_items X lT oT (.of_pure q2)
end
end M3
namespace M3
open PySem PySem.Spec PyProof.Rows L2
section
variable {X:Cx} {P:Program} {w:World} {K:PySem.W.Frag} {mg:Str→Option Value} {base:Heap} {x:Str} {fs ks:List Str} {mis is:List Nat} {dvs:List V} {k:Nat} {tk:TA} {p pos:Pos} {kws:List Keyword}
theorem pmk_hK (M:InK P w K mg base k ((csOf w K mg).at_ x) fs mis ks is dvs) (C:XClsK w K mg x fs) (hP:X.prog=P) (hw:X.w=w) (hK:X.K=K) (hmg:X.mg=mg) (hba:X.base=base)
 (hr:Room (k+1) X.A) (hg:Gl X x) (hkw:PK X kws tk) (hall:(backToKw pos (keywordEach kws X.env)).all (·.1.isSome)=true:=by rfl) (hks:(backToKw pos (keywordEach kws X.env)).filterMap (·.1)=ks:=by rfl) (hdb:(x==("__debug__":Str))=false:=by decide)
 (hpl:((backTo pos (starEach [] X.env)).any (·.1)||(backToKw pos (keywordEach kws X.env)).any (·.1.isNone))=false:=by rfl):
 PMk X (.Call (.Name x p) [] kws pos) (tMkOK ((csOf w K mg).at_ x) (spXK ((csOf w K mg).at_ x) fs mis) ks.length (fun us ws=>us++sel is (ws++dvs)) tk):=by
 subst hP hw hK hmg hba
 obtain ⟨fI,fd,ps,g,hm,F,B⟩:=M.ex
 exact pmk_oexK C.oex hm (beq_iff_eq.mp (C.fn fI hm)) F hr B pass0 hg C.g hkw hall hks hdb hpl
end
def raiseD3 (cls:Value) (fs:List Str) (mis:List Nat) (m:Nat) (is:List Nat) (dts:List T) (x:A3):S3:=fun N σ=>x σ (fun ds=>ds.length=m∧(sel is (ds++dts)).length=fs.length∧(mis.all fun i=>fmtB (sel is (ds++dts))[i]?)=true∧N.xn σ ⟨cls,(fs.zip (sel is (ds++dts))).reverse⟩) (N.xn σ)
theorem lift_raiseD {K:PySem.W.Frag} {c:Cf} {W:WX} {tk:TA} {x:A3} {C:Addr} {fs:List Str} {mis is:List Nat} {m:Nat} {dvs:List V} {dts:List T} (hd:∀H,RepL K H dvs dts) (ha:LiftA K c W tk x):LiftS K c W (fun _ σ H=>tMkOK C (spXK C fs mis) m (fun us ws=>us++sel is (ws++dvs)) tk σ H fun cls d H'=>W cls d σ H') (raiseD3 (.ref C) fs mis m is dts x):=by
 intro N σ3 h Hb G A σ H D R Z
 refine ha _ _ _ h Hb G A σ H _ R (fun us es H1 L1 r0 q0=> ?_) (fun cls dd x H' L r q=>Z.xn _ _ _ _ _ _ _ (R.le L) r q)
 obtain ⟨hm,hl,hf,q⟩:=q0
 have R1:=R.le L1
 have r:=repL_sel is (r0.append (hd _))
 refine ⟨by rw [r0.length,hm],fun b hb=> ?_⟩
 show spXK C fs mis ([V.ref b]++sel is (us++dvs)) _ _ _
 generalize sel is (us++dvs)=vs at r
 generalize sel is (es++dts)=ds at r hl hf q
 have hlv:vs.length=fs.length:=by rw [r.length,hl]
 refine ⟨b,vs,rfl,hlv,fun i hi=>fmtV_of r (List.all_eq_true.mp hf i hi),upd_same,fun dx H' h1 h2 e1 e2 e3=>⟨rfl,dx,(fs.zip vs).reverse,e1,e2, ?_, ?_⟩⟩
 · rw [upd_ne h2] at h1;exact h1
 · have h1':H1 dx=none:=by rw [upd_ne h2] at h1;exact h1
   have eH:upd (L2.del H' b) dx (.xd (fs.zip vs).reverse)=upd H1 dx (.xd (fs.zip vs).reverse):=by
    funext y
    by_cases y1:y=dx
    · rw [y1,upd_same,upd_same]
    · rw [upd_ne y1,upd_ne y1]
      by_cases y2:y=b
      · rw [y2,del_same,hb]
      · rw [del_ne y2,e3 y y2 y1,upd_ne y2]
   rw [eH]
   have L2:=R1.new (o:=.xd (fs.zip vs).reverse) h1'
   refine Z.xn _ _ _ _ _ _ ⟨.ref C,(fs.zip ds).reverse⟩ (R1.le L2) ⟨rfl,_,R1.newAt h1', ?_, ?_⟩ q
   · rw [List.map_reverse,List.map_reverse,zfst fs vs hlv,zfst fs ds hl]
   · rw [List.map_reverse,List.map_reverse,zsnd fs vs hlv,zsnd fs ds hl]
     exact paired_rev (r.mono L2.vis)
def rSplit:V→List V→Hp→VK→Prop:=fun x xs H Q=>∃a b,x= .str a∧xs=[.str b]∧(b.length==0)=false∧a.length+2≤sizeLine∧rNewStrs (Txt.split a b) H Q
theorem pe_split {X:Cx} {o e:Expr} {to te:TE} {apos pos:Pos} (ho:PE X o to) (he:PE X e te) (hs:starEach [e] X.env=[(false,eval e X.env)]:=by rfl) (hbase:attributeBase o "split" X.env (eval o X.env)=eval o X.env:=by rfl) (hline:(apos.endLine==pos.line)=true:=by rfl):
 PE X (.Call (.Attribute o "split" apos) [e] [] pos) (tM1 rSplit to te):=pe_m1 F.slot_str_split F.type_str_split mt_split ho he hs hbase hline
def splitM3 (s:Str) (y:T) (Q:T→Prop):Prop:=ob (asS y) fun b=>(b.length==0)=false∧s.length+2≤sizeLine∧Q (.lst ((Txt.split s b).map T.str))
theorem rep_strs {K:PySem.W.Frag} {H:Hp}:∀ys:List Str,RepL K H (ys.map V.str) (ys.map T.str)
 | []=>.nil
 | y::ys=>.cons (.str y) (rep_strs ys)
theorem rl_split {K:PySem.W.Frag}:RLm K rSplit splitM3:=by
 intro c s y Q3 hh Hb G A σ3 σ H vy Q R ry k
 obtain ⟨b,eb,h0,hz,h1⟩:=ob_iff.mp hh
 cases asS_is eb
 refine ⟨s,b,rfl,by rw [ry.strI],h0,hz,fun p hp=> ?_⟩
 have L:=R.new (o:=.lst ((Txt.split s b).map V.str)) hp
 exact k _ _ _ L (.mkL (R.newAt hp) (rep_strs _)) h1
end M3
namespace CwR
open PySem PySem.Spec PyProof.Rows L2
def tReplI (to te:TE) (y:Str) (zs:List Str):TE:=fun σ H Q=>to σ H fun v H1=>∃x,v= .str x∧∀(a:Addr) (o:Obj),H1 a=none→te σ (upd H1 a (.frz o (.lst (zs.map V.str)))) fun i H2=>H2 a=some (.frz o (.lst (zs.map V.str)))∧
 ∃(k:Int) (z:Str),i= .int k∧0≤k∧zs[k.toNat]? =some z∧x.length+(x.length+1) * z.length≤16777216∧Q (.str (Txt.replace x y z)) H2
section
variable {X:Cx} {o e f:Expr} {te tf:TE} {to:TE} {y z0 z1 z2:Str} {j j0 j1 j2:Nat} {c0 c1 c2 c3 lp sp apos pos p p':Pos}
theorem pet_replI (ho:PE X o to) (he:PE X e te) (h0:(y==z0)=false:=by decide) (h1:(y==z1)=false:=by decide) (h2:(y==z2)=false:=by decide) (hs:PlainIx e:=by intro _ _;rfl)
 (hst:starEach [.Constant (.str y) j c0,.Subscript (.List [.Constant (.str z0) j0 c1,.Constant (.str z1) j1 c2,.Constant (.str z2) j2 c3] lp) e sp] X.env=[(false,eval (.Constant (.str y) j c0) X.env),(false,eval (.Subscript (.List [.Constant (.str z0) j0 c1,.Constant (.str z1) j1 c2,.Constant (.str z2) j2 c3] lp) e sp) X.env)]:=by rfl)
 (hbase:attributeBase o "replace" X.env (eval o X.env)=eval o X.env:=by rfl) (hline:(apos.endLine==pos.line)=true:=by rfl):
 PET X (.Call (.Attribute o "replace" apos) [.Constant (.str y) j c0,.Subscript (.List [.Constant (.str z0) j0 c1,.Constant (.str z1) j1 c2,.Constant (.str z2) j2 c3] lp) e sp] [] pos) (tReplI to te y [z0,z1,z2]):=by
 intro pins s σ H Q ht I h
 refine PySem.Call_method2 hbase hst hline (wpAny_mono (PySem.wpAny_toks (ho.run pins s σ H _ I h)) (fun v s1 q=> ?_) fun _ _ z=>z.2)
 obtain ⟨hk,v',H1,I1,r1,x,e1,q⟩:=q
 subst e1
 obtain ⟨tx,e2⟩:=r1
 subst e2
 refine ⟨"str",_,PySem.F.plainAttrs_str,PySem.F.slot_str_replace,PySem.F.type_str_replace,typeIs_str _ _ _,(fun _ e=>nomatch e),Calls.callWith_builtin rfl (Calls.evalArgs_plain (Calls.spliced_cons ?_))⟩
 refine Calls.Constant_str (Calls.spliced_cons ?_)
 refine Subscript_ ?_
 refine wpAny_List_spliced ?_
 show wpAny _ _ (spliced ((false,eval (.Constant (.str z0) j0 c1) X.env)::backTo lp (starEach [.Constant (.str z1) j1 c2,.Constant (.str z2) j2 c3] X.env))) _ _ _
 refine Calls.spliced_cons (Calls.Constant_str ?_)
 show wpAny _ _ (spliced ((false,eval (.Constant (.str z1) j1 c2) X.env)::backTo lp (starEach [.Constant (.str z2) j2 c3] X.env))) _ _ _
 refine Calls.spliced_cons (Calls.Constant_str ?_)
 show wpAny _ _ (spliced ((false,eval (.Constant (.str z2) j2 c3) X.env)::backTo lp (starEach [] X.env))) _ _ _
 refine Calls.spliced_cons (Calls.Constant_str (Calls.spliced_nil ?_))
 have h3:(3:Nat)≤sizeLine:=by decide
 refine ⟨h3, ?_⟩
 have hn:=I1.hok.fresh (Nat.le_refl s1.heap.objs.size)
 have I2:=I1.laid (t':=s1.toks+1+1+1+1) (a:=s1.heap.objs.size) (o:=.frz {cls:=.type "list",data:=.seq #[.str z0 (s1.toks+1),.str z1 (s1.toks+1+1),.str z2 (s1.toks+1+1+1)] 0} (.lst [.str z0,.str z1,.str z2]))
  (h':=s1.heap.push {cls:=.type "list",data:=.seq #[.str z0 (s1.toks+1),.str z1 (s1.toks+1+1),.str z2 (s1.toks+1+1+1)] 0})
  (fun b u e=>Heap.get?_push_of_some _ e) (Nat.le_refl _) ⟨Heap.get?_push_size _ rfl,h3,[.str z0 (s1.toks+1),.str z1 (s1.toks+1+1),.str z2 (s1.toks+1+1+1)],0,.cons ⟨_,rfl⟩ (.cons ⟨_,rfl⟩ (.cons ⟨_,rfl⟩ .nil)),Heap.get?_push_size _ rfl⟩
 refine wpAny_mono (he.run pins _ σ _ _ I2 (q _ _ hn)) (fun u s3 hq=> ?_) fun _ _ z=>z
 obtain ⟨w,H3,I3,r3,ea,k,z,ew,k0,ez,hb,q3⟩:=hq
 subst ew
 obtain ⟨tu,eu⟩:=r3
 subst eu
 have hl:s3.heap.IsList s1.heap.objs.size #[.str z0 (s1.toks+1),.str z1 (s1.toks+1+1),.str z2 (s1.toks+1+1+1)]:=by
  obtain ⟨g,_⟩:=I3.hok _ _ ea
  exact ⟨_,g,rfl,0,rfl⟩
 have hk3:k.toNat<3:=(List.getElem?_eq_some_iff.mp ez).1
 have lim:k<2 ^ 63:=by omega
 rcases (show k.toNat=0∨k.toNat=1∨k.toNat=2 by omega) with e | e | e
 · rw [e] at ez
   cases ez
   refine item_listR (x:=.str z0 (s1.toks+1)) hl k0 lim (by rw [e];rfl) ?_ (hs _ _)
   refine Calls.spliced_nil ?_
   exact PySem.SC.replace (by show s1.toks≠0;omega) (by show s1.toks+1≠0;omega) (by show s1.toks≠s1.toks+1;omega) h0 hb fun t' k=>⟨.str (Txt.replace x y z0),H3,I3.tok k,⟨t',rfl⟩,q3⟩
 · rw [e] at ez
   cases ez
   refine item_listR (x:=.str z1 (s1.toks+1+1)) hl k0 lim (by rw [e];rfl) ?_ (hs _ _)
   refine Calls.spliced_nil ?_
   exact PySem.SC.replace (by show s1.toks≠0;omega) (by show s1.toks+1+1≠0;omega) (by show s1.toks≠s1.toks+1+1;omega) h1 hb fun t' k=>⟨.str (Txt.replace x y z1),H3,I3.tok k,⟨t',rfl⟩,q3⟩
 · rw [e] at ez
   cases ez
   refine item_listR (x:=.str z2 (s1.toks+1+1+1)) hl k0 lim (by rw [e];rfl) ?_ (hs _ _)
   refine Calls.spliced_nil ?_
   exact PySem.SC.replace (by show s1.toks≠0;omega) (by show s1.toks+1+1+1≠0;omega) (by show s1.toks≠s1.toks+1+1+1;omega) h2 hb fun t' k=>⟨.str (Txt.replace x y z2),H3,I3.tok k,⟨t',rfl⟩,q3⟩
end
end CwR
namespace CwR
open PySem PySem.Spec PyProof.Rows L2
def PTT (X:Cx) (c:Expr) (t:TT):Prop:=
 ∀(pins:List (Addr×Obj)) (s:Shared) (σ:L2.St) (H:Hp) (Q:Bool→Hp→Prop),Inv X pins σ H s→t σ H Q→wpAny (model X.prog X.w) X.A (isTrue c X.env (eval c X.env)) (fun d s1=>1≤s1.toks∧∃H1,Inv X pins σ H1 s1∧Q d H1) X.xe s
section
variable {X:Cx} {a:Expr} {ta:TE} {pos cp:Pos} {j:Nat} {n:Int}
theorem ptt_cmp {op:CmpOp} {r:R2} (ho:OpR X (compareOp op) r) (ha:PE X a ta) (hm:behindInMarks op (.Constant (.int n) j cp)=false):PTT X (.Compare a [op] [.Constant (.int n) j cp] pos) (tTest (tOp r ta (tC (.int n)))):=by
 intro pins s σ H Q I h
 refine wpAny_isTrue_Compare1 (thn (ha.run pins s σ H _ I h) fun v s1 ⟨x,H1,I1,r1,q1⟩=>wpAny_Constant_int ?_) hm
 have I2:Inv X pins σ H1 {s1 with toks:=s1.toks+1}:=I1.tok _
 refine wpAny_mono (PySem.wpAny_toks (ho pins _ σ H1 x (.int n) v _ _ I2 r1 ⟨_,rfl⟩ q1)) (fun c s3 q=> ?_) fun _ _ z=>z.2
 obtain ⟨hk,z,H3,I3,r3,k,e,q3⟩:=q
 subst e
 cases r3
 refine wpAny_truthy_bool ⟨?_,H3,I3,q3⟩
 have:s1.toks+1≤s3.toks:=hk
 omega
theorem pss_ifT {c:Expr} {a b rest:List Stmt} {tc:TT} {t u w:TS} (hc:PTT X c tc) (ha:PSsT X a t) (hb:PSsT X b u) (hr:PSsT X rest w):PSs X (.If c a b pos::rest) (tSeq (tIfS tc t u) w):=by
 refine ⟨fun pins s σ H D I h=> ?_⟩
 refine wpAny_execs_cons (wpAny_If (wpAny_mono (hc pins s σ H _ I h) (fun d s1 q=> ?_) fun _ _ z=>z))
 obtain ⟨hk,H1,I1,q1⟩:=q
 have fin:∀(sts:List Stmt) (v:TS),PSsT X sts v→v {D with nx:=w D} σ H1→wpAny (model X.prog X.w) X.A (execs sts X.env) (fun f s2=>1≤s2.toks∧SP X pins {D with nx:=w D} f s2) X.xe s1:=fun sts v hv qv=>
  wpAny_mono (PySem.wpAny_toks (hv pins s1 σ H1 _ hk I1 qv)) (fun f s2 q=>⟨Nat.le_trans hk q.1,q.2⟩) fun _ _ z=>z.2
 have k:∀f s2,(1≤s2.toks∧SP X pins {D with nx:=w D} f s2)→match f with | .next=>wpAny (model X.prog X.w) X.A (execs rest X.env) (SP X pins D) X.xe s2 | f=>SP X pins D f s2:=by
  intro f s2 q
  obtain ⟨h2,q⟩:=q
  cases f with
  | next=>
    obtain ⟨σ',H',I',q⟩:=q
    exact hr pins s2 σ' H' D h2 I' q
  | ret v=>exact q
  | brk=>exact q
  | cont=>exact q
 cases d with
 | true=>exact wpAny_mono (fin a t ha q1) (fun f s2 q=>by have:=k f s2 q;cases f<;>exact this) fun _ _ z=>z
 | false=>exact wpAny_mono (fin b u hb q1) (fun f s2 q=>by have:=k f s2 q;cases f<;>exact this) fun _ _ z=>z
end
end CwR
namespace M3
open PySem L2
def replI3 (y:Str) (zs:List Str) (a e:E3):E3:=fun σ Q X=>a σ (fun d=>ob (asS d) fun s=>e σ (fun i=>ob (asI i) fun k=>0≤k∧ob zs[k.toNat]? fun z=>s.length+(s.length+1) * z.length≤16777216∧Q (.str (Txt.replace s y z))) X) X
theorem lift_replI {K:PySem.W.Frag} {c:Cf} {W:WX} {ta te:TE} {a e:E3} {y:Str} {zs:List Str} (ha:Lift K c W ta a) (he:Lift K c W te e):Lift K c W (CwR.tReplI ta te y zs) (replI3 y zs a e):=by
 intro σ3 Q3 X h Hb G A σ H Q R k ex
 refine ha _ _ _ h Hb G A σ H _ R (fun vx x H1 L1 rx hx=> ?_) ex
 obtain ⟨s,es,hy⟩:=ob_iff.mp hx
 cases asS_is es
 refine ⟨s,rx.strI,fun ad o hn=> ?_⟩
 have R1:=R.le L1
 have L2:=R1.new (o:=.frz o (.lst (zs.map V.str))) hn
 have at2:=R1.newAt (o:=.frz o (.lst (zs.map V.str))) hn
 refine he _ _ _ hy Hb G A σ _ _ (R1.le L2) (fun vi i H3 L3 ri hz=> ?_) (fun cls dd x H' L=>ex cls dd x H' ((L1.trans L2).trans L))
 obtain ⟨j,ej,k0,hw⟩:=ob_iff.mp hz
 obtain ⟨z,ez,hb,q⟩:=ob_iff.mp hw
 cases asI_is ej
 refine ⟨(hid_some (L3.vis _ _ at2)).1,j,z,ri.intI,k0,ez,hb, ?_⟩
 exact k _ _ H3 ((L1.trans L2).trans L3) (.str _) q
end M3
namespace M3
open PySem PySem.Spec L2
def rRepS:R2:=fun x y H Q=>∃s k,x= .str s∧y= .int k∧1≤k∧k≤1000∧s.length≤1000∧Q (.str (Txt.mul s k)) H
theorem mulOk_small {s:Str} {k:Int} (h1:1≤k) (h2:k≤1000) (h3:s.length≤1000):MulOk s k:=by
 refine ⟨?_,fun _ _=> ?_,fun _ _=> ?_⟩
 · rw [decide_eq_false (by omega),decide_eq_false (by omega)]<;>rfl
 · intro h
   have h4:(1000:Int)≤(2 ^ 63-1) / k:=(Int.le_ediv_iff_mul_le (by omega)).mpr (by omega)
   omega
 · have a1:s.length * k.toNat≤1000 * 1000:=Nat.mul_le_mul h3 (by omega)
   have e:sizeLine=16777216:=by decide
   unfold Builtin.Str.tooLong
   exact decide_eq_false (by omega)
theorem op_repS {X:Cx}:OpR X (binaryOp .Mult) rRepS:=by
 intro pins s σ H x y v u Q I rx ry h
 obtain ⟨z,k,rfl,rfl,h1,h2,h3,q⟩:=h
 obtain ⟨t,rfl⟩:=rx
 obtain ⟨t',rfl⟩:=ry
 exact SB.mul (mulOk_small h1 h2 h3) fun t2 k2=>⟨.str (Txt.mul z k),H,I.tok _,⟨_,rfl⟩,q⟩
def repS3:T→T→(T→Prop)→Prop:=fun x y Q=>ob (asS x) fun s=>ob (asI y) fun k=>1≤k∧k≤1000∧s.length≤1000∧Q (.str (Txt.mul s k))
theorem rl_repS {K:PySem.W.Frag}:RL2 K rRepS repS3:=by
 intro c x y Q3 hh Hb G A σ3 σ H vx vy Q R rx ry k
 obtain ⟨s,ex,hh1⟩:=ob_iff.mp hh
 obtain ⟨n,ey,h1,h2,h3,q⟩:=ob_iff.mp hh1
 cases asS_is ex
 cases asI_is ey
 exact ⟨s,n,rx.strI,ry.intI,h1,h2,h3,k _ _ H (Le.refl R.inv) (.str _) q⟩
end M3
namespace Law
open PySem L2 M3
def whyT (C:Cs):WhyL:=[(C.at_ "BadText","BadText",["at"]),(C.at_ "PourError","PourError",[])]
structure CsOk (C:Cs):Prop where
 e_BadText_BadText:C.em (.ref (C.at_ "BadText")) (.ref (C.at_ "BadText"))=some true
 e_BadText_PourError:C.em (.ref (C.at_ "BadText")) (.ref (C.at_ "PourError"))=some true
def is_cellB (C:Cs):S3:=(seq3 (ifs3 (tst3 (op3 isN3 (v3 0) (k3 .non))) (ret3 (k3 (.bl true))) next3) (seq3 (ifs3 (or3 (tst3 (call3 isi3 (cons3 (v3 0) (cons3 (k3 (.ty "bool")) nil3)))) (not3 (tst3 (call3 isi3 (cons3 (v3 0) (cons3 (k3 (.ty "int")) nil3)))))) (ret3 (k3 (.bl false))) next3) (ret3 (chain3 M3.leP M3.leP (un3 neg3 (v3 1)) (v3 0) (v3 1)))))
def is_cellD (C:Cs):F3:=fun ds Q X=>is_cellB C {nx:=fun _=>Q .non,rt:=Q,xn:=fun _=>X} (start3 2 ds)
theorem is_cell_ex (C:Cs):∃f:F3,f=is_cellD C:=⟨_,rfl⟩
noncomputable def is_cell (C:Cs):F3:=Classical.choose (is_cell_ex C)
theorem is_cell_def (C:Cs):is_cell C=is_cellD C:=Classical.choose_spec (is_cell_ex C)
def is_nameB (C:Cs):S3:=(seq3 (ifs3 (or3 (not3 (tst3 (call3 isi3 (cons3 (v3 0) (cons3 (k3 (.ty "str")) nil3))))) (not3 (tst3 (chain3 M3.leP M3.leP (k3 (.int 1)) (call3 len3 (cons3 (v3 0) nil3)) (k3 (.int 8)))))) (ret3 (k3 (.bl false))) next3) (ret3 (call3 all3 (cons3 (lc3 (iterP (v3 0)) (name3 1) yes3 (op3 (inP false) (v3 1) (k3 (.str "abcdefghijklmnopqrstuvwxyz"))) [1]) nil3))))
def is_nameD (C:Cs):F3:=fun ds Q X=>is_nameB C {nx:=fun _=>Q .non,rt:=Q,xn:=fun _=>X} (start3 2 ds)
theorem is_name_ex (C:Cs):∃f:F3,f=is_nameD C:=⟨_,rfl⟩
noncomputable def is_name (C:Cs):F3:=Classical.choose (is_name_ex C)
theorem is_name_def (C:Cs):is_name C=is_nameD C:=Classical.choose_spec (is_name_ex C)
def is_valueB (C:Cs) (r_is_value:F3) (r_is_truth:F3) (r_parts_fit:F3):S3:=(seq3 (ifs3 (or3 (tst3 (op3 M3.ltP (v3 1) (k3 (.int 1)))) (or3 (not3 (tst3 (call3 isi3 (cons3 (v3 0) (cons3 (k3 (.ty "tuple")) nil3))))) (or3 (tst3 (op3 M3.ltP (call3 len3 (cons3 (v3 0) nil3)) (k3 (.int 2)))) (not3 (tst3 (call3 isi3 (cons3 (op3 ixP (v3 0) (k3 (.int 0))) (cons3 (k3 (.ty "str")) nil3)))))))) (ret3 (k3 (.bl false))) next3) (seq3 (ifs3 (tst3 (op3 eqP (op3 ixP (v3 0) (k3 (.int 0))) (k3 (.str "cell")))) (ret3 (andV3 (op3 eqP (call3 len3 (cons3 (v3 0) nil3)) (k3 (.int 2))) (fn3 2 (is_cell C) (cons3 (op3 ixP (v3 0) (k3 (.int 1))) nil3) [(.int 999999999999999999999999999999)]))) next3) (seq3 (ifs3 (tst3 (op3 (inP false) (op3 ixP (v3 0) (k3 (.int 0))) (tup3 (cons3 (k3 (.str "old")) (cons3 (k3 (.str "new")) nil3))))) (ret3 (andV3 (op3 eqP (call3 len3 (cons3 (v3 0) nil3)) (k3 (.int 2))) (call3 isi3 (cons3 (op3 ixP (v3 0) (k3 (.int 1))) (cons3 (k3 (.ty "str")) nil3))))) next3) (ret3 (andV3 (inK3 [("plus",(.str "vv")),("minus",(.str "vv")),("times",(.str "vv")),("least",(.str "vv")),("most",(.str "vv")),("choose",(.str "tvv"))] false (op3 ixP (v3 0) (k3 (.int 0)))) (fn3 3 r_parts_fit (cons3 (v3 0) (cons3 (getK3 [("plus",(.str "vv")),("minus",(.str "vv")),("times",(.str "vv")),("least",(.str "vv")),("most",(.str "vv")),("choose",(.str "tvv"))] (op3 ixP (v3 0) (k3 (.int 0)))) (cons3 (v3 1) nil3))) []))))))
def is_truthB (C:Cs) (r_is_value:F3) (r_is_truth:F3) (r_parts_fit:F3):S3:=(seq3 (ifs3 (or3 (tst3 (op3 M3.ltP (v3 1) (k3 (.int 1)))) (or3 (not3 (tst3 (call3 isi3 (cons3 (v3 0) (cons3 (k3 (.ty "tuple")) nil3))))) (or3 (tst3 (op3 M3.ltP (call3 len3 (cons3 (v3 0) nil3)) (k3 (.int 1)))) (not3 (tst3 (call3 isi3 (cons3 (op3 ixP (v3 0) (k3 (.int 0))) (cons3 (k3 (.ty "str")) nil3)))))))) (ret3 (k3 (.bl false))) next3) (ret3 (andV3 (inK3 [("yes",(.str "")),("is",(.str "vv")),("below",(.str "vv")),("lacks",(.str "v")),("not",(.str "t")),("both",(.str "tt")),("either",(.str "tt"))] false (op3 ixP (v3 0) (k3 (.int 0)))) (fn3 3 r_parts_fit (cons3 (v3 0) (cons3 (getK3 [("yes",(.str "")),("is",(.str "vv")),("below",(.str "vv")),("lacks",(.str "v")),("not",(.str "t")),("both",(.str "tt")),("either",(.str "tt"))] (op3 ixP (v3 0) (k3 (.int 0)))) (cons3 (v3 1) nil3))) []))))
def parts_fit_1 (C:Cs) (r_is_value:F3) (r_is_truth:F3) (r_parts_fit:F3):S3:=(asg3 (v3 0) (gstar3 2 1 (gcons3 (name3 3) (gcons3 (name3 4) gnil3))))
def parts_fit_2t_1 (C:Cs) (r_is_value:F3) (r_is_truth:F3) (r_parts_fit:F3):S3:=(ret3 (k3 (.bl false)))
def parts_fit_2 (C:Cs) (r_is_value:F3) (r_is_truth:F3) (r_parts_fit:F3):S3:=(ifs3 (tst3 (op3 neP (call3 len3 (cons3 (v3 4) nil3)) (call3 len3 (cons3 (v3 1) nil3)))) (parts_fit_2t_1 C r_is_value r_is_truth r_parts_fit) next3)
def parts_fit_3b_1 (C:Cs) (r_is_value:F3) (r_is_truth:F3) (r_parts_fit:F3):S3:=(asg3 (if3 (tst3 (op3 eqP (v3 6) (k3 (.str "v")))) (fn3 2 r_is_value (cons3 (v3 5) (cons3 (op3 sub3 (v3 2) (k3 (.int 1))) nil3)) []) (fn3 2 r_is_truth (cons3 (v3 5) (cons3 (op3 sub3 (v3 2) (k3 (.int 1))) nil3)) [])) (name3 7))
def parts_fit_3b_2t_1 (C:Cs) (r_is_value:F3) (r_is_truth:F3) (r_parts_fit:F3):S3:=(ret3 (k3 (.bl false)))
def parts_fit_3b_2 (C:Cs) (r_is_value:F3) (r_is_truth:F3) (r_parts_fit:F3):S3:=(ifs3 (not3 (truth3 (v3 7))) (parts_fit_3b_2t_1 C r_is_value r_is_truth r_parts_fit) next3)
def parts_fit_3b (C:Cs) (r_is_value:F3) (r_is_truth:F3) (r_parts_fit:F3):S3:=(seq3 (parts_fit_3b_1 C r_is_value r_is_truth r_parts_fit) (parts_fit_3b_2 C r_is_value r_is_truth r_parts_fit))
def parts_fit_3 (C:Cs) (r_is_value:F3) (r_is_truth:F3) (r_parts_fit:F3):S3:=(for3 (iterZG3 (cons3 (v3 4) (cons3 (v3 1) nil3))) (gtup3 2 (gcons3 (name3 5) (gcons3 (name3 6) gnil3))) (parts_fit_3b C r_is_value r_is_truth r_parts_fit))
def parts_fit_4 (C:Cs) (r_is_value:F3) (r_is_truth:F3) (r_parts_fit:F3):S3:=(ret3 (k3 (.bl true)))
def parts_fitB (C:Cs) (r_is_value:F3) (r_is_truth:F3) (r_parts_fit:F3):S3:=(seq3 (parts_fit_1 C r_is_value r_is_truth r_parts_fit) (seq3 (parts_fit_2 C r_is_value r_is_truth r_parts_fit) (seq3 (parts_fit_3 C r_is_value r_is_truth r_parts_fit) (parts_fit_4 C r_is_value r_is_truth r_parts_fit))))
def is_value_is_truth_parts_fit_ (C:Cs):Nat→F3×F3×F3
 | 0=>(f0,f0,f0)
 | n+1=>((fun ds Q X=>is_valueB C (is_value_is_truth_parts_fit_ C n).1 (is_value_is_truth_parts_fit_ C n).2.1 (is_value_is_truth_parts_fit_ C n).2.2 {nx:=fun _=>Q .non,rt:=Q,xn:=fun _=>X} (start3 2 ds)),(fun ds Q X=>is_truthB C (is_value_is_truth_parts_fit_ C n).1 (is_value_is_truth_parts_fit_ C n).2.1 (is_value_is_truth_parts_fit_ C n).2.2 {nx:=fun _=>Q .non,rt:=Q,xn:=fun _=>X} (start3 2 ds)),(fun ds Q X=>parts_fitB C (is_value_is_truth_parts_fit_ C n).1 (is_value_is_truth_parts_fit_ C n).2.1 (is_value_is_truth_parts_fit_ C n).2.2 {nx:=fun _=>Q .non,rt:=Q,xn:=fun _=>X} (start3 8 ds)))
theorem is_value_ex (C:Cs) (n:Nat):∃f:F3,f=(is_value_is_truth_parts_fit_ C n).1:=⟨_,rfl⟩
noncomputable def is_value (C:Cs) (n:Nat):F3:=Classical.choose (is_value_ex C n)
theorem is_value_def (C:Cs) (n:Nat):is_value C n=(is_value_is_truth_parts_fit_ C n).1:=Classical.choose_spec (is_value_ex C n)
theorem is_value_zero (C:Cs):is_value C 0=f0:=by rw [is_value_def];rfl
theorem is_truth_ex (C:Cs) (n:Nat):∃f:F3,f=(is_value_is_truth_parts_fit_ C n).2.1:=⟨_,rfl⟩
noncomputable def is_truth (C:Cs) (n:Nat):F3:=Classical.choose (is_truth_ex C n)
theorem is_truth_def (C:Cs) (n:Nat):is_truth C n=(is_value_is_truth_parts_fit_ C n).2.1:=Classical.choose_spec (is_truth_ex C n)
theorem is_truth_zero (C:Cs):is_truth C 0=f0:=by rw [is_truth_def];rfl
theorem parts_fit_ex (C:Cs) (n:Nat):∃f:F3,f=(is_value_is_truth_parts_fit_ C n).2.2:=⟨_,rfl⟩
noncomputable def parts_fit (C:Cs) (n:Nat):F3:=Classical.choose (parts_fit_ex C n)
theorem parts_fit_def (C:Cs) (n:Nat):parts_fit C n=(is_value_is_truth_parts_fit_ C n).2.2:=Classical.choose_spec (parts_fit_ex C n)
theorem parts_fit_zero (C:Cs):parts_fit C 0=f0:=by rw [parts_fit_def];rfl
theorem is_value_succ (C:Cs) (n:Nat):is_value C (n+1)=fun ds Q X=>is_valueB C (is_value C n) (is_truth C n) (parts_fit C n) {nx:=fun _=>Q .non,rt:=Q,xn:=fun _=>X} (start3 2 ds):=by
 rw [is_value_def,is_value_def,is_truth_def,parts_fit_def]
 rfl
theorem is_truth_succ (C:Cs) (n:Nat):is_truth C (n+1)=fun ds Q X=>is_truthB C (is_value C n) (is_truth C n) (parts_fit C n) {nx:=fun _=>Q .non,rt:=Q,xn:=fun _=>X} (start3 2 ds):=by
 rw [is_truth_def,is_value_def,is_truth_def,parts_fit_def]
 rfl
theorem parts_fit_succ (C:Cs) (n:Nat):parts_fit C (n+1)=fun ds Q X=>parts_fitB C (is_value C n) (is_truth C n) (parts_fit C n) {nx:=fun _=>Q .non,rt:=Q,xn:=fun _=>X} (start3 8 ds):=by
 rw [parts_fit_def,is_value_def,is_truth_def,parts_fit_def]
 rfl
def read_cellB (C:Cs):S3:=(seq3 (ifs3 (tst3 (op3 eqP (v3 0) (k3 (.str "gap")))) (ret3 (k3 .non)) next3) (seq3 (asg3 (if3 (tst3 (op3 eqP (sl3 slP (v3 0) no3 (part3 (k3 (.int 1)))) (k3 (.str "-")))) (sl3 slP (v3 0) (part3 (k3 (.int 1))) no3) (v3 0)) (name3 1)) (seq3 (ifs3 (or3 (not3 (tst3 (chain3 M3.leP M3.leP (k3 (.int 1)) (call3 len3 (cons3 (v3 1) nil3)) (k3 (.int 30))))) (not3 (tst3 (call3 all3 (cons3 (lc3 (iterP (v3 1)) (name3 3) yes3 (op3 (inP false) (v3 3) (k3 (.str "0123456789"))) [3]) nil3))))) (raiseD3 (.ref (C.at_ "BadText")) ["at"] [0] 0 [0] [(.int 0)] nil3) next3) (seq3 (ifs3 (and3 (tst3 (op3 eqP (op3 ixP (v3 1) (k3 (.int 0))) (k3 (.str "0")))) (tst3 (op3 neP (v3 0) (k3 (.str "0"))))) (raiseD3 (.ref (C.at_ "BadText")) ["at"] [0] 0 [0] [(.int 0)] nil3) next3) (seq3 (asg3 (call3 intS3 (cons3 (v3 0) nil3)) (name3 2)) (seq3 (ifs3 (not3 (tst3 (chain3 M3.leP M3.leP (un3 neg3 (k3 (.int 999999999999999999999999999999))) (v3 2) (k3 (.int 999999999999999999999999999999))))) (raiseD3 (.ref (C.at_ "BadText")) ["at"] [0] 0 [0] [(.int 0)] nil3) next3) (ret3 (v3 2))))))))
def read_cellD (C:Cs):F3:=fun ds Q X=>read_cellB C {nx:=fun _=>Q .non,rt:=Q,xn:=fun _=>X} (start3 4 ds)
theorem read_cell_ex (C:Cs):∃f:F3,f=read_cellD C:=⟨_,rfl⟩
noncomputable def read_cell (C:Cs):F3:=Classical.choose (read_cell_ex C)
theorem read_cell_def (C:Cs):read_cell C=read_cellD C:=Classical.choose_spec (read_cell_ex C)
def cut_parts_1 (C:Cs):S3:=(ownset3 (lst3 nil3) 1)
def cut_parts_2 (C:Cs):S3:=(asg3 (k3 (.int 0)) (name3 2))
def cut_parts_3 (C:Cs):S3:=(asg3 (k3 (.int 0)) (name3 3))
def cut_parts_4b_1t_1 (C:Cs):S3:=(augI3 (fun i j=>i+j) 2 (k3 (.int 1)))
def cut_parts_4b_1 (C:Cs):S3:=(ifs3 (tst3 (op3 eqP (v3 5) (k3 (.str "(")))) (cut_parts_4b_1t_1 C) next3)
def cut_parts_4b_2t_1 (C:Cs):S3:=(augI3 (fun i j=>i-j) 2 (k3 (.int 1)))
def cut_parts_4b_2 (C:Cs):S3:=(ifs3 (tst3 (op3 eqP (v3 5) (k3 (.str ")")))) (cut_parts_4b_2t_1 C) next3)
def cut_parts_4b_3t_1 (C:Cs):S3:=(app3 1 (sl3 slP (v3 0) (part3 (v3 3)) (part3 (v3 4))))
def cut_parts_4b_3t_2 (C:Cs):S3:=(asg3 (op3 addP (v3 4) (k3 (.int 1))) (name3 3))
def cut_parts_4b_3 (C:Cs):S3:=(ifs3 (and3 (tst3 (op3 eqP (v3 5) (k3 (.str ",")))) (tst3 (op3 eqP (v3 2) (k3 (.int 0))))) (seq3 (cut_parts_4b_3t_1 C) (cut_parts_4b_3t_2 C)) next3)
def cut_parts_4b (C:Cs):S3:=(seq3 (cut_parts_4b_1 C) (seq3 (cut_parts_4b_2 C) (cut_parts_4b_3 C)))
def cut_parts_4 (C:Cs):S3:=(for3 (iterEn3 (cons3 (v3 0) nil3)) (gtup3 2 (gcons3 (name3 4) (gcons3 (name3 5) gnil3))) (cut_parts_4b C))
def cut_parts_5 (C:Cs):S3:=(app3 1 (sl3 slP (v3 0) (part3 (v3 3)) no3))
def cut_parts_6 (C:Cs):S3:=(frz3 1 (ret3 (v3 1)))
def cut_partsB (C:Cs):S3:=(seq3 (cut_parts_1 C) (seq3 (cut_parts_2 C) (seq3 (cut_parts_3 C) (seq3 (cut_parts_4 C) (seq3 (cut_parts_5 C) (cut_parts_6 C))))))
def cut_partsD (C:Cs):F3:=fun ds Q X=>cut_partsB C {nx:=fun _=>Q .non,rt:=Q,xn:=fun _=>X} (start3 6 ds)
theorem cut_parts_ex (C:Cs):∃f:F3,f=cut_partsD C:=⟨_,rfl⟩
noncomputable def cut_parts (C:Cs):F3:=Classical.choose (cut_parts_ex C)
theorem cut_parts_def (C:Cs):cut_parts C=cut_partsD C:=Classical.choose_spec (cut_parts_ex C)
def read_word_1t_1 (C:Cs) (r_read_word:F3):S3:=(raiseD3 (.ref (C.at_ "BadText")) ["at"] [0] 0 [0] [(.int 0)] nil3)
def read_word_1 (C:Cs) (r_read_word:F3):S3:=(ifs3 (tst3 (op3 M3.ltP (v3 1) (k3 (.int 1)))) (read_word_1t_1 C r_read_word) next3)
def read_word_2t_1 (C:Cs) (r_read_word:F3):S3:=(ret3 (tup3 (cons3 (k3 (.str "yes")) nil3)))
def read_word_2 (C:Cs) (r_read_word:F3):S3:=(ifs3 (tst3 (op3 eqP (v3 0) (k3 (.str "yes")))) (read_word_2t_1 C r_read_word) next3)
def read_word_3 (C:Cs) (r_read_word:F3):S3:=(asg3 (m13 partM3 (v3 0) (k3 (.str "."))) (gtup3 3 (gcons3 (name3 2) (gcons3 (name3 3) (gcons3 (name3 4) gnil3)))))
def read_word_4t_1t_1 (C:Cs) (r_read_word:F3):S3:=(raiseD3 (.ref (C.at_ "BadText")) ["at"] [0] 0 [0] [(.int 0)] nil3)
def read_word_4t_1 (C:Cs) (r_read_word:F3):S3:=(ifs3 (not3 (tst3 (fn3 1 (is_name C) (cons3 (v3 4) nil3) []))) (read_word_4t_1t_1 C r_read_word) next3)
def read_word_4t_2 (C:Cs) (r_read_word:F3):S3:=(ret3 (tup3 (cons3 (v3 2) (cons3 (v3 4) nil3))))
def read_word_4 (C:Cs) (r_read_word:F3):S3:=(ifs3 (and3 (tst3 (op3 eqP (v3 3) (k3 (.str ".")))) (tst3 (op3 (inP false) (v3 2) (tup3 (cons3 (k3 (.str "old")) (cons3 (k3 (.str "new")) nil3)))))) (seq3 (read_word_4t_1 C r_read_word) (read_word_4t_2 C r_read_word)) next3)
def read_word_5 (C:Cs) (r_read_word:F3):S3:=(asg3 (m13 partM3 (v3 0) (k3 (.str "("))) (gtup3 3 (gcons3 (name3 5) (gcons3 (name3 6) (gcons3 (name3 7) gnil3)))))
def read_word_6t_1 (C:Cs) (r_read_word:F3):S3:=(ret3 (tup3 (cons3 (k3 (.str "cell")) (cons3 (fn3 1 (read_cell C) (cons3 (v3 0) nil3) []) nil3))))
def read_word_6 (C:Cs) (r_read_word:F3):S3:=(ifs3 (tst3 (op3 neP (v3 6) (k3 (.str "(")))) (read_word_6t_1 C r_read_word) next3)
def read_word_7t_1 (C:Cs) (r_read_word:F3):S3:=(raiseD3 (.ref (C.at_ "BadText")) ["at"] [0] 0 [0] [(.int 0)] nil3)
def read_word_7 (C:Cs) (r_read_word:F3):S3:=(ifs3 (or3 (and3 (tst3 (inK3 [("plus",(.str "vv")),("minus",(.str "vv")),("times",(.str "vv")),("least",(.str "vv")),("most",(.str "vv")),("choose",(.str "tvv"))] true (v3 5))) (tst3 (inK3 [("yes",(.str "")),("is",(.str "vv")),("below",(.str "vv")),("lacks",(.str "v")),("not",(.str "t")),("both",(.str "tt")),("either",(.str "tt"))] true (v3 5)))) (not3 (tst3 (m13 endM3 (v3 7) (k3 (.str ")")))))) (read_word_7t_1 C r_read_word) next3)
def read_word_8 (C:Cs) (r_read_word:F3):S3:=(asg3 (fn3 1 (cut_parts C) (cons3 (sl3 slP (v3 7) no3 (part3 (un3 neg3 (k3 (.int 1))))) nil3) []) (gstarL3 2 1 (gcons3 (name3 8) (gcons3 (name3 9) gnil3))))
def read_word_9t_1 (C:Cs) (r_read_word:F3):S3:=(raiseD3 (.ref (C.at_ "BadText")) ["at"] [0] 0 [0] [(.int 0)] nil3)
def read_word_9 (C:Cs) (r_read_word:F3):S3:=(ifs3 (not3 (tst3 (call3 all3 (cons3 (lc3 (iterP (v3 9)) (name3 10) yes3 (m13 startM3 (v3 10) (k3 (.str " "))) [10]) nil3)))) (read_word_9t_1 C r_read_word) next3)
def read_word_10 (C:Cs) (r_read_word:F3):S3:=(ret3 (op3 addP (tup3 (cons3 (v3 5) nil3)) (call3 tuple3 (cons3 (lc3 (iterP (op3 addP (lst3 (cons3 (v3 8) nil3)) (lc3 (iterP (v3 9)) (name3 10) yes3 (sl3 slP (v3 10) (part3 (k3 (.int 1))) no3) [10]))) (name3 10) yes3 (fn3 2 r_read_word (cons3 (v3 10) (cons3 (op3 sub3 (v3 1) (k3 (.int 1))) nil3)) []) [10]) nil3))))
def read_wordB (C:Cs) (r_read_word:F3):S3:=(seq3 (read_word_1 C r_read_word) (seq3 (read_word_2 C r_read_word) (seq3 (read_word_3 C r_read_word) (seq3 (read_word_4 C r_read_word) (seq3 (read_word_5 C r_read_word) (seq3 (read_word_6 C r_read_word) (seq3 (read_word_7 C r_read_word) (seq3 (read_word_8 C r_read_word) (seq3 (read_word_9 C r_read_word) (read_word_10 C r_read_word))))))))))
def read_word_ (C:Cs):Nat→F3
 | 0=>f0
 | n+1=>(fun ds Q X=>read_wordB C (read_word_ C n) {nx:=fun _=>Q .non,rt:=Q,xn:=fun _=>X} (start3 11 ds))
theorem read_word_ex (C:Cs) (n:Nat):∃f:F3,f=read_word_ C n:=⟨_,rfl⟩
noncomputable def read_word (C:Cs) (n:Nat):F3:=Classical.choose (read_word_ex C n)
theorem read_word_def (C:Cs) (n:Nat):read_word C n=read_word_ C n:=Classical.choose_spec (read_word_ex C n)
theorem read_word_zero (C:Cs):read_word C 0=f0:=by rw [read_word_def];rfl
theorem read_word_succ (C:Cs) (n:Nat):read_word C (n+1)=fun ds Q X=>read_wordB C (read_word C n) {nx:=fun _=>Q .non,rt:=Q,xn:=fun _=>X} (start3 11 ds):=by
 rw [read_word_def,read_word_def]
 rfl
def read_valueB (C:Cs):S3:=(seq3 (asg3 (fn3 2 (read_word C 12) (cons3 (v3 0) (cons3 (k3 (.int 8)) nil3)) []) (name3 1)) (seq3 (ifs3 (not3 (tst3 (fn3 2 (is_value C 20) (cons3 (v3 1) (cons3 (k3 (.int 8)) nil3)) []))) (raiseD3 (.ref (C.at_ "BadText")) ["at"] [0] 0 [0] [(.int 0)] nil3) next3) (ret3 (v3 1))))
def read_valueD (C:Cs):F3:=fun ds Q X=>read_valueB C {nx:=fun _=>Q .non,rt:=Q,xn:=fun _=>X} (start3 2 ds)
theorem read_value_ex (C:Cs):∃f:F3,f=read_valueD C:=⟨_,rfl⟩
noncomputable def read_value (C:Cs):F3:=Classical.choose (read_value_ex C)
theorem read_value_def (C:Cs):read_value C=read_valueD C:=Classical.choose_spec (read_value_ex C)
def read_truthB (C:Cs):S3:=(seq3 (asg3 (fn3 2 (read_word C 12) (cons3 (v3 0) (cons3 (k3 (.int 8)) nil3)) []) (name3 1)) (seq3 (ifs3 (not3 (tst3 (fn3 2 (is_truth C 20) (cons3 (v3 1) (cons3 (k3 (.int 8)) nil3)) []))) (raiseD3 (.ref (C.at_ "BadText")) ["at"] [0] 0 [0] [(.int 0)] nil3) next3) (ret3 (v3 1))))
def read_truthD (C:Cs):F3:=fun ds Q X=>read_truthB C {nx:=fun _=>Q .non,rt:=Q,xn:=fun _=>X} (start3 2 ds)
theorem read_truth_ex (C:Cs):∃f:F3,f=read_truthD C:=⟨_,rfl⟩
noncomputable def read_truth (C:Cs):F3:=Classical.choose (read_truth_ex C)
theorem read_truth_def (C:Cs):read_truth C=read_truthD C:=Classical.choose_spec (read_truth_ex C)
def LsameB (C:Cs) (r_Lsame:F3):S3:=(seq3 (ifs3 (tst3 (op3 isN3 (v3 1) (k3 .non))) (ret3 (op3 isN3 (v3 0) (k3 .non))) next3) (seq3 (ifs3 (tst3 (call3 isi3 (cons3 (v3 1) (cons3 (k3 (.ty "bool")) nil3)))) (ret3 (andV3 (call3 isi3 (cons3 (v3 0) (cons3 (k3 (.ty "bool")) nil3))) (op3 eqP (v3 0) (v3 1)))) next3) (seq3 (ifs3 (tst3 (call3 isi3 (cons3 (v3 1) (cons3 (k3 (.ty "int")) nil3)))) (ret3 (andV3 (call3 isi3 (cons3 (v3 0) (cons3 (k3 (.ty "int")) nil3))) (andV3 (notV3 (call3 isi3 (cons3 (v3 0) (cons3 (k3 (.ty "bool")) nil3)))) (op3 eqP (v3 0) (v3 1))))) next3) (seq3 (ifs3 (tst3 (call3 isi3 (cons3 (v3 1) (cons3 (k3 (.ty "str")) nil3)))) (ret3 (andV3 (call3 isi3 (cons3 (v3 0) (cons3 (k3 (.ty "str")) nil3))) (op3 eqP (v3 0) (v3 1)))) next3) (seq3 (ifs3 (tst3 (call3 isi3 (cons3 (v3 1) (cons3 (k3 (.ty "list")) nil3)))) (ifs3 (or3 (not3 (tst3 (call3 isi3 (cons3 (v3 0) (cons3 (k3 (.ty "list")) nil3))))) (tst3 (op3 neP (call3 len3 (cons3 (v3 0) nil3)) (call3 len3 (cons3 (v3 1) nil3))))) (ret3 (k3 (.bl false))) next3) (ifs3 (or3 (not3 (tst3 (call3 isi3 (cons3 (v3 0) (cons3 (k3 (.ty "tuple")) nil3))))) (tst3 (op3 neP (call3 len3 (cons3 (v3 0) nil3)) (call3 len3 (cons3 (v3 1) nil3))))) (ret3 (k3 (.bl false))) next3)) (ret3 (call3 all3 (cons3 (lc3 (iterZ3 (cons3 (v3 0) (cons3 (v3 1) nil3))) (gtup3 2 (gcons3 (name3 2) (gcons3 (name3 3) gnil3))) yes3 (fn30 2 r_Lsame (cons3 (v3 2) (cons3 (v3 3) nil3)) []) [2,3]) nil3))))))))
def Lsame_ (C:Cs):Nat→F3
 | 0=>f0
 | n+1=>(fun ds Q X=>LsameB C (Lsame_ C n) {nx:=fun _=>Q .non,rt:=Q,xn:=fun _=>X} (start3 4 ds))
theorem Lsame_ex (C:Cs) (n:Nat):∃f:F3,f=Lsame_ C n:=⟨_,rfl⟩
noncomputable def Lsame (C:Cs) (n:Nat):F3:=Classical.choose (Lsame_ex C n)
theorem Lsame_def (C:Cs) (n:Nat):Lsame C n=Lsame_ C n:=Classical.choose_spec (Lsame_ex C n)
theorem Lsame_zero (C:Cs):Lsame C 0=f0:=by rw [Lsame_def];rfl
theorem Lsame_succ (C:Cs) (n:Nat):Lsame C (n+1)=fun ds Q X=>LsameB C (Lsame C n) {nx:=fun _=>Q .non,rt:=Q,xn:=fun _=>X} (start3 4 ds):=by
 rw [Lsame_def,Lsame_def]
 rfl
def LnamesB (C:Cs) (p:Addr):S3:=(seq3 (asg3 (k3 (.str "abcdefghijklmnopqrstuvwxyz")) (name3 2)) (seq3 (asg3 (op3 ixP (lst3 (cons3 (k3 (.str "")) (cons3 (k3 (.str "a")) (cons3 (k3 (.str "row")) (cons3 (k3 (.str "zzzzzzz")) (cons3 (k3 (.str "gap")) (cons3 (k3 (.str "old")) (cons3 (k3 (.str "yes")) (cons3 (k3 (.str "x")) nil3))))))))) (fnP30 p 2 take3 (cons3 (v3 0) (cons3 (k3 (.int 8)) nil3)) [])) (name3 3)) (seq3 (asg3 (fnP30 p 2 take3 (cons3 (v3 0) (cons3 (op3 addP (call3 len3 (cons3 (v3 3) nil3)) (k3 (.int 1))) nil3)) []) (name3 4)) (seq3 (asg3 (fnP30 p 2 take3 (cons3 (v3 0) (cons3 (k3 (.int 26)) nil3)) []) (name3 5)) (seq3 (asg3 (op3 ixP (lst3 (cons3 (k3 (.int 1)) (cons3 (k3 (.int 3)) (cons3 (k3 (.int 5)) (cons3 (k3 (.int 7)) (cons3 (k3 (.int 9)) (cons3 (k3 (.int 11)) nil3))))))) (fnP30 p 2 take3 (cons3 (v3 0) (cons3 (k3 (.int 6)) nil3)) [])) (name3 6)) (ret3 (lc3 (iterR3 (cons3 (v3 1) nil3)) (name3 7) yes3 (op3 addP (op3 addP (sl3 slP (v3 3) no3 (part3 (v3 4))) (op3 ixP (v3 2) (op3 mod3 (op3 addP (v3 5) (op3 mulP (v3 6) (v3 7))) (k3 (.int 26))))) (sl3 slP (v3 3) (part3 (v3 4)) no3)) [7])))))))
def LnamesD (C:Cs):F3:=fun ds Q X=>match ds with | .ref p::r=>LnamesB C p {nx:=fun _=>Q .non,rt:=Q,xn:=fun _=>X} (start3 8 (.ref p::r)) | _=>False
theorem Lnames_ex (C:Cs):∃f:F3,f=LnamesD C:=⟨_,rfl⟩
noncomputable def Lnames (C:Cs):F3:=Classical.choose (Lnames_ex C)
theorem Lnames_def (C:Cs):Lnames C=LnamesD C:=Classical.choose_spec (Lnames_ex C)
def LcellB (C:Cs) (p:Addr):S3:=(seq3 (asg3 (fnP30 p 2 take3 (cons3 (v3 0) (cons3 (k3 (.int 16)) nil3)) []) (name3 1)) (seq3 (ifs3 (tst3 (op3 M3.ltP (v3 1) (k3 (.int 2)))) (ret3 (k3 .non)) next3) (seq3 (ifs3 (tst3 (op3 M3.ltP (v3 1) (k3 (.int 15)))) (ret3 (if3 (tst3 (op3 M3.ltP (v3 1) (k3 (.int 13)))) (op3 sub3 (fnP30 p 2 take3 (cons3 (v3 0) (cons3 (k3 (.int 5)) nil3)) []) (k3 (.int 1))) (op3 sub3 (fnP30 p 2 take3 (cons3 (v3 0) (cons3 (k3 (.int 41)) nil3)) []) (k3 (.int 20))))) next3) (seq3 (asg3 (op3 sub3 (op3 pow3 (k3 (.int 10)) (k3 (.int 30))) (k3 (.int 1))) (name3 2)) (ret3 (op3 ixP (lst3 (cons3 (v3 2) (cons3 (un3 neg3 (v3 2)) (cons3 (op3 addP (op3 pow3 (k3 (.int 10)) (k3 (.int 15))) (fnP30 p 2 take3 (cons3 (v3 0) (cons3 (op3 pow3 (k3 (.int 10)) (k3 (.int 9))) nil3)) [])) (cons3 (fnP30 p 2 take3 (cons3 (v3 0) (cons3 (op3 addP (v3 2) (k3 (.int 1))) nil3)) []) nil3))))) (fnP30 p 2 take3 (cons3 (v3 0) (cons3 (k3 (.int 4)) nil3)) [])))))))
def LcellD (C:Cs):F3:=fun ds Q X=>match ds with | .ref p::r=>LcellB C p {nx:=fun _=>Q .non,rt:=Q,xn:=fun _=>X} (start3 3 (.ref p::r)) | _=>False
theorem Lcell_ex (C:Cs):∃f:F3,f=LcellD C:=⟨_,rfl⟩
noncomputable def Lcell (C:Cs):F3:=Classical.choose (Lcell_ex C)
theorem Lcell_def (C:Cs):Lcell C=LcellD C:=Classical.choose_spec (Lcell_ex C)
def LvalueB (C:Cs) (p:Addr) (r_Lvalue:F3) (r_Ltruth:F3):S3:=(seq3 (asg3 (fnP30 p 2 take3 (cons3 (v3 0) (cons3 (k3 (.int 10)) nil3)) []) (name3 4)) (seq3 (ifs3 (or3 (tst3 (op3 M3.ltP (v3 1) (k3 (.int 2)))) (tst3 (op3 M3.ltP (v3 4) (k3 (.int 5))))) (seq3 (asg3 (op3 addP (lc3 (iterP (v3 2)) (name3 8) yes3 (tup3 (cons3 (k3 (.str "old")) (cons3 (v3 8) nil3))) [8]) (lc3 (iterP (v3 3)) (name3 8) yes3 (tup3 (cons3 (k3 (.str "new")) (cons3 (v3 8) nil3))) [8])) (name3 5)) (seq3 (ifs3 (or3 (tst3 (op3 eqP (v3 5) (lst3 nil3))) (tst3 (op3 eqP (fnP30 p 2 take3 (cons3 (v3 0) (cons3 (k3 (.int 4)) nil3)) []) (k3 (.int 0))))) (ret3 (tup3 (cons3 (k3 (.str "cell")) (cons3 (fnP3 p 1 (Lcell C) (cons3 (v3 0) nil3) []) nil3)))) next3) (ret3 (op3 ixP (v3 5) (fnP30 p 2 take3 (cons3 (v3 0) (cons3 (call3 len3 (cons3 (v3 5) nil3)) nil3)) []))))) next3) (seq3 (ifs3 (tst3 (op3 eqP (v3 4) (k3 (.int 9)))) (seq3 (asg3 (fnP3 p 4 r_Ltruth (cons3 (v3 0) (cons3 (op3 sub3 (v3 1) (k3 (.int 1))) (cons3 (v3 2) (cons3 (v3 3) nil3)))) []) (name3 6)) (ret3 (tup3 (cons3 (k3 (.str "choose")) (cons3 (v3 6) (cons3 (fnP3 p 4 r_Lvalue (cons3 (v3 0) (cons3 (op3 sub3 (v3 1) (k3 (.int 1))) (cons3 (v3 2) (cons3 (v3 3) nil3)))) []) (cons3 (fnP3 p 4 r_Lvalue (cons3 (v3 0) (cons3 (op3 sub3 (v3 1) (k3 (.int 2))) (cons3 (v3 2) (cons3 (v3 3) nil3)))) []) nil3))))))) next3) (seq3 (asg3 (op3 ixP (lst3 (cons3 (k3 (.str "plus")) (cons3 (k3 (.str "minus")) (cons3 (k3 (.str "times")) (cons3 (k3 (.str "least")) (cons3 (k3 (.str "most")) nil3)))))) (op3 mod3 (op3 addP (op3 sub3 (v3 4) (k3 (.int 5))) (fnP30 p 2 take3 (cons3 (v3 0) (cons3 (k3 (.int 5)) nil3)) [])) (k3 (.int 5)))) (name3 7)) (ret3 (tup3 (cons3 (v3 7) (cons3 (fnP3 p 4 r_Lvalue (cons3 (v3 0) (cons3 (op3 sub3 (v3 1) (k3 (.int 1))) (cons3 (v3 2) (cons3 (v3 3) nil3)))) []) (cons3 (fnP3 p 4 r_Lvalue (cons3 (v3 0) (cons3 (op3 sub3 (v3 1) (k3 (.int 1))) (cons3 (v3 2) (cons3 (v3 3) nil3)))) []) nil3)))))))))
def LtruthB (C:Cs) (p:Addr) (r_Lvalue:F3) (r_Ltruth:F3):S3:=(seq3 (asg3 (fnP30 p 2 take3 (cons3 (v3 0) (cons3 (k3 (.int 10)) nil3)) []) (name3 4)) (seq3 (ifs3 (or3 (tst3 (op3 M3.ltP (v3 1) (k3 (.int 2)))) (tst3 (op3 eqP (v3 4) (k3 (.int 0))))) (ret3 (tup3 (cons3 (k3 (.str "yes")) nil3))) next3) (seq3 (ifs3 (tst3 (op3 M3.ltP (v3 4) (k3 (.int 6)))) (seq3 (asg3 (fnP3 p 4 r_Lvalue (cons3 (v3 0) (cons3 (call3 min23 (cons3 (k3 (.int 2)) (cons3 (op3 sub3 (v3 1) (k3 (.int 1))) nil3))) (cons3 (v3 2) (cons3 (v3 3) nil3)))) []) (name3 5)) (seq3 (ifs3 (tst3 (op3 eqP (v3 4) (k3 (.int 5)))) (ret3 (tup3 (cons3 (k3 (.str "lacks")) (cons3 (v3 5) nil3)))) next3) (ret3 (tup3 (cons3 (op3 ixP (lst3 (cons3 (k3 (.str "is")) (cons3 (k3 (.str "below")) nil3))) (op3 fdivW3 (v3 4) (k3 (.int 4)))) (cons3 (v3 5) (cons3 (fnP3 p 4 r_Lvalue (cons3 (v3 0) (cons3 (call3 min23 (cons3 (k3 (.int 2)) (cons3 (op3 sub3 (v3 1) (k3 (.int 1))) nil3))) (cons3 (v3 2) (cons3 (v3 3) nil3)))) []) nil3))))))) next3) (seq3 (ifs3 (tst3 (op3 eqP (v3 4) (k3 (.int 6)))) (ret3 (tup3 (cons3 (k3 (.str "not")) (cons3 (fnP3 p 4 r_Ltruth (cons3 (v3 0) (cons3 (op3 sub3 (v3 1) (k3 (.int 1))) (cons3 (v3 2) (cons3 (v3 3) nil3)))) []) nil3)))) next3) (seq3 (asg3 (op3 ixP (lst3 (cons3 (k3 (.str "both")) (cons3 (k3 (.str "either")) nil3))) (op3 mod3 (v3 4) (k3 (.int 2)))) (name3 6)) (ret3 (tup3 (cons3 (v3 6) (cons3 (fnP3 p 4 r_Ltruth (cons3 (v3 0) (cons3 (op3 sub3 (v3 1) (k3 (.int 1))) (cons3 (v3 2) (cons3 (v3 3) nil3)))) []) (cons3 (fnP3 p 4 r_Ltruth (cons3 (v3 0) (cons3 (op3 sub3 (v3 1) (k3 (.int 1))) (cons3 (v3 2) (cons3 (v3 3) nil3)))) []) nil3))))))))))
def Lvalue_Ltruth_ (C:Cs):Nat→F3×F3
 | 0=>(f0,f0)
 | n+1=>((fun ds Q X=>match ds with | .ref p::r=>LvalueB C p (Lvalue_Ltruth_ C n).1 (Lvalue_Ltruth_ C n).2 {nx:=fun _=>Q .non,rt:=Q,xn:=fun _=>X} (start3 9 (.ref p::r)) | _=>False),(fun ds Q X=>match ds with | .ref p::r=>LtruthB C p (Lvalue_Ltruth_ C n).1 (Lvalue_Ltruth_ C n).2 {nx:=fun _=>Q .non,rt:=Q,xn:=fun _=>X} (start3 7 (.ref p::r)) | _=>False))
theorem Lvalue_ex (C:Cs) (n:Nat):∃f:F3,f=(Lvalue_Ltruth_ C n).1:=⟨_,rfl⟩
noncomputable def Lvalue (C:Cs) (n:Nat):F3:=Classical.choose (Lvalue_ex C n)
theorem Lvalue_def (C:Cs) (n:Nat):Lvalue C n=(Lvalue_Ltruth_ C n).1:=Classical.choose_spec (Lvalue_ex C n)
theorem Lvalue_zero (C:Cs):Lvalue C 0=f0:=by rw [Lvalue_def];rfl
theorem Ltruth_ex (C:Cs) (n:Nat):∃f:F3,f=(Lvalue_Ltruth_ C n).2:=⟨_,rfl⟩
noncomputable def Ltruth (C:Cs) (n:Nat):F3:=Classical.choose (Ltruth_ex C n)
theorem Ltruth_def (C:Cs) (n:Nat):Ltruth C n=(Lvalue_Ltruth_ C n).2:=Classical.choose_spec (Ltruth_ex C n)
theorem Ltruth_zero (C:Cs):Ltruth C 0=f0:=by rw [Ltruth_def];rfl
theorem Lvalue_succ (C:Cs) (n:Nat):Lvalue C (n+1)=fun ds Q X=>match ds with | .ref p::r=>LvalueB C p (Lvalue C n) (Ltruth C n) {nx:=fun _=>Q .non,rt:=Q,xn:=fun _=>X} (start3 9 (.ref p::r)) | _=>False:=by
 rw [Lvalue_def,Lvalue_def,Ltruth_def]
 rfl
theorem Ltruth_succ (C:Cs) (n:Nat):Ltruth C (n+1)=fun ds Q X=>match ds with | .ref p::r=>LtruthB C p (Lvalue C n) (Ltruth C n) {nx:=fun _=>Q .non,rt:=Q,xn:=fun _=>X} (start3 7 (.ref p::r)) | _=>False:=by
 rw [Ltruth_def,Lvalue_def,Ltruth_def]
 rfl
def LwrittenB (C:Cs) (r_Lwritten:F3):S3:=(seq3 (ifs3 (tst3 (op3 eqP (op3 ixP (v3 0) (k3 (.int 0))) (k3 (.str "cell")))) (ret3 (if3 (tst3 (op3 isN3 (op3 ixP (v3 0) (k3 (.int 1))) (k3 .non))) (k3 (.str "gap")) (call3 strI3 (cons3 (op3 ixP (v3 0) (k3 (.int 1))) nil3)))) next3) (seq3 (ifs3 (tst3 (op3 (inP false) (op3 ixP (v3 0) (k3 (.int 0))) (tup3 (cons3 (k3 (.str "old")) (cons3 (k3 (.str "new")) nil3))))) (ret3 (op3 addP (op3 addP (op3 ixP (v3 0) (k3 (.int 0))) (k3 (.str "."))) (op3 ixP (v3 0) (k3 (.int 1))))) next3) (seq3 (ifs3 (tst3 (op3 eqP (op3 ixP (v3 0) (k3 (.int 0))) (k3 (.str "yes")))) (ret3 (k3 (.str "yes"))) next3) (ret3 (op3 addP (op3 addP (op3 addP (op3 ixP (v3 0) (k3 (.int 0))) (k3 (.str "("))) (m13 joinM3 (k3 (.str ", ")) (lc3 (iterP (sl3 slP (v3 0) (part3 (k3 (.int 1))) no3)) (name3 1) yes3 (fn30 1 r_Lwritten (cons3 (v3 1) nil3) []) [1]))) (k3 (.str ")")))))))
def Lwritten_ (C:Cs):Nat→F3
 | 0=>f0
 | n+1=>(fun ds Q X=>LwrittenB C (Lwritten_ C n) {nx:=fun _=>Q .non,rt:=Q,xn:=fun _=>X} (start3 2 ds))
theorem Lwritten_ex (C:Cs) (n:Nat):∃f:F3,f=Lwritten_ C n:=⟨_,rfl⟩
noncomputable def Lwritten (C:Cs) (n:Nat):F3:=Classical.choose (Lwritten_ex C n)
theorem Lwritten_def (C:Cs) (n:Nat):Lwritten C n=Lwritten_ C n:=Classical.choose_spec (Lwritten_ex C n)
theorem Lwritten_zero (C:Cs):Lwritten C 0=f0:=by rw [Lwritten_def];rfl
theorem Lwritten_succ (C:Cs) (n:Nat):Lwritten C (n+1)=fun ds Q X=>LwrittenB C (Lwritten C n) {nx:=fun _=>Q .non,rt:=Q,xn:=fun _=>X} (start3 2 ds):=by
 rw [Lwritten_def,Lwritten_def]
 rfl
def Lcell_readB (C:Cs):S3:=(seq3 (ifs3 (tst3 (op3 eqP (v3 0) (k3 (.str "gap")))) (ret3 (tup3 (cons3 (k3 (.str "cell")) (cons3 (k3 .non) nil3)))) next3) (seq3 (asg3 (if3 (tst3 (op3 eqP (sl3 slP (v3 0) no3 (part3 (k3 (.int 1)))) (k3 (.str "-")))) (sl3 slP (v3 0) (part3 (k3 (.int 1))) no3) (v3 0)) (name3 1)) (seq3 (ifs3 (or3 (tst3 (op3 eqP (v3 1) (k3 (.str "")))) (or3 (tst3 (op3 M3.gtP (call3 len3 (cons3 (v3 1) nil3)) (k3 (.int 30)))) (not3 (tst3 (call3 all3 (cons3 (lc3 (iterP (v3 1)) (name3 2) yes3 (op3 (inP false) (v3 2) (k3 (.str "0123456789"))) [2]) nil3)))))) (ret3 (k3 .non)) next3) (seq3 (ifs3 (and3 (tst3 (op3 eqP (op3 ixP (v3 1) (k3 (.int 0))) (k3 (.str "0")))) (tst3 (op3 neP (v3 0) (k3 (.str "0"))))) (ret3 (k3 .non)) next3) (ret3 (tup3 (cons3 (k3 (.str "cell")) (cons3 (call3 intS3 (cons3 (v3 0) nil3)) nil3))))))))
def Lcell_readD (C:Cs):F3:=fun ds Q X=>Lcell_readB C {nx:=fun _=>Q .non,rt:=Q,xn:=fun _=>X} (start3 3 ds)
theorem Lcell_read_ex (C:Cs):∃f:F3,f=Lcell_readD C:=⟨_,rfl⟩
noncomputable def Lcell_read (C:Cs):F3:=Classical.choose (Lcell_read_ex C)
theorem Lcell_read_def (C:Cs):Lcell_read C=Lcell_readD C:=Classical.choose_spec (Lcell_read_ex C)
def Lcut_1 (C:Cs):S3:=(ownset3 (lst3 (cons3 (k3 (.str "")) nil3)) 1)
def Lcut_2 (C:Cs):S3:=(asg3 (k3 (.int 0)) (name3 2))
def Lcut_3b_1 (C:Cs):S3:=(asg3 (op3 sub3 (op3 addP (v3 2) (call3 int13 (cons3 (op3 eqP (v3 3) (k3 (.str "("))) nil3))) (call3 int13 (cons3 (op3 eqP (v3 3) (k3 (.str ")"))) nil3))) (name3 2))
def Lcut_3b_2t_1 (C:Cs):S3:=(app3 1 (k3 (.str "")))
def Lcut_3b_2e_1 (C:Cs):S3:=(setI3 1 (un3 neg3 (k3 (.int 1))) (op3 addP (ixO3 1 (un3 neg3 (k3 (.int 1)))) (v3 3)))
def Lcut_3b_2 (C:Cs):S3:=(ifs3 (and3 (tst3 (op3 eqP (v3 3) (k3 (.str ",")))) (tst3 (op3 eqP (v3 2) (k3 (.int 0))))) (Lcut_3b_2t_1 C) (Lcut_3b_2e_1 C))
def Lcut_3b (C:Cs):S3:=(seq3 (Lcut_3b_1 C) (Lcut_3b_2 C))
def Lcut_3 (C:Cs):S3:=(for3 (iterP (v3 0)) (name3 3) (Lcut_3b C))
def Lcut_4 (C:Cs):S3:=(frz3 1 (ret3 (v3 1)))
def LcutB (C:Cs):S3:=(seq3 (Lcut_1 C) (seq3 (Lcut_2 C) (seq3 (Lcut_3 C) (Lcut_4 C))))
def LcutD (C:Cs):F3:=fun ds Q X=>LcutB C {nx:=fun _=>Q .non,rt:=Q,xn:=fun _=>X} (start3 4 ds)
theorem Lcut_ex (C:Cs):∃f:F3,f=LcutD C:=⟨_,rfl⟩
noncomputable def Lcut (C:Cs):F3:=Classical.choose (Lcut_ex C)
theorem Lcut_def (C:Cs):Lcut C=LcutD C:=Classical.choose_spec (Lcut_ex C)
def Lname_okB (C:Cs):S3:=(ret3 (andV3 (chain3 M3.leP M3.leP (k3 (.int 1)) (call3 len3 (cons3 (v3 0) nil3)) (k3 (.int 8))) (call3 all3 (cons3 (lc3 (iterP (v3 0)) (name3 1) yes3 (op3 (inP false) (v3 1) (k3 (.str "abcdefghijklmnopqrstuvwxyz"))) [1]) nil3))))
def Lname_okD (C:Cs):F3:=fun ds Q X=>Lname_okB C {nx:=fun _=>Q .non,rt:=Q,xn:=fun _=>X} (start3 2 ds)
theorem Lname_ok_ex (C:Cs):∃f:F3,f=Lname_okD C:=⟨_,rfl⟩
noncomputable def Lname_ok (C:Cs):F3:=Classical.choose (Lname_ok_ex C)
theorem Lname_ok_def (C:Cs):Lname_ok C=Lname_okD C:=Classical.choose_spec (Lname_ok_ex C)
def Lread_1t_1 (C:Cs) (r_Lread:F3):S3:=(ret3 (k3 .non))
def Lread_1 (C:Cs) (r_Lread:F3):S3:=(ifs3 (tst3 (op3 M3.ltP (v3 2) (k3 (.int 1)))) (Lread_1t_1 C r_Lread) next3)
def Lread_2t_1 (C:Cs) (r_Lread:F3):S3:=(ret3 (tup3 (cons3 (k3 (.str "yes")) nil3)))
def Lread_2 (C:Cs) (r_Lread:F3):S3:=(ifs3 (and3 (tst3 (op3 eqP (v3 1) (k3 (.str "t")))) (tst3 (op3 eqP (v3 0) (k3 (.str "yes"))))) (Lread_2t_1 C r_Lread) next3)
def Lread_3t_1 (C:Cs) (r_Lread:F3):S3:=(ret3 (if3 (tst3 (fn3 1 (Lname_ok C) (cons3 (sl3 slP (v3 0) (part3 (k3 (.int 4))) no3) nil3) [])) (tup3 (cons3 (sl3 slP (v3 0) no3 (part3 (k3 (.int 3)))) (cons3 (sl3 slP (v3 0) (part3 (k3 (.int 4))) no3) nil3))) (k3 .non)))
def Lread_3 (C:Cs) (r_Lread:F3):S3:=(ifs3 (and3 (tst3 (op3 eqP (v3 1) (k3 (.str "v")))) (tst3 (op3 (inP false) (sl3 slP (v3 0) no3 (part3 (k3 (.int 4)))) (tup3 (cons3 (k3 (.str "old.")) (cons3 (k3 (.str "new.")) nil3)))))) (Lread_3t_1 C r_Lread) next3)
def Lread_4 (C:Cs) (r_Lread:F3):S3:=(asg3 (disp3 [("is",(k3 (.str "vv"))),("below",(k3 (.str "vv"))),("lacks",(k3 (.str "v"))),("not",(k3 (.str "t"))),("both",(k3 (.str "tt"))),("either",(k3 (.str "tt")))]) (name3 3))
def Lread_5t_1 (C:Cs) (r_Lread:F3):S3:=(asg3 (disp3 [("plus",(k3 (.str "vv"))),("minus",(k3 (.str "vv"))),("times",(k3 (.str "vv"))),("least",(k3 (.str "vv"))),("most",(k3 (.str "vv"))),("choose",(k3 (.str "tvv")))]) (name3 3))
def Lread_5 (C:Cs) (r_Lread:F3):S3:=(ifs3 (tst3 (op3 eqP (v3 1) (k3 (.str "v")))) (Lread_5t_1 C r_Lread) next3)
def Lread_6 (C:Cs) (r_Lread:F3):S3:=(asg3 (op3 ixP (m13 splitM3 (v3 0) (k3 (.str "("))) (k3 (.int 0))) (name3 4))
def Lread_7t_1 (C:Cs) (r_Lread:F3):S3:=(ret3 (if3 (tst3 (op3 eqP (v3 1) (k3 (.str "v")))) (fn3 1 (Lcell_read C) (cons3 (v3 0) nil3) []) (k3 .non)))
def Lread_7 (C:Cs) (r_Lread:F3):S3:=(ifs3 (tst3 (op3 (inP true) (k3 (.str "(")) (v3 0))) (Lread_7t_1 C r_Lread) next3)
def Lread_8t_1 (C:Cs) (r_Lread:F3):S3:=(ret3 (k3 .non))
def Lread_8 (C:Cs) (r_Lread:F3):S3:=(ifs3 (or3 (tst3 (op3 (inDF3 true) (v3 4) (v3 3))) (tst3 (op3 neP (op3 ixP (v3 0) (un3 neg3 (k3 (.int 1)))) (k3 (.str ")"))))) (Lread_8t_1 C r_Lread) next3)
def Lread_9 (C:Cs) (r_Lread:F3):S3:=(asg3 (fn3 1 (Lcut C) (cons3 (sl3 slP (v3 0) (part3 (op3 addP (call3 len3 (cons3 (v3 4) nil3)) (k3 (.int 1)))) (part3 (un3 neg3 (k3 (.int 1))))) nil3) []) (name3 5))
def Lread_10t_1 (C:Cs) (r_Lread:F3):S3:=(ret3 (k3 .non))
def Lread_10 (C:Cs) (r_Lread:F3):S3:=(ifs3 (or3 (tst3 (op3 neP (call3 len3 (cons3 (v3 5) nil3)) (call3 len3 (cons3 (dget3 (v3 3) (v3 4)) nil3)))) (not3 (tst3 (call3 all3 (cons3 (lc3 (iterP (sl3 slP (v3 5) (part3 (k3 (.int 1))) no3)) (name3 7) yes3 (op3 eqP (sl3 slP (v3 7) no3 (part3 (k3 (.int 1)))) (k3 (.str " "))) [7]) nil3))))) (Lread_10t_1 C r_Lread) next3)
def Lread_11 (C:Cs) (r_Lread:F3):S3:=(asg3 (op3 addP (sl3 slP (v3 5) no3 (part3 (k3 (.int 1)))) (lc3 (iterP (sl3 slP (v3 5) (part3 (k3 (.int 1))) no3)) (name3 7) yes3 (sl3 slP (v3 7) (part3 (k3 (.int 1))) no3) [7])) (name3 5))
def Lread_12 (C:Cs) (r_Lread:F3):S3:=(asg3 (lc3 (iterZG3 (cons3 (v3 5) (cons3 (dget3 (v3 3) (v3 4)) nil3))) (gtup3 2 (gcons3 (name3 7) (gcons3 (name3 8) gnil3))) yes3 (fn30 3 r_Lread (cons3 (v3 7) (cons3 (v3 8) (cons3 (op3 sub3 (v3 2) (k3 (.int 1))) nil3))) []) [7,8]) (name3 6))
def Lread_13 (C:Cs) (r_Lread:F3):S3:=(ret3 (if3 (tst3 (op3 (inLD3 false) (k3 .non) (v3 6))) (k3 .non) (op3 addP (tup3 (cons3 (v3 4) nil3)) (call3 tuple3 (cons3 (v3 6) nil3)))))
def LreadB (C:Cs) (r_Lread:F3):S3:=(seq3 (Lread_1 C r_Lread) (seq3 (Lread_2 C r_Lread) (seq3 (Lread_3 C r_Lread) (seq3 (Lread_4 C r_Lread) (seq3 (Lread_5 C r_Lread) (seq3 (Lread_6 C r_Lread) (seq3 (Lread_7 C r_Lread) (seq3 (Lread_8 C r_Lread) (seq3 (Lread_9 C r_Lread) (seq3 (Lread_10 C r_Lread) (seq3 (Lread_11 C r_Lread) (seq3 (Lread_12 C r_Lread) (Lread_13 C r_Lread)))))))))))))
def Lread_ (C:Cs):Nat→F3
 | 0=>f0
 | n+1=>(fun ds Q X=>LreadB C (Lread_ C n) {nx:=fun _=>Q .non,rt:=Q,xn:=fun _=>X} (start3 9 ds))
theorem Lread_ex (C:Cs) (n:Nat):∃f:F3,f=Lread_ C n:=⟨_,rfl⟩
noncomputable def Lread (C:Cs) (n:Nat):F3:=Classical.choose (Lread_ex C n)
theorem Lread_def (C:Cs) (n:Nat):Lread C n=Lread_ C n:=Classical.choose_spec (Lread_ex C n)
theorem Lread_zero (C:Cs):Lread C 0=f0:=by rw [Lread_def];rfl
theorem Lread_succ (C:Cs) (n:Nat):Lread C (n+1)=fun ds Q X=>LreadB C (Lread C n) {nx:=fun _=>Q .non,rt:=Q,xn:=fun _=>X} (start3 9 ds):=by
 rw [Lread_def,Lread_def]
 rfl
def LbentB (C:Cs) (p:Addr):S3:=(seq3 (asg3 (fnP30 p 2 take3 (cons3 (v3 0) (cons3 (op3 addP (call3 len3 (cons3 (v3 1) nil3)) (k3 (.int 1))) nil3)) []) (name3 2)) (seq3 (asg3 (fnP30 p 2 take3 (cons3 (v3 0) (cons3 (op3 addP (call3 len3 (cons3 (v3 1) nil3)) (k3 (.int 1))) nil3)) []) (name3 3)) (seq3 (asg3 (fnP30 p 2 take3 (cons3 (v3 0) (cons3 (k3 (.int 8)) nil3)) []) (name3 4)) (seq3 (ifs3 (tst3 (op3 eqP (v3 4) (k3 (.int 0)))) (ret3 (op3 addP (sl3 slP (v3 1) no3 (part3 (v3 2))) (sl3 slP (v3 1) (part3 (op3 addP (v3 2) (k3 (.int 1)))) no3))) next3) (seq3 (ifs3 (tst3 (op3 eqP (v3 4) (k3 (.int 1)))) (ret3 (op3 addP (op3 addP (sl3 slP (v3 1) no3 (part3 (v3 2))) (op3 ixP (k3 (.str "(), .-0a9 \n")) (fnP30 p 2 take3 (cons3 (v3 0) (cons3 (k3 (.int 11)) nil3)) []))) (sl3 slP (v3 1) (part3 (v3 2)) no3))) next3) (seq3 (ifs3 (tst3 (op3 eqP (v3 4) (k3 (.int 2)))) (ret3 (op3 addP (sl3 slP (v3 1) no3 (part3 (call3 max23 (cons3 (v3 2) (cons3 (v3 3) nil3))))) (sl3 slP (v3 1) (part3 (call3 min23 (cons3 (v3 2) (cons3 (v3 3) nil3)))) no3))) next3) (seq3 (ifs3 (tst3 (op3 eqP (v3 4) (k3 (.int 3)))) (ret3 (replI3 ", " [",",",  "," , "] (v3 1) (fnP30 p 2 take3 (cons3 (v3 0) (cons3 (k3 (.int 3)) nil3)) []))) next3) (seq3 (ifs3 (tst3 (op3 eqP (v3 4) (k3 (.int 4)))) (ret3 (op3 ixP (lst3 (cons3 (op3 addP (op3 addP (k3 (.str "(")) (v3 1)) (k3 (.str ")"))) (cons3 (op3 addP (v3 1) (k3 (.str ")"))) (cons3 (op3 addP (k3 (.str " ")) (v3 1)) (cons3 (op3 addP (v3 1) (k3 (.str " "))) (cons3 (op3 addP (k3 (.str "+")) (v3 1)) (cons3 (op3 addP (k3 (.str "0")) (v3 1)) nil3))))))) (fnP30 p 2 take3 (cons3 (v3 0) (cons3 (k3 (.int 6)) nil3)) []))) next3) (seq3 (ifs3 (tst3 (op3 eqP (v3 4) (k3 (.int 5)))) (ret3 (replI3 "old." ["new.","old","Old."] (v3 1) (fnP30 p 2 take3 (cons3 (v3 0) (cons3 (k3 (.int 3)) nil3)) []))) next3) (seq3 (ifs3 (tst3 (op3 eqP (v3 4) (k3 (.int 6)))) (ret3 (op3 ixP (lst3 (cons3 (k3 (.str "")) (cons3 (k3 (.str "gap")) (cons3 (k3 (.str "yes")) (cons3 (k3 (.str "yes()")) (cons3 (k3 (.str "-0")) (cons3 (k3 (.str "not(yes, yes)")) (cons3 (op3 repS3 (k3 (.str "9")) (k3 (.int 30))) (cons3 (op3 repS3 (k3 (.str "9")) (k3 (.int 31))) nil3))))))))) (fnP30 p 2 take3 (cons3 (v3 0) (cons3 (k3 (.int 8)) nil3)) []))) next3) (ret3 (v3 1))))))))))))
def LbentD (C:Cs):F3:=fun ds Q X=>match ds with | .ref p::r=>LbentB C p {nx:=fun _=>Q .non,rt:=Q,xn:=fun _=>X} (start3 5 (.ref p::r)) | _=>False
theorem Lbent_ex (C:Cs):∃f:F3,f=LbentD C:=⟨_,rfl⟩
noncomputable def Lbent (C:Cs):F3:=Classical.choose (Lbent_ex C)
theorem Lbent_def (C:Cs):Lbent C=LbentD C:=Classical.choose_spec (Lbent_ex C)
def law_1 (C:Cs) (p:Addr):S3:=(asg3 (fnP30 p 2 (Lnames C) (cons3 (v3 1) (cons3 (k3 (.int 3)) nil3)) []) (name3 2))
def law_2b_1 (C:Cs) (p:Addr):S3:=(asg3 (fnP30 p 4 (Lvalue C 12) (cons3 (v3 1) (cons3 (op3 addP (k3 (.int 1)) (fnP30 p 2 take3 (cons3 (v3 1) (cons3 (k3 (.int 4)) nil3)) [])) (cons3 (v3 2) (cons3 (v3 2) nil3)))) []) (name3 4))
def law_2b_2t_1 (C:Cs) (p:Addr):S3:=(asg3 (fnP30 p 4 (Ltruth C 12) (cons3 (v3 1) (cons3 (op3 addP (k3 (.int 1)) (fnP30 p 2 take3 (cons3 (v3 1) (cons3 (k3 (.int 4)) nil3)) [])) (cons3 (v3 2) (cons3 (v3 2) nil3)))) []) (name3 4))
def law_2b_2 (C:Cs) (p:Addr):S3:=(ifs3 (tst3 (op3 eqP (fnP30 p 2 take3 (cons3 (v3 1) (cons3 (k3 (.int 2)) nil3)) []) (k3 (.int 0)))) (law_2b_2t_1 C p) next3)
def law_2b_3 (C:Cs) (p:Addr):S3:=(asg3 (fn30 1 (Lwritten C 12) (cons3 (v3 4) nil3) []) (name3 5))
def law_2b_4b_1 (C:Cs) (p:Addr):S3:=(asg3 (if3 (tst3 (op3 M3.gtP (fnP30 p 2 take3 (cons3 (v3 1) (cons3 (k3 (.int 9)) nil3)) []) (k3 (.int 0)))) (op3 addP (op3 addP (k3 (.str "not(")) (v3 5)) (k3 (.str ")"))) (op3 addP (op3 addP (k3 (.str "least(")) (v3 5)) (k3 (.str ", 0)")))) (name3 5))
def law_2b_4b (C:Cs) (p:Addr):S3:=(law_2b_4b_1 C p)
def law_2b_4 (C:Cs) (p:Addr):S3:=(for3 (iterR3 (cons3 (op3 ixP (lst3 (cons3 (k3 (.int 0)) (cons3 (k3 (.int 0)) (cons3 (fnP30 p 2 take3 (cons3 (v3 1) (cons3 (k3 (.int 9)) nil3)) []) nil3)))) (fnP30 p 2 take3 (cons3 (v3 1) (cons3 (k3 (.int 3)) nil3)) [])) nil3)) (name3 6) (law_2b_4b C p))
def law_2b_5b_1 (C:Cs) (p:Addr):S3:=(asg3 (fnP30 p 2 (Lbent C) (cons3 (v3 1) (cons3 (v3 5) nil3)) []) (name3 5))
def law_2b_5b (C:Cs) (p:Addr):S3:=(law_2b_5b_1 C p)
def law_2b_5 (C:Cs) (p:Addr):S3:=(for3 (iterR3 (cons3 (fnP30 p 2 take3 (cons3 (v3 1) (cons3 (k3 (.int 3)) nil3)) []) nil3)) (name3 7) (law_2b_5b C p))
def law_2b_6 (C:Cs) (p:Addr):S3:=(asg3 (lst3 (cons3 (fn30 3 (Lread C 12) (cons3 (v3 5) (cons3 (k3 (.str "v")) (cons3 (k3 (.int 8)) nil3))) []) (cons3 (fn30 3 (Lread C 12) (cons3 (v3 5) (cons3 (k3 (.str "t")) (cons3 (k3 (.int 8)) nil3))) []) nil3))) (name3 8))
def law_2b_7 (C:Cs) (p:Addr):S3:=(asg3 (lc3 (iterP (v3 8)) (name3 11) yes3 (if3 (tst3 (op3 isN3 (v3 11) (k3 .non))) (tup3 (cons3 (k3 (.str "BadText")) (cons3 (k3 (.int 0)) nil3))) (tup3 (cons3 (k3 (.str "none")) nil3))) [11]) (name3 9))
def law_2b_8 (C:Cs) (p:Addr):S3:=(asg3 (lst3 (cons3 (why5 C.em (whyT C) "none" (fn3 1 (read_value C) (cons3 (v3 5) nil3) [])) (cons3 (why5 C.em (whyT C) "none" (fn3 1 (read_truth C) (cons3 (v3 5) nil3) [])) nil3))) (name3 10))
def law_2b_9t_1 (C:Cs) (p:Addr):S3:=(ret3 (k3 (.bl false)))
def law_2b_9 (C:Cs) (p:Addr):S3:=(ifs3 (not3 (tst3 (fn30 2 (Lsame C 12) (cons3 (v3 10) (cons3 (v3 9) nil3)) []))) (law_2b_9t_1 C p) next3)
def law_2b_10t_1 (C:Cs) (p:Addr):S3:=(ret3 (k3 (.bl false)))
def law_2b_10 (C:Cs) (p:Addr):S3:=(ifs3 (and3 (tst3 (op3 notN3 (op3 ixP (v3 8) (k3 (.int 0))) (k3 .non))) (not3 (tst3 (fn30 2 (Lsame C 12) (cons3 (fn30 1 (read_value C) (cons3 (v3 5) nil3) []) (cons3 (op3 ixP (v3 8) (k3 (.int 0))) nil3)) [])))) (law_2b_10t_1 C p) next3)
def law_2b_11t_1 (C:Cs) (p:Addr):S3:=(ret3 (k3 (.bl false)))
def law_2b_11 (C:Cs) (p:Addr):S3:=(ifs3 (and3 (tst3 (op3 notN3 (op3 ixP (v3 8) (k3 (.int 1))) (k3 .non))) (not3 (tst3 (fn30 2 (Lsame C 12) (cons3 (fn30 1 (read_truth C) (cons3 (v3 5) nil3) []) (cons3 (op3 ixP (v3 8) (k3 (.int 1))) nil3)) [])))) (law_2b_11t_1 C p) next3)
def law_2b (C:Cs) (p:Addr):S3:=(seq3 (law_2b_1 C p) (seq3 (law_2b_2 C p) (seq3 (law_2b_3 C p) (seq3 (law_2b_4 C p) (seq3 (law_2b_5 C p) (seq3 (law_2b_6 C p) (seq3 (law_2b_7 C p) (seq3 (law_2b_8 C p) (seq3 (law_2b_9 C p) (seq3 (law_2b_10 C p) (law_2b_11 C p)))))))))))
def law_2 (C:Cs) (p:Addr):S3:=(for3 (iterR3 (cons3 (k3 (.int 6)) nil3)) (name3 3) (law_2b C p))
def law_3 (C:Cs) (p:Addr):S3:=(ret3 (k3 (.bl true)))
def lawB (C:Cs) (p:Addr):S3:=(seq3 (law_1 C p) (seq3 (law_2 C p) (law_3 C p)))
def Plain (C:Cs):Prop:=∀p:Addr,lawB C p {nx:=fun _=>False,rt:=fun d=>d= .bl true} (Sl.no::Sl.val (.ref p)::List.replicate 10 Sl.no)
end Law
namespace Law
open PySem L2 M3
def top (i:Nat):Stmt:=PySem.Challenge.pw_onepour_k10_texts_of_no_word.main.body.getD i (.Pass ⟨0,0,0,0⟩)
abbrev s_is_cell:Stmt:=top 6
abbrev N_is_cell:List Str:=["thing","most"]
theorem sc_is_cell:FnScope N_is_cell ["thing","most"] (defScope s_is_cell):=⟨rfl,rfl,rfl,by decide +kernel,rfl,by decide +kernel,by decide +kernel⟩
abbrev s_is_name:Stmt:=top 7
abbrev N_is_name:List Str:=["thing","sign"]
theorem sc_is_name:FnScope N_is_name ["thing"] (defScope s_is_name):=⟨rfl,rfl,rfl,by decide +kernel,rfl,by decide +kernel,by decide +kernel⟩
abbrev s_is_value:Stmt:=top 12
abbrev N_is_value:List Str:=["word","room"]
theorem sc_is_value:FnScope N_is_value ["word","room"] (defScope s_is_value):=⟨rfl,rfl,rfl,by decide +kernel,rfl,by decide +kernel,by decide +kernel⟩
abbrev s_is_truth:Stmt:=top 13
abbrev N_is_truth:List Str:=["word","room"]
theorem sc_is_truth:FnScope N_is_truth ["word","room"] (defScope s_is_truth):=⟨rfl,rfl,rfl,by decide +kernel,rfl,by decide +kernel,by decide +kernel⟩
abbrev s_parts_fit:Stmt:=top 14
abbrev N_parts_fit:List Str:=["word","kinds","room","first","parts","part","kind","fits"]
theorem sc_parts_fit:FnScope N_parts_fit ["word","kinds","room"] (defScope s_parts_fit):=⟨rfl,rfl,rfl,by decide +kernel,rfl,by decide +kernel,by decide +kernel⟩
abbrev s_read_cell:Stmt:=top 17
abbrev N_read_cell:List Str:=["text","figures","number","sign"]
theorem sc_read_cell:FnScope N_read_cell ["text"] (defScope s_read_cell):=⟨rfl,rfl,rfl,by decide +kernel,rfl,by decide +kernel,by decide +kernel⟩
abbrev s_cut_parts:Stmt:=top 18
abbrev N_cut_parts:List Str:=["text","parts","deep","begin","at","sign"]
theorem sc_cut_parts:FnScope N_cut_parts ["text"] (defScope s_cut_parts):=⟨rfl,rfl,rfl,by decide +kernel,rfl,by decide +kernel,by decide +kernel⟩
abbrev s_read_word:Stmt:=top 19
abbrev N_read_word:List Str:=["text","room","side","dot","column","first","bracket","rest","head","others","part"]
theorem sc_read_word:FnScope N_read_word ["text","room"] (defScope s_read_word):=⟨rfl,rfl,rfl,by decide +kernel,rfl,by decide +kernel,by decide +kernel⟩
abbrev s_read_value:Stmt:=top 20
abbrev N_read_value:List Str:=["text","word"]
theorem sc_read_value:FnScope N_read_value ["text"] (defScope s_read_value):=⟨rfl,rfl,rfl,by decide +kernel,rfl,by decide +kernel,by decide +kernel⟩
abbrev s_read_truth:Stmt:=top 21
abbrev N_read_truth:List Str:=["text","word"]
theorem sc_read_truth:FnScope N_read_truth ["text"] (defScope s_read_truth):=⟨rfl,rfl,rfl,by decide +kernel,rfl,by decide +kernel,by decide +kernel⟩
abbrev s_Lsame:Stmt:=top 25
abbrev N_Lsame:List Str:=["_law_found","_law_due","_law_one","_law_other"]
theorem sc_Lsame:FnScope N_Lsame ["_law_found","_law_due"] (defScope s_Lsame):=⟨rfl,rfl,rfl,by decide +kernel,rfl,by decide +kernel,by decide +kernel⟩
abbrev s_Lnames:Stmt:=top 26
abbrev N_Lnames:List Str:=["_law_pot_here","_law_many","_law_letters","_law_stem","_law_spot","_law_begin","_law_stride","_law_k"]
theorem sc_Lnames:FnScope N_Lnames ["_law_pot_here","_law_many"] (defScope s_Lnames):=⟨rfl,rfl,rfl,by decide +kernel,rfl,by decide +kernel,by decide +kernel⟩
abbrev s_Lcell:Stmt:=top 27
abbrev N_Lcell:List Str:=["_law_pot_here","_law_kind","_law_top"]
theorem sc_Lcell:FnScope N_Lcell ["_law_pot_here"] (defScope s_Lcell):=⟨rfl,rfl,rfl,by decide +kernel,rfl,by decide +kernel,by decide +kernel⟩
abbrev s_Lvalue:Stmt:=top 28
abbrev N_Lvalue:List Str:=["_law_pot_here","_law_room","_law_lefts","_law_rights","_law_kind","_law_some","_law_truth_here","_law_word","_law_name"]
theorem sc_Lvalue:FnScope N_Lvalue ["_law_pot_here","_law_room","_law_lefts","_law_rights"] (defScope s_Lvalue):=⟨rfl,rfl,rfl,by decide +kernel,rfl,by decide +kernel,by decide +kernel⟩
abbrev s_Ltruth:Stmt:=top 29
abbrev N_Ltruth:List Str:=["_law_pot_here","_law_room","_law_lefts","_law_rights","_law_kind","_law_first","_law_word"]
theorem sc_Ltruth:FnScope N_Ltruth ["_law_pot_here","_law_room","_law_lefts","_law_rights"] (defScope s_Ltruth):=⟨rfl,rfl,rfl,by decide +kernel,rfl,by decide +kernel,by decide +kernel⟩
abbrev s_Lwritten:Stmt:=top 30
abbrev N_Lwritten:List Str:=["_law_word","_law_part"]
theorem sc_Lwritten:FnScope N_Lwritten ["_law_word"] (defScope s_Lwritten):=⟨rfl,rfl,rfl,by decide +kernel,rfl,by decide +kernel,by decide +kernel⟩
abbrev s_Lcell_read:Stmt:=top 31
abbrev N_Lcell_read:List Str:=["_law_text","_law_figures","_law_sign"]
theorem sc_Lcell_read:FnScope N_Lcell_read ["_law_text"] (defScope s_Lcell_read):=⟨rfl,rfl,rfl,by decide +kernel,rfl,by decide +kernel,by decide +kernel⟩
abbrev s_Lcut:Stmt:=top 32
abbrev N_Lcut:List Str:=["_law_text","_law_parts","_law_depth","_law_sign"]
theorem sc_Lcut:FnScope N_Lcut ["_law_text"] (defScope s_Lcut):=⟨rfl,rfl,rfl,by decide +kernel,rfl,by decide +kernel,by decide +kernel⟩
abbrev s_Lname_ok:Stmt:=top 33
abbrev N_Lname_ok:List Str:=["_law_name","_law_sign"]
theorem sc_Lname_ok:FnScope N_Lname_ok ["_law_name"] (defScope s_Lname_ok):=⟨rfl,rfl,rfl,by decide +kernel,rfl,by decide +kernel,by decide +kernel⟩
abbrev s_Lread:Stmt:=top 34
abbrev N_Lread:List Str:=["_law_text","_law_kind","_law_room","_law_sorts","_law_first","_law_parts","_law_found","_law_part","_law_sort"]
theorem sc_Lread:FnScope N_Lread ["_law_text","_law_kind","_law_room"] (defScope s_Lread):=⟨rfl,rfl,rfl,by decide +kernel,rfl,by decide +kernel,by decide +kernel⟩
abbrev s_Lbent:Stmt:=top 35
abbrev N_Lbent:List Str:=["_law_pot_here","_law_text","_law_at","_law_to","_law_kind"]
theorem sc_Lbent:FnScope N_Lbent ["_law_pot_here","_law_text"] (defScope s_Lbent):=⟨rfl,rfl,rfl,by decide +kernel,rfl,by decide +kernel,by decide +kernel⟩
abbrev s_Lwhy:Stmt:=top 36
abbrev N_Lwhy:List Str:=["_law_act","e"]
theorem sc_Lwhy:FnScope N_Lwhy ["_law_act"] (defScope s_Lwhy):=⟨rfl,rfl,rfl,by decide +kernel,rfl,by decide +kernel,by decide +kernel⟩
abbrev s_law:Stmt:=top 37
abbrev N_law:List Str:=["_law_script","_law_pot_here","_law_names_here","_law_turn","_law_word","_law_text","_law_wrap","_law_bend","_law_due","_law_why_here","_law_found","_law_one"]
theorem sc_law:FnScope N_law ["_law_script"] (defScope s_law):=⟨rfl,rfl,rfl,by decide +kernel,rfl,by decide +kernel,by decide +kernel⟩
abbrev s_BadText_init:Stmt:=inClass (top 3) 0
abbrev N_BadText_init:List Str:=["self","at"]
theorem sc_BadText_init:FnScope N_BadText_init ["self","at"] (defScope s_BadText_init):=⟨rfl,rfl,rfl,by decide +kernel,rfl,by decide +kernel,by decide +kernel⟩
section
variable {P:Program} {w:World} {K:PySem.W.Frag} {mg:Str→Option Value} {base:Heap}
abbrev s_Ltake:Stmt:=top 24
abbrev N_Ltake:List Str:=["_law_pot_here","_law_many","_law_cell_here"]
theorem sc_Ltake:FnScope N_Ltake ["_law_pot_here","_law_many"] (defScope s_Ltake):=⟨rfl,rfl,rfl,by decide +kernel,rfl,by decide +kernel,by decide +kernel⟩
theorem ok_Ltake {f:Addr} {fd:FuncData} (F:Fun K "_law_take" "_law_take" s_Ltake f fd) (zlen:mg "len"=none):FnOk P w K mg base CX0 1 f fd ["_law_pot_here","_law_many"] spTake:=by
 refine F.ok sc_Ltake (fun vs H Q E h=> ?_) (fun cdv A outer s H vs Q E hr h=> ?_)
 · obtain ⟨p,cc,m,rfl,_⟩:=h
   rfl
 · obtain ⟨p,cc,m,rfl,⟨cs,i,n,sd,hp,hc,i0,i1,hl,hz,s0,s1⟩,m0,m1,k⟩:=h
   have ne:p≠cc:=PotAt.ne ⟨cs,i,n,sd,hp,hc,i0,i1,hl,hz,s0,s1⟩
   refine ⟨_,pss_cons (ps_augS (pv 0) pe_int get_list pe_int ip_add set_list)
    (pss_cons (ps_set (i:=2) sc_Ltake.nd rfl (Or.inl rfl) (pe_ix ix_list (pe_ix ix_list (pv 0) pe_int (fun _ _=>rfl)) (pe_ix ix_list (pv 0) pe_int (fun _ _=>rfl)) (fun _ _=>rfl)))
    (pss_cons (ps_if (pt_cmpR op_ge (pv 2) (pe_op op_pow pe_int pe_int) (nomark _))
      (pss_cons (ps_asg (pe_op op_fdivW (pv 2) (pv 1)) (pg_sub (pe_ix ix_list (pv 0) pe_int (fun _ _=>rfl)) (pe_ix ix_list (pv 0) pe_int (fun _ _=>rfl)) set_list))
      (pss_one (ps_ret (pe_op op_mod (pv 2) (pv 1))))) pss_nil)
    (pss_cons (ps_asg (pe_op op_mod (pe_op op_add (pe_ix ix_list (pv 0) pe_int (fun _ _=>rfl)) pe_int) (pe_callB call_len_seq (by rfl) zlen (by decide +kernel) (pa_cons (pe_ix ix_list (pv 0) pe_int (fun _ _=>rfl)) pa_nil))) (pg_sub (pv 0) pe_int set_list))
    (pss_cons (ps_asg (pe_op op_mod (pe_op op_add (pe_op op_add (pe_op op_mul (pe_ix ix_list (pv 0) pe_int (fun _ _=>rfl)) pe_int) (pe_op op_mod (pv 2) pe_int)) (pe_ix ix_list (pv 0) pe_int (fun _ _=>rfl))) pe_int) (pg_sub (pv 0) pe_int set_list))
    (pss_one (ps_ret (pe_op op_mod (pe_op op_fdiv (pe_ix ix_list (pv 0) pe_int (fun _ _=>rfl)) pe_int) (pv 1)))))))), ?_⟩
   refine ⟨_,rfl,p,_,2,_,rfl,rfl,SqL.of hp,rfl,_,_,rfl,rfl,p,_,2,2,rfl,rfl,hp,rfl, ?_⟩
   have hp1:(upd H p (.lst [.ref cc,.int i,.int (n+1),.int sd])) p=some (.lst [.ref cc,.int i,.int (n+1),.int sd]):=upd_same
   have hc1:(upd H p (.lst [.ref cc,.int i,.int (n+1),.int sd])) cc=some (.lst (cs.map V.int)):=by rw [upd_ne ne.symm];exact hc
   obtain ⟨j,hj⟩:∃j:Nat,i=(j:Int):=⟨i.toNat,by omega⟩
   subst hj
   have hjl:j<cs.length:=by omega
   obtain ⟨z,ez⟩:∃z,cs[j]? =some z:=⟨cs[j],List.getElem?_eq_getElem hjl⟩
   have ez':(cs.map V.int)[j]? =some (V.int z):=by rw [List.getElem?_map,ez];rfl
   have z0:0≤z:=hz z (List.mem_of_getElem? ez)
   refine ⟨_,rfl,p,_,0,_,rfl,rfl,SqL.of hp1,rfl,_,rfl,p,_,1,_,rfl,rfl,SqL.of hp1,rfl,cc,_,_,_,rfl,rfl,SqL.of hc1,atI_nat ez', ?_⟩
   refine ⟨_,rfl,_,_,rfl,rfl,⟨by decide,by decide,by decide⟩,_,_,rfl,rfl,_,rfl, ?_⟩
   refine ite2 (fun _=> ?_) (fun _=> ?_)
   ·
    refine ⟨_,rfl,_,rfl,_,_,rfl,rfl,wide_div (b:=200) m0 (by omega) (by decide) (by decide), ?_⟩
    refine ⟨_,rfl,p,_,0,_,rfl,rfl,SqL.of hp1,rfl,_,rfl,p,_,1,_,rfl,rfl,SqL.of hp1,rfl,cc,_,_,j,rfl,rfl,hc1, ?_, ?_⟩
    · rw [List.length_map]
      unfold ixN
      rw [if_pos (by omega),if_pos (by omega)]
      simp
    refine ⟨_,rfl,_,rfl,_,_,rfl,rfl,m0, ?_⟩
    refine k _ _ (Int.emod_nonneg _ (by omega)) (Int.emod_lt_of_pos _ m0) ⟨cs.set j (z / m),(j:Int),n+1,sd, ?_, ?_,i0,by rw [List.length_set];exact i1,by rw [List.length_set];exact hl, ?_,s0,s1⟩ (fun a h1 h2=>by rw [upd_ne h2,upd_ne h1])
    · rw [upd_ne ne];exact hp1
    · rw [upd_same,List.map_set]
    · intro y hy
      rcases List.mem_or_eq_of_mem_set hy with hy | hy
      · exact hz y hy
      · rw [hy];exact Int.ediv_nonneg z0 (by omega)
   ·
    have hcl:(0:Int)<(cs.map V.int).length:=by rw [List.length_map];omega
    refine ⟨_,rfl,p,_,1,_,rfl,rfl,SqL.of hp1,rfl,_,_,rfl,rfl,_,rfl,p,_,0,_,rfl,rfl,SqL.of hp1,rfl,cc,_,rfl,.inl (SqL.of hc1),_,_,rfl,rfl,hcl, ?_⟩
    refine ⟨_,rfl,p,_,1,1,rfl,rfl,hp1,rfl, ?_⟩
    have hp2:(upd (upd H p (.lst [.ref cc,.int (j:Int),.int (n+1),.int sd])) p (.lst [.ref cc,.int (((j:Int)+1) % ((cs.map V.int).length:Int)),.int (n+1),.int sd])) p=some (.lst [.ref cc,.int (((j:Int)+1) % ((cs.map V.int).length:Int)),.int (n+1),.int sd]):=upd_same
    refine ⟨_,rfl,p,_,3,_,rfl,rfl,SqL.of hp2,rfl,_,_,rfl,rfl,.inr ⟨by decide,by decide⟩,_,rfl,_,_,rfl,rfl,(by show (0:Int)<2147483647;decide),_,_,rfl,rfl,_,rfl,p,_,2,_,rfl,rfl,SqL.of hp2,rfl,_,_,rfl,rfl,_,_,rfl,rfl,(by show (0:Int)<2147483647;decide), ?_⟩
    refine ⟨_,rfl,p,_,3,3,rfl,rfl,hp2,rfl, ?_⟩
    refine ⟨_,rfl,p,_,3,_,rfl,rfl,SqL.of upd_same,rfl,_,_,rfl,rfl,⟨by decide,by decide⟩,_,rfl,_,_,rfl,rfl,m0, ?_⟩
    refine k _ _ (Int.emod_nonneg _ (by omega)) (Int.emod_lt_of_pos _ m0) ⟨cs,_,n+1,_,upd_same, ?_, ?_, ?_,hl,hz, ?_, ?_⟩ (fun a h1 h2=>by rw [upd_ne h1,upd_ne h1,upd_ne h1])
    · rw [upd_ne ne.symm,upd_ne ne.symm];exact hc1
    · exact Int.emod_nonneg _ (by omega)
    · rw [List.length_map];exact Int.emod_lt_of_pos _ (by omega)
    · exact Int.emod_nonneg _ (by omega)
    · exact Int.emod_lt_of_pos _ (by omega)
def spPot (K:PySem.W.Frag):Sp:=fun vs H Q _=>∃(a:Addr) (ns:List Int),vs=[.ref a]∧SqL K H a (ns.map V.int)∧∀p cc H',H p=none→H cc=none→PotAt p cc H'→Same H H'→Q (.ref p) H'
abbrev s_Lpot:Stmt:=top 23
abbrev N_Lpot:List Str:=["_law_script","_law_cells","_law_cell_here"]
theorem sc_Lpot:FnScope N_Lpot ["_law_script"] (defScope s_Lpot):=⟨rfl,rfl,rfl,by decide +kernel,rfl,by decide +kernel,by decide +kernel⟩
theorem ok_Lpot {f:Addr} {fd:FuncData} (F:Fun K "_law_pot" "_law_pot" s_Lpot f fd) (zabs:mg "abs"=none):FnOk P w K mg base CX0 1 f fd ["_law_script"] (spPot K):=by
 refine F.ok sc_Lpot (fun vs H Q E h=> ?_) (fun cdv A outer s H vs Q E hr h=> ?_)
 · obtain ⟨a,ns,rfl,_⟩:=h
   rfl
 · obtain ⟨a,ns,rfl,hS,k⟩:=h
   refine ⟨_,pss_cons (ps_setLc (i:=1) (own:=[("_law_cell_here",2)]) (by rfl) sc_Lpot.nd rfl rfl (sw_true rfl rfl rfl (by decide +kernel)) (pi_list (pe_slice sl_list (pv 0) po_none (po_some pe_int))) (blkOk_by (own:=[("_law_cell_here",2)]) (N:=N_Lpot) (sc:=defScope s_Lpot) (by decide +kernel)) (fun _ _ _ _ _=>(pg_name (i:=2) sc_Lpot.nd rfl (Or.inl rfl))) (fun _ _ _ _ _=>pts_nil) (fun _ _ _ _ _=>(pe_callB call_abs (by rfl) zabs (by decide +kernel) (pa_cons (pv 2) pa_nil))))
    (pss_cons (ps_if (pt_not (pt_truth (pv 1) (by intro _;rfl))) (pss_one (ps_set (i:=1) sc_Lpot.nd rfl (Or.inl rfl) (pe_lst (pa_cons pe_int pa_nil)))) pss_nil)
    (pss_one (ps_ret (pe_lst (pa_cons (pv 1) (pa_cons pe_int (pa_cons pe_int (pa_cons pe_int pa_nil)))))))), ?_⟩
   obtain ⟨ms,ems,lms⟩:∃ms:List Int,cutV (ns.map V.int) none (some 63)=ms.map V.int∧ms.length≤63:=by
    refine ⟨(ns.drop (HT.sIx (ns.map V.int).length 0 none)).take (HT.sIx (ns.map V.int).length (ns.map V.int).length (some 63)-HT.sIx (ns.map V.int).length 0 none), ?_, ?_⟩
    · unfold cutV
      rw [List.map_take,List.map_drop]
    · rw [List.length_take]
      have h1:=HT.sIx_nat (ns.map V.int).length (ns.map V.int).length 63
      have h2:HT.sIx (ns.map V.int).length (ns.map V.int).length (some 63)=min 63 (ns.map V.int).length:=h1
      omega
   refine ⟨_,rfl,63,rfl,a,_,rfl,hS,fun q hq=> ?_⟩
   rw [ems]
   refine ⟨q,rfl,⟨_,SqL.of upd_same⟩,fun D hD=> ?_⟩
   have nqD:q≠D:=ne_of_none upd_same hD
   have s1:Same H (upd H q (.lst (ms.map V.int))):=fun b o e=>by rw [upd_ne (ne_of_none e hq)];exact e
   have hD0:H D=none:=s1.free hD
   refine lc_list (K:=K) (a:=q) (xs:=ms.map V.int) (fun i H2=>Same H H2∧H2 q=some (.lst (ms.map V.int))∧∃as:List Int,H2 D=some (.lst (as.map V.int))∧as.length=i∧∀z∈as,0≤z) ?_ ?_ ?_ ?_
   · refine ⟨fun b o e=>by rw [upd_ne (ne_of_none e hD0)];exact s1 b o e,by rw [upd_ne nqD];exact upd_same,[],upd_same,rfl,fun z hz=>by cases hz⟩
   · rintro i H2 _ ⟨_,h2,_⟩
     exact SqL.of h2
   · rintro i x H2 hx ⟨s2,h2,as,hd,hl,hz⟩
     have hil:i<(ms.map V.int).length:=(List.getElem?_eq_some_iff.mp hx).1
     rw [List.length_map] at hil
     obtain ⟨z,rfl⟩:∃z,x=V.int z:=by
      rw [List.getElem?_map] at hx
      cases e:ms[i]? with
      | none=>rw [e] at hx;cases hx
      | some z=>rw [e] at hx;exact ⟨z,(Option.some.inj hx).symm⟩
     refine ⟨rfl, ?_⟩
     unfold tYes
     refine iteT ?_
     refine ⟨_,rfl,z,rfl,as.map V.int,hd, ?_, ?_⟩
     · rw [List.length_map]
       exact small1000 (by omega)
     · refine ⟨fun b o e=>by rw [upd_ne (ne_of_none e hD0)];exact s2 b o e,by rw [upd_ne nqD];exact h2,as++[if z<0 then -z else z],by rw [upd_same,List.map_append];rfl,by rw [List.length_append,hl];rfl,fun y hy=> ?_⟩
       rcases List.mem_append.mp hy with hy | hy
       · exact hz y hy
       · rw [List.mem_singleton.mp hy]
         split<;>omega
   · rintro H2 ⟨s2,h2,as,hd,hl,hz⟩
     rw [List.length_map] at hl
     have fin:∀(cc:Addr) (cs:List Int) (H3:Hp),H cc=none→H3 cc=some (.lst (cs.map V.int))→Same H H3→0<cs.length→cs.length≤1000→(∀z∈cs,0≤z)→
      tRet (tLst (tCons (tVar 1) (tCons (tC (V.int 0)) (tCons (tC (V.int 0)) (tCons (tC (V.int 7)) tNil))))) {nx:=fun _ H'=>Q .non H',rt:=Q} [some (.ref a),some (.ref cc),none] H3:=by
      intro cc cs H3 hcc h3 s3 l0 l1 z0
      refine ⟨_,rfl,(by show 4≤sizeLine;decide),fun p hp=> ?_⟩
      have npc:cc≠p:=ne_of_none h3 hp
      refine k p cc _ (s3.free hp) hcc ⟨cs,0,0,7,upd_same,by rw [upd_ne npc];exact h3,by decide,by omega,l1,z0,by decide,by decide⟩ (fun b o e=>by rw [upd_ne (ne_of_none (s3 b o e) hp)];exact s3 b o e)
     refine ⟨_,rfl,_,.inl ⟨_,SqL.of hd,rfl⟩, ?_⟩
     cases as with
     | nil=>
       refine iteT ?_
       refine ⟨(by show 1≤sizeLine;decide),fun c2 hc2=> ?_⟩
       exact fin c2 [0] _ (s2.free hc2) upd_same (fun b o e=>by rw [upd_ne (ne_of_none (s2 b o e) hc2)];exact s2 b o e) (by decide) (by decide) (by intro z h;rw [List.mem_singleton.mp h];decide)
     | cons z as=>
       refine iteF ?_
       exact fin D (z::as) H2 hD0 hd s2 (by simp) (by omega) hz
end
structure Top (w:World) (K:PySem.W.Frag) (mg:Str→Option Value):Prop where
 d_is_cell:DefAt K mg "is_cell" "is_cell" s_is_cell [] ["most"] [(.int 999999999999999999999999999999)]
 d_is_name:DefAt K mg "is_name" "is_name" s_is_name [] [] []
 d_is_value:DefAt K mg "is_value" "is_value" s_is_value [] [] []
 d_is_truth:DefAt K mg "is_truth" "is_truth" s_is_truth [] [] []
 d_parts_fit:DefAt K mg "parts_fit" "parts_fit" s_parts_fit [] [] []
 d_read_cell:DefAt K mg "read_cell" "read_cell" s_read_cell [] [] []
 d_cut_parts:DefAt K mg "cut_parts" "cut_parts" s_cut_parts [] [] []
 d_read_word:DefAt K mg "read_word" "read_word" s_read_word [] [] []
 d_read_value:DefAt K mg "read_value" "read_value" s_read_value [] [] []
 d_read_truth:DefAt K mg "read_truth" "read_truth" s_read_truth [] [] []
 d_Lpot:DefAt K mg "_law_pot" "_law_pot" s_Lpot [] [] []
 d_Ltake:DefAt K mg "_law_take" "_law_take" s_Ltake [] [] []
 d_Lsame:DefAt K mg "_law_same" "_law_same" s_Lsame [] [] []
 d_Lnames:DefAt K mg "_law_names" "_law_names" s_Lnames [] [] []
 d_Lcell:DefAt K mg "_law_cell" "_law_cell" s_Lcell [] [] []
 d_Lvalue:DefAt K mg "_law_value" "_law_value" s_Lvalue [] [] []
 d_Ltruth:DefAt K mg "_law_truth" "_law_truth" s_Ltruth [] [] []
 d_Lwritten:DefAt K mg "_law_written" "_law_written" s_Lwritten [] [] []
 d_Lcell_read:DefAt K mg "_law_cell_read" "_law_cell_read" s_Lcell_read [] [] []
 d_Lcut:DefAt K mg "_law_cut" "_law_cut" s_Lcut [] [] []
 d_Lname_ok:DefAt K mg "_law_name_ok" "_law_name_ok" s_Lname_ok [] [] []
 d_Lread:DefAt K mg "_law_read" "_law_read" s_Lread [] [] []
 d_Lbent:DefAt K mg "_law_bent" "_law_bent" s_Lbent [] [] []
 zb_abs:mg "abs"=none
 zb_all:mg "all"=none
 zb_bool:mg "bool"=none
 zb_enumerate:mg "enumerate"=none
 zb_int:mg "int"=none
 zb_isinstance:mg "isinstance"=none
 zb_len:mg "len"=none
 zb_list:mg "list"=none
 zb_max:mg "max"=none
 zb_min:mg "min"=none
 zb_range:mg "range"=none
 zb_str:mg "str"=none
 zb_tuple:mg "tuple"=none
 zb_zip:mg "zip"=none
 zc_LONGEST:∃u v,mg "LONGEST"=some u∧RelV v u∧∀H,Rep K H v (.int 30)
 zc_MOST:∃u v,mg "MOST"=some u∧RelV v u∧∀H,Rep K H v (.int 999999999999999999999999999999)
 zc_MOST_DEEP:∃u v,mg "MOST_DEEP"=some u∧RelV v u∧∀H,Rep K H v (.int 8)
 kg_TRUTH_PARTS:mg "TRUTH_PARTS"=some (.ref ((csOf w K mg).at_ "TRUTH_PARTS"))
 kd_TRUTH_PARTS:KdAt K w ((csOf w K mg).at_ "TRUTH_PARTS") [("yes",(.str "")),("is",(.str "vv")),("below",(.str "vv")),("lacks",(.str "v")),("not",(.str "t")),("both",(.str "tt")),("either",(.str "tt"))]
 kg_VALUE_PARTS:mg "VALUE_PARTS"=some (.ref ((csOf w K mg).at_ "VALUE_PARTS"))
 kd_VALUE_PARTS:KdAt K w ((csOf w K mg).at_ "VALUE_PARTS") [("plus",(.str "vv")),("minus",(.str "vv")),("times",(.str "vv")),("least",(.str "vv")),("most",(.str "vv")),("choose",(.str "tvv"))]
 v_FormError:VeiC w K mg "FormError"
 d_BadText_init:MethAt K ((csOf w K mg).at_ "BadText") "__init__" "__init__" "BadText.__init__" s_BadText_init [(.int 0)] [] []
 yk_BadText:XClsK w K mg "BadText" ["at"]
 xf_BadText:XfC K ((csOf w K mg).at_ "BadText")
 nf_BadText_at:PySem.W.findIn K (.ref ((csOf w K mg).at_ "BadText")) "at"=some none
 g_BadText:mg "BadText"=some (.ref ((csOf w K mg).at_ "BadText"))
 g_PourError:mg "PourError"=some (.ref ((csOf w K mg).at_ "PourError"))
 cs:CsOk (csOf w K mg)
section
variable {P:Program} {w:World} {K:PySem.W.Frag} {mg:Str→Option Value}
theorem cl_take (T:Top w K mg) (base:Heap):Cl P w K mg base CX0 "_law_take" 1 [] (spP K 2 take3):=by
 obtain ⟨f,fd,F,hm,_⟩:=(OkF.fun_ (P:=P) (w:=w) (base:=base) (CX:=CX0) (lv:=0) (ps:=[]) (sp:=fun _ _ _ _=>False) (by obtain ⟨f,fd,dvs,kvs,rd,rk,F,hm⟩:=T.d_Ltake.ex;exact ⟨f,fd,dvs,kvs,rd,rk,F,hm,fnOk_no fun _ _ _ _ z=>z⟩))
 exact ⟨f,fd,_,[],(ok_Ltake F T.zb_len).imp take_imp,hm,F.kp,F.binds (ps:=["_law_pot_here","_law_many"]) fun _ _ _ _ _ _ us hl=>match us,hl with | [_,_],_=>rfl,.nil⟩
theorem cl_pot (T:Top w K mg) (base:Heap):Cl P w K mg base CX0 "_law_pot" 1 [] (spPot K):=by
 obtain ⟨f,fd,F,hm,_⟩:=(OkF.fun_ (P:=P) (w:=w) (base:=base) (CX:=CX0) (lv:=0) (ps:=[]) (sp:=fun _ _ _ _=>False) (by obtain ⟨f,fd,dvs,kvs,rd,rk,F,hm⟩:=T.d_Lpot.ex;exact ⟨f,fd,dvs,kvs,rd,rk,F,hm,fnOk_no fun _ _ _ _ z=>z⟩))
 exact ⟨f,fd,_,[],ok_Lpot F T.zb_abs,hm,F.kp,F.binds (ps:=["_law_script"]) fun _ _ _ _ _ _ us hl=>match us,hl with | [_],_=>rfl,.nil⟩
theorem ok_BadText_in (T:Top w K mg) (base:Heap):InX P w K mg base 1 ((csOf w K mg).at_ "BadText") "__init__" "BadText.__init__" s_BadText_init ["self","at"] ["at"] [0] [(.int 0)]:=inX_of T.d_BadText_init (fun fI fd dvs F=>F.ok sc_BadText_init (spXK_len rfl) (fun cdv A outer s H vs Q E hr h=>
 ⟨_,pss_cons (ps_expr (pe_cinit (K:=K) rfl rfl T.v_FormError (by rfl) (pa_cons (pv 0) (pa_cons (pe_joined (.cons pe_str (.cons (pe_fmt (pv 1)) .nil))) pa_nil)) (by decide))) (pss_one (ps_ostK (K:=K) rfl (pv 0) (pv 1))),bodyXK1 rfl (by decide) T.yk_BadText.oex (T.yk_BadText.no _ (by simp)) h⟩))
theorem ok_is_cell (T:Top w K mg) (base:Heap):OkF P w K mg base (L2.CX P w) "is_cell" "is_cell" s_is_cell [] ["most"] [(.int 999999999999999999999999999999)] 1 ["thing","most"] (sp3 K 2 (is_cell (csOf w K mg))):=by
 obtain ⟨f,fd,dvs,kvs,rd,rk,F,hm⟩:=T.d_is_cell.ex
 refine ⟨f,fd,dvs,kvs,rd,rk,F,hm,F.ok sc_is_cell (sp3_len rfl) (fun cdv A outer s H vs Q E hr h=> ?_)⟩
 refine ⟨_,(pss_cons (ps_if (pt_cmpR op_isN (pv 0) pe_non (nomark _)) (pss_one (ps_ret pe_bl)) pss_nil)
  (pss_cons (ps_if (PW.pt (pw_or (pt_val (pe_callB (call_isiK' (K:=K) rfl) (by rfl) T.zb_isinstance (by decide +kernel) (pa_cons (pv 0) (pa_cons (pe_bltn (v:=.ty "bool") (by rfl) T.zb_bool (by decide +kernel) rfl) pa_nil)))) (pw_or1 (pt_not (pt_val (pe_callB (call_isiK' (K:=K) rfl) (by rfl) T.zb_isinstance (by decide +kernel) (pa_cons (pv 0) (pa_cons (pe_bltn (v:=.ty "int") (by rfl) T.zb_int (by decide +kernel) rfl) pa_nil)))))))) (pss_one (ps_ret pe_bl)) pss_nil)
  (pss_one (ps_ret (pe_chain (op_leP (K:=K) rfl hr.units) (op_leP (K:=K) rfl hr.units) (pe_un un_neg (pv 1)) (pv 0) (pv 1)))))), ?_⟩
 exact body3 (x:=is_cellB (csOf w K mg)) (W:=fun cls dd _ H=>E cls dd H) h (fun _ _ _ _ z=>z) (lift_seq (lift_ifs (lift_tst (lift_op rl_isN (lift_v 0) lift_non)) (lift_ret (lift_bl _)) lift_next)
  (lift_seq (lift_ifs (lift_or (lift_tB (lift_cb rl_isi (lift_cons (lift_v 0) (lift_cons (lift_ty _) lift_nil)))) (lift_not (lift_tB (lift_cb rl_isi (lift_cons (lift_v 0) (lift_cons (lift_ty _) lift_nil)))))) (lift_ret (lift_bl _)) lift_next)
  (lift_ret (lift_chain rl_leP rl_leP (lift_un rl_neg (lift_v 1)) (lift_v 0) (lift_v 1))))) (fun ds Q3 X _ hf=>by rw [is_cell_def] at hf;exact hf)
theorem ok_is_name (T:Top w K mg) (base:Heap):OkF P w K mg base (L2.CX P w) "is_name" "is_name" s_is_name [] [] [] 1 ["thing"] (sp3 K 1 (is_name (csOf w K mg))):=by
 obtain ⟨f,fd,dvs,kvs,rd,rk,F,hm⟩:=T.d_is_name.ex
 refine ⟨f,fd,dvs,kvs,rd,rk,F,hm,F.ok sc_is_name (sp3_len rfl) (fun cdv A outer s H vs Q E hr h=> ?_)⟩
 refine ⟨_,(pss_cons (ps_if (PW.pt (pw_or (pt_not (pt_val (pe_callB (call_isiK' (K:=K) rfl) (by rfl) T.zb_isinstance (by decide +kernel) (pa_cons (pv 0) (pa_cons (pe_bltn (v:=.ty "str") (by rfl) T.zb_str (by decide +kernel) rfl) pa_nil))))) (pw_or1 (pt_not (pt_chain (op_leP (K:=K) rfl hr.units) (op_leP (K:=K) rfl hr.units) pe_int (pe_callB (call_lenK (K:=K) rfl) (by rfl) T.zb_len (by decide +kernel) (pa_cons (pv 0) pa_nil)) pe_int))))) (pss_one (ps_ret pe_bl)) pss_nil)
  (pss_one (ps_ret (pe_callB (cr_allK (K:=K) rfl rfl) (by rfl) T.zb_all (by decide +kernel) (pa_cons (pe_lc (own:=[("sign",1)]) (g:=(gName 1)) (by rfl) sc_is_name.nd (pi_P (K:=K) rfl (pv 0)) (blkOk_by (own:=[("sign",1)]) (N:=N_is_name) (sc:=defScope s_is_name) (by decide +kernel)) (fun _ _ _ _ _=>(pg_name (i:=1) sc_is_name.nd rfl (Or.inl rfl) (Or.inr rfl))) (fun _ _ _ _ _=>pts_nil) (fun _ _ _ _ _=>(pe_cmpR (op_inP (K:=K) rfl) (pv 1) pe_str (by rfl)))) pa_nil))))), ?_⟩
 exact body3 (x:=is_nameB (csOf w K mg)) (W:=fun cls dd _ H=>E cls dd H) h (fun _ _ _ _ z=>z) (lift_seq (lift_ifs (lift_or (lift_not (lift_tB (lift_cb rl_isi (lift_cons (lift_v 0) (lift_cons (lift_ty _) lift_nil))))) (lift_not (lift_tst (lift_chain rl_leP rl_leP (lift_int _) (lift_cb rl_len (lift_cons (lift_v 0) lift_nil)) (lift_int _))))) (lift_ret (lift_bl _)) lift_next)
  (lift_ret (lift_cb rl_all (lift_cons (lift_lc (vs:=[1]) (lift_iP (lift_v 0)) (lift_name 1 (by decide)) lift_yes (lift_op (rl_inP false) (lift_v 1) (lift_str _)) (fun _ _ _ _ _ z=>z)) lift_nil)))) (fun ds Q3 X _ hf=>by rw [is_name_def] at hf;exact hf)
set_option maxHeartbeats 8000000 in
theorem ok_is_value (T:Top w K mg) (base:Heap) (n:Nat):OkF P w K mg base (L2.CX P w) "is_value" "is_value" s_is_value [] [] [] (1+n) ["word","room"] (sp3 K 2 (is_value (csOf w K mg) n))∧OkF P w K mg base (L2.CX P w) "is_truth" "is_truth" s_is_truth [] [] [] (1+n) ["word","room"] (sp3 K 2 (is_truth (csOf w K mg) n))∧OkF P w K mg base (L2.CX P w) "parts_fit" "parts_fit" s_parts_fit [] [] [] (1+n) ["word","kinds","room"] (sp3 K 3 (parts_fit (csOf w K mg) n)):=by
 induction n with
 | zero=>exact ⟨by rw [is_value_zero];exact T.d_is_value.no _,by rw [is_truth_zero];exact T.d_is_truth.no _,by rw [parts_fit_zero];exact T.d_parts_fit.no _⟩
 | succ n ih=>
   obtain ⟨v_is_cell_1,h_is_cell_1,c_is_cell_1⟩:=((ok_is_cell T base (P:=P) (w:=w)).cl0 1 (by simp) rfl rfl (fun _ _ _ _ _ _ us ks h1 h2=>match us,ks,h1,h2 with | [_],[_],_,_=>⟨_,_,_,_,_,_,rfl,rfl,rfl⟩)).ex
   obtain ⟨v_parts_fit_3,h_parts_fit_3,c_parts_fit_3⟩:=(ih.2.2.cl (fun _ _ _ _ _ _ us hl=>match us,hl with | [_,_,_],_=>rfl)).ex
   obtain ⟨v_is_truth_2,h_is_truth_2,c_is_truth_2⟩:=(ih.2.1.cl (fun _ _ _ _ _ _ us hl=>match us,hl with | [_,_],_=>rfl)).ex
   obtain ⟨v_is_value_2,h_is_value_2,c_is_value_2⟩:=(ih.1.cl (fun _ _ _ _ _ _ us hl=>match us,hl with | [_,_],_=>rfl)).ex
   refine ⟨?_, ?_, ?_⟩
   · obtain ⟨f,fd,dvs,kvs,rd,rk,F,hm⟩:=T.d_is_value.ex
     refine ⟨f,fd,dvs,kvs,rd,rk,F,hm,F.ok sc_is_value (sp3_len rfl) (fun cdv A outer s H vs Q E hr h=> ?_)⟩
     replace hr:Room (1+n) _:=hr
     refine ⟨_,(pss_cons (ps_if (PW.pt (pw_or (pt_cmpR (op_ltP (K:=K) rfl hr.units) (pv 1) pe_int (nomark _)) (pw_or (pt_not (pt_val (pe_callB (call_isiK' (K:=K) rfl) (by rfl) T.zb_isinstance (by decide +kernel) (pa_cons (pv 0) (pa_cons (pe_bltn (v:=.ty "tuple") (by rfl) T.zb_tuple (by decide +kernel) rfl) pa_nil))))) (pw_or (pt_cmpR (op_ltP (K:=K) rfl hr.units) (pe_callB (call_lenK (K:=K) rfl) (by rfl) T.zb_len (by decide +kernel) (pa_cons (pv 0) pa_nil)) pe_int (nomark _)) (pw_or1 (pt_not (pt_val (pe_callB (call_isiK' (K:=K) rfl) (by rfl) T.zb_isinstance (by decide +kernel) (pa_cons (pe_ix (ix_P (K:=K) rfl) (pv 0) pe_int (fun _ _=>rfl)) (pa_cons (pe_bltn (v:=.ty "str") (by rfl) T.zb_str (by decide +kernel) rfl) pa_nil)))))))))) (pss_one (ps_ret pe_bl)) pss_nil)
     (pss_cons (ps_if (pt_cmpR (op_eqP (K:=K) rfl hr.units) (pe_ix (ix_P (K:=K) rfl) (pv 0) pe_int (fun _ _=>rfl)) pe_str (nomark _)) (pss_one (ps_ret (pe_and (pe_cmpR (op_eqP (K:=K) rfl hr.units) (pe_callB (call_lenK (K:=K) rfl) (by rfl) T.zb_len (by decide +kernel) (pa_cons (pv 0) pa_nil)) pe_int (nomark _)) (pe_one (pe_cl c_is_cell_1 (hr.mono (by omega)) (by rfl) (passes_call (takes_of rfl rfl rfl rfl) (fun _ _ _ _ z=>z)) (pa_cons (pe_ix (ix_P (K:=K) rfl) (pv 0) pe_int (fun _ _=>rfl)) pa_nil)))))) pss_nil)
     (pss_cons (ps_if (pt_cmpR (op_inP (K:=K) rfl) (pe_ix (ix_P (K:=K) rfl) (pv 0) pe_int (fun _ _=>rfl)) (M3.pe_tup (pa_cons pe_str (pa_cons pe_str pa_nil))) (by rfl)) (pss_one (ps_ret (pe_and (pe_cmpR (op_eqP (K:=K) rfl hr.units) (pe_callB (call_lenK (K:=K) rfl) (by rfl) T.zb_len (by decide +kernel) (pa_cons (pv 0) pa_nil)) pe_int (nomark _)) (pe_one (pe_callB (call_isiK' (K:=K) rfl) (by rfl) T.zb_isinstance (by decide +kernel) (pa_cons (pe_ix (ix_P (K:=K) rfl) (pv 0) pe_int (fun _ _=>rfl)) (pa_cons (pe_bltn (v:=.ty "str") (by rfl) T.zb_str (by decide +kernel) rfl) pa_nil))))))) pss_nil)
     (pss_one (ps_ret (pe_and (pe_cmpR (op_inKd (K:=K) rfl rfl T.kd_VALUE_PARTS) (pe_ix (ix_P (K:=K) rfl) (pv 0) pe_int (fun _ _=>rfl)) (pe_glob (v:=.ref _) (by rfl) T.kg_VALUE_PARTS rfl) (by rfl)) (pe_one (pe_cl c_parts_fit_3 (hr.mono (by omega)) (by rfl) (passes_call (takes_of rfl rfl rfl rfl) (fun _ _ _ _ z=>z)) (pa_cons (pv 0) (pa_cons (pe_ix (ix_kd (K:=K) rfl rfl T.kd_VALUE_PARTS) (pe_glob (v:=.ref _) (by rfl) T.kg_VALUE_PARTS rfl) (pe_ix (ix_P (K:=K) rfl) (pv 0) pe_int (fun _ _=>rfl)) (fun _ _=>rfl)) (pa_cons (pv 1) pa_nil))))))))))), ?_⟩
     exact body3 (x:=is_valueB (csOf w K mg) (is_value (csOf w K mg) n) (is_truth (csOf w K mg) n) (parts_fit (csOf w K mg) n)) (W:=fun cls dd _ H=>E cls dd H) h (fun _ _ _ _ z=>z) (lift_seq (lift_ifs (lift_or (lift_tst (lift_op rl_ltP (lift_v 1) (lift_int _))) (lift_or (lift_not (lift_tB (lift_cb rl_isi (lift_cons (lift_v 0) (lift_cons (lift_ty _) lift_nil))))) (lift_or (lift_tst (lift_op rl_ltP (lift_cb rl_len (lift_cons (lift_v 0) lift_nil)) (lift_int _))) (lift_not (lift_tB (lift_cb rl_isi (lift_cons (lift_op rl_ixP (lift_v 0) (lift_int _)) (lift_cons (lift_ty _) lift_nil)))))))) (lift_ret (lift_bl _)) lift_next)
     (lift_seq (lift_ifs (lift_tst (lift_op rl_eqP (lift_op rl_ixP (lift_v 0) (lift_int _)) (lift_str _))) (lift_ret (lift_andV (lift_op rl_eqP (lift_cb rl_len (lift_cons (lift_v 0) lift_nil)) (lift_int _)) (lift_call (fun _ _ _ _ z=>z) (lift_cons (lift_op rl_ixP (lift_v 0) (lift_int _)) lift_nil) h_is_cell_1))) lift_next)
     (lift_seq (lift_ifs (lift_tst (lift_op (rl_inP false) (lift_op rl_ixP (lift_v 0) (lift_int _)) (lift_tup (lift_cons (lift_str _) (lift_cons (lift_str _) lift_nil))))) (lift_ret (lift_andV (lift_op rl_eqP (lift_cb rl_len (lift_cons (lift_v 0) lift_nil)) (lift_int _)) (lift_cb rl_isi (lift_cons (lift_op rl_ixP (lift_v 0) (lift_int _)) (lift_cons (lift_ty _) lift_nil))))) lift_next)
     (lift_ret (lift_andV (lift_inK (lift_op rl_ixP (lift_v 0) (lift_int _))) (lift_call (fun _ _ _ _ z=>z) (lift_cons (lift_v 0) (lift_cons (lift_getK (lift_op rl_ixP (lift_v 0) (lift_int _))) (lift_cons (lift_v 1) lift_nil))) h_parts_fit_3)))))) (fun ds Q3 X _ hf=>by rw [is_value_succ] at hf;exact hf)
   · obtain ⟨f,fd,dvs,kvs,rd,rk,F,hm⟩:=T.d_is_truth.ex
     refine ⟨f,fd,dvs,kvs,rd,rk,F,hm,F.ok sc_is_truth (sp3_len rfl) (fun cdv A outer s H vs Q E hr h=> ?_)⟩
     replace hr:Room (1+n) _:=hr
     refine ⟨_,(pss_cons (ps_if (PW.pt (pw_or (pt_cmpR (op_ltP (K:=K) rfl hr.units) (pv 1) pe_int (nomark _)) (pw_or (pt_not (pt_val (pe_callB (call_isiK' (K:=K) rfl) (by rfl) T.zb_isinstance (by decide +kernel) (pa_cons (pv 0) (pa_cons (pe_bltn (v:=.ty "tuple") (by rfl) T.zb_tuple (by decide +kernel) rfl) pa_nil))))) (pw_or (pt_cmpR (op_ltP (K:=K) rfl hr.units) (pe_callB (call_lenK (K:=K) rfl) (by rfl) T.zb_len (by decide +kernel) (pa_cons (pv 0) pa_nil)) pe_int (nomark _)) (pw_or1 (pt_not (pt_val (pe_callB (call_isiK' (K:=K) rfl) (by rfl) T.zb_isinstance (by decide +kernel) (pa_cons (pe_ix (ix_P (K:=K) rfl) (pv 0) pe_int (fun _ _=>rfl)) (pa_cons (pe_bltn (v:=.ty "str") (by rfl) T.zb_str (by decide +kernel) rfl) pa_nil)))))))))) (pss_one (ps_ret pe_bl)) pss_nil)
     (pss_one (ps_ret (pe_and (pe_cmpR (op_inKd (K:=K) rfl rfl T.kd_TRUTH_PARTS) (pe_ix (ix_P (K:=K) rfl) (pv 0) pe_int (fun _ _=>rfl)) (pe_glob (v:=.ref _) (by rfl) T.kg_TRUTH_PARTS rfl) (by rfl)) (pe_one (pe_cl c_parts_fit_3 (hr.mono (by omega)) (by rfl) (passes_call (takes_of rfl rfl rfl rfl) (fun _ _ _ _ z=>z)) (pa_cons (pv 0) (pa_cons (pe_ix (ix_kd (K:=K) rfl rfl T.kd_TRUTH_PARTS) (pe_glob (v:=.ref _) (by rfl) T.kg_TRUTH_PARTS rfl) (pe_ix (ix_P (K:=K) rfl) (pv 0) pe_int (fun _ _=>rfl)) (fun _ _=>rfl)) (pa_cons (pv 1) pa_nil))))))))), ?_⟩
     exact body3 (x:=is_truthB (csOf w K mg) (is_value (csOf w K mg) n) (is_truth (csOf w K mg) n) (parts_fit (csOf w K mg) n)) (W:=fun cls dd _ H=>E cls dd H) h (fun _ _ _ _ z=>z) (lift_seq (lift_ifs (lift_or (lift_tst (lift_op rl_ltP (lift_v 1) (lift_int _))) (lift_or (lift_not (lift_tB (lift_cb rl_isi (lift_cons (lift_v 0) (lift_cons (lift_ty _) lift_nil))))) (lift_or (lift_tst (lift_op rl_ltP (lift_cb rl_len (lift_cons (lift_v 0) lift_nil)) (lift_int _))) (lift_not (lift_tB (lift_cb rl_isi (lift_cons (lift_op rl_ixP (lift_v 0) (lift_int _)) (lift_cons (lift_ty _) lift_nil)))))))) (lift_ret (lift_bl _)) lift_next)
     (lift_ret (lift_andV (lift_inK (lift_op rl_ixP (lift_v 0) (lift_int _))) (lift_call (fun _ _ _ _ z=>z) (lift_cons (lift_v 0) (lift_cons (lift_getK (lift_op rl_ixP (lift_v 0) (lift_int _))) (lift_cons (lift_v 1) lift_nil))) h_parts_fit_3)))) (fun ds Q3 X _ hf=>by rw [is_truth_succ] at hf;exact hf)
   · obtain ⟨f,fd,dvs,kvs,rd,rk,F,hm⟩:=T.d_parts_fit.ex
     refine ⟨f,fd,dvs,kvs,rd,rk,F,hm,F.ok sc_parts_fit (sp3_len rfl) (fun cdv A outer s H vs Q E hr h=> ?_)⟩
     replace hr:Room (1+n) _:=hr
     refine ⟨_,(pss_cons (ps_asg (pv 0) (pg_star (K:=K) rfl rfl (pgs_cons (pg_name (i:=3) sc_parts_fit.nd rfl (Or.inl rfl)) (pgs_star (pg_name (i:=4) sc_parts_fit.nd rfl (Or.inl rfl)) pgs_nil))))
     (pss_cons (ps_if (pt_cmpR (op_neP (K:=K) rfl hr.units) (pe_callB (call_lenK (K:=K) rfl) (by rfl) T.zb_len (by decide +kernel) (pa_cons (pv 4) pa_nil)) (pe_callB (call_lenK (K:=K) rfl) (by rfl) T.zb_len (by decide +kernel) (pa_cons (pv 1) pa_nil)) (nomark _)) (pss_one (ps_ret pe_bl)) pss_nil)
     (pss_cons (ps_for (passes_of rfl) (by rfl) (pi_zipG (K:=K) rfl (by rfl) T.zb_zip (pa_cons (pv 4) (pa_cons (pv 1) pa_nil))) (pg_tupK (K:=K) rfl rfl (pgs_cons (pg_name (i:=5) sc_parts_fit.nd rfl (Or.inl rfl)) (pgs_cons (pg_name (i:=6) sc_parts_fit.nd rfl (Or.inl rfl)) pgs_nil)))
     (pss_cons (ps_set (i:=7) sc_parts_fit.nd rfl (Or.inl rfl) (pe_ifExp (pt_cmpR (op_eqP (K:=K) rfl hr.units) (pv 6) pe_str (nomark _)) (pe_cl c_is_value_2 (hr.mono (by omega)) (by rfl) (passes_call (takes_of rfl rfl rfl rfl) (fun _ _ _ _ z=>z)) (pa_cons (pv 5) (pa_cons (pe_op op_sub (pv 2) pe_int) pa_nil))) (pe_cl c_is_truth_2 (hr.mono (by omega)) (by rfl) (passes_call (takes_of rfl rfl rfl rfl) (fun _ _ _ _ z=>z)) (pa_cons (pv 5) (pa_cons (pe_op op_sub (pv 2) pe_int) pa_nil)))))
     (pss_one (ps_if (pt_not (pt_truthK (K:=K) rfl (pv 7) (by intro _;rfl))) (pss_one (ps_ret pe_bl)) pss_nil))))
     (pss_one (ps_ret pe_bl))))), ?_⟩
     exact body3 (x:=parts_fitB (csOf w K mg) (is_value (csOf w K mg) n) (is_truth (csOf w K mg) n) (parts_fit (csOf w K mg) n)) (W:=fun cls dd _ H=>E cls dd H) h (fun _ _ _ _ z=>z) (lift_seq (lift_asgStar (ws:=[3,4]) (lift_v 0) (lift_gcons (lift_name 3 (by decide)) (lift_gcons (lift_name 4 (by decide)) lift_gnil)))
     (lift_seq (lift_ifs (lift_tst (lift_op rl_neP (lift_cb rl_len (lift_cons (lift_v 4) lift_nil)) (lift_cb rl_len (lift_cons (lift_v 1) lift_nil)))) (lift_ret (lift_bl _)) lift_next)
     (lift_seq (lift_for (vs:=[5,6]) (lift_iZG (lift_cons (lift_v 4) (lift_cons (lift_v 1) lift_nil))) (lift_gtup (lift_gcons (lift_name 5 (by decide)) (lift_gcons (lift_name 6 (by decide)) lift_gnil)))
     (lift_seq (lift_asg (lift_if (lift_tst (lift_op rl_eqP (lift_v 6) (lift_str _))) (lift_call (fun _ _ _ _ z=>z) (lift_cons (lift_v 5) (lift_cons (lift_op rl_sub (lift_v 2) (lift_int _)) lift_nil)) h_is_value_2) (lift_call (fun _ _ _ _ z=>z) (lift_cons (lift_v 5) (lift_cons (lift_op rl_sub (lift_v 2) (lift_int _)) lift_nil)) h_is_truth_2)) (lift_name (vs:=[7]) 7 (by decide)))
     (lift_ifs (lift_not (lift_truth (lift_v 7))) (lift_ret (lift_bl _)) lift_next)))
     (lift_ret (lift_bl _))))) (fun ds Q3 X _ hf=>by rw [parts_fit_succ] at hf;exact hf)
theorem ok_read_cell (T:Top w K mg) (base:Heap):OkF P w K mg base (L2.CX P w) "read_cell" "read_cell" s_read_cell [] [] [] 3 ["text"] (sp3 K 1 (read_cell (csOf w K mg))):=by
 obtain ⟨w_BadText_K,h_BadText_K,c_BadText_K⟩:=((ok_BadText_in T base (P:=P) (w:=w)).kwD (by simp) [] [0] (fun _ _ _ _ _ _ _ us its ws h1 h2 h3=>match us,its,ws,h1,h2,h3 with | [_],[_],[],_,_,_=>⟨_,rfl,rfl⟩)).ex
 obtain ⟨u_LONGEST,w_LONGEST,zg_LONGEST,zr_LONGEST,zt_LONGEST⟩:=T.zc_LONGEST
 obtain ⟨u_MOST,w_MOST,zg_MOST,zr_MOST,zt_MOST⟩:=T.zc_MOST
 obtain ⟨f,fd,dvs,kvs,rd,rk,F,hm⟩:=T.d_read_cell.ex
 refine ⟨f,fd,dvs,kvs,rd,rk,F,hm,F.ok sc_read_cell (sp3_len rfl) (fun cdv A outer s H vs Q E hr h=> ?_)⟩
 refine ⟨_,(pss_cons (ps_if (pt_cmpR (op_eqP (K:=K) rfl hr.units) (pv 0) pe_str (nomark _)) (pss_one (ps_ret pe_non)) pss_nil)
  (pss_cons (ps_set (i:=1) sc_read_cell.nd rfl (Or.inl rfl) (pe_ifExp (pt_cmpR (op_eqP (K:=K) rfl hr.units) (pe_slice (sl_P (K:=K) rfl) (pv 0) po_none (po_some pe_int)) pe_str (nomark _)) (pe_slice (sl_P (K:=K) rfl) (pv 0) (po_some pe_int) po_none) (pv 0)))
  (pss_cons (ps_if (PW.pt (pw_or (pt_not (pt_chain (op_leP (K:=K) rfl hr.units) (op_leP (K:=K) rfl hr.units) pe_int (pe_callB (call_lenK (K:=K) rfl) (by rfl) T.zb_len (by decide +kernel) (pa_cons (pv 1) pa_nil)) (pe_glob (by rfl) zg_LONGEST zr_LONGEST))) (pw_or1 (pt_not (pt_val (pe_callB (cr_allK (K:=K) rfl rfl) (by rfl) T.zb_all (by decide +kernel) (pa_cons (pe_lc (own:=[("sign",3)]) (g:=(gName 3)) (by rfl) sc_read_cell.nd (pi_P (K:=K) rfl (pv 1)) (blkOk_by (own:=[("sign",3)]) (N:=N_read_cell) (sc:=defScope s_read_cell) (by decide +kernel)) (fun _ _ _ _ _=>(pg_name (i:=3) sc_read_cell.nd rfl (Or.inl rfl) (Or.inr rfl))) (fun _ _ _ _ _=>pts_nil) (fun _ _ _ _ _=>(pe_cmpR (op_inP (K:=K) rfl) (pv 3) pe_str (by rfl)))) pa_nil))))))) (pss_one (ps_raise rfl (takes_of rfl rfl rfl rfl) (pmk_hK c_BadText_K T.yk_BadText rfl rfl rfl rfl rfl (hr.mono (by omega)) (by rfl) pk_nil))) pss_nil)
  (pss_cons (ps_if (PW.pt (pw_and (pt_cmpR (op_eqP (K:=K) rfl hr.units) (pe_ix (ix_P (K:=K) rfl) (pv 1) pe_int (fun _ _=>rfl)) pe_str (nomark _)) (pw_and1 (pt_cmpR (op_neP (K:=K) rfl hr.units) (pv 0) pe_str (nomark _))))) (pss_one (ps_raise rfl (takes_of rfl rfl rfl rfl) (pmk_hK c_BadText_K T.yk_BadText rfl rfl rfl rfl rfl (hr.mono (by omega)) (by rfl) pk_nil))) pss_nil)
  (pss_cons (ps_set (i:=2) sc_read_cell.nd rfl (Or.inl rfl) (pe_callTy call_int_str (by rfl) T.zb_int (by decide +kernel) (pa_cons (pv 0) pa_nil)))
  (pss_cons (ps_if (pt_not (pt_chain (op_leP (K:=K) rfl hr.units) (op_leP (K:=K) rfl hr.units) (pe_un un_neg (pe_glob (by rfl) zg_MOST zr_MOST)) (pv 2) (pe_glob (by rfl) zg_MOST zr_MOST))) (pss_one (ps_raise rfl (takes_of rfl rfl rfl rfl) (pmk_hK c_BadText_K T.yk_BadText rfl rfl rfl rfl rfl (hr.mono (by omega)) (by rfl) pk_nil))) pss_nil)
  (pss_one (ps_ret (pv 2))))))))), ?_⟩
 exact body3 (x:=read_cellB (csOf w K mg)) (W:=fun cls dd _ H=>E cls dd H) h (fun _ _ _ _ z=>z) (lift_seq (lift_ifs (lift_tst (lift_op rl_eqP (lift_v 0) (lift_str _))) (lift_ret lift_non) lift_next)
  (lift_seq (lift_asg (lift_if (lift_tst (lift_op rl_eqP (lift_sl rl_slP (lift_v 0) lift_po0 (lift_po (lift_int _))) (lift_str _))) (lift_sl rl_slP (lift_v 0) (lift_po (lift_int _)) lift_po0) (lift_v 0)) (lift_name (vs:=[1]) 1 (by decide)))
  (lift_seq (lift_ifs (lift_or (lift_not (lift_tst (lift_chain rl_leP rl_leP (lift_int _) (lift_cb rl_len (lift_cons (lift_v 1) lift_nil)) (lift_k zt_LONGEST)))) (lift_not (lift_tB (lift_cb rl_all (lift_cons (lift_lc (vs:=[3]) (lift_iP (lift_v 1)) (lift_name 3 (by decide)) lift_yes (lift_op (rl_inP false) (lift_v 3) (lift_str _)) (fun _ _ _ _ _ z=>z)) lift_nil))))) (lift_raiseD h_BadText_K lift_nil) lift_next)
  (lift_seq (lift_ifs (lift_and (lift_tst (lift_op rl_eqP (lift_op rl_ixP (lift_v 1) (lift_int _)) (lift_str _))) (lift_tst (lift_op rl_neP (lift_v 0) (lift_str _)))) (lift_raiseD h_BadText_K lift_nil) lift_next)
  (lift_seq (lift_asg (lift_cb rl_intS (lift_cons (lift_v 0) lift_nil)) (lift_name (vs:=[2]) 2 (by decide)))
  (lift_seq (lift_ifs (lift_not (lift_tst (lift_chain rl_leP rl_leP (lift_un rl_neg (lift_k zt_MOST)) (lift_v 2) (lift_k zt_MOST)))) (lift_raiseD h_BadText_K lift_nil) lift_next)
  (lift_ret (lift_v 2)))))))) (fun ds Q3 X _ hf=>by rw [read_cell_def] at hf;exact hf)
theorem ok_cut_parts (T:Top w K mg) (base:Heap):OkF P w K mg base (L2.CX P w) "cut_parts" "cut_parts" s_cut_parts [] [] [] 1 ["text"] (sp3 K 1 (cut_parts (csOf w K mg))):=by
 obtain ⟨f,fd,dvs,kvs,rd,rk,F,hm⟩:=T.d_cut_parts.ex
 refine ⟨f,fd,dvs,kvs,rd,rk,F,hm,F.ok sc_cut_parts (sp3_len rfl) (fun cdv A outer s H vs Q E hr h=> ?_)⟩
 refine ⟨_,(pss_cons (ps_set (i:=1) sc_cut_parts.nd rfl (Or.inl rfl) (pe_lst pa_nil))
  (pss_cons (ps_set (i:=2) sc_cut_parts.nd rfl (Or.inl rfl) pe_int)
  (pss_cons (ps_set (i:=3) sc_cut_parts.nd rfl (Or.inl rfl) pe_int)
  (pss_cons (ps_for (passes_of rfl) (by rfl) (pi_enumG (K:=K) rfl (by rfl) T.zb_enumerate (pa_cons (pv 0) pa_nil)) (pg_tupK (K:=K) rfl rfl (pgs_cons (pg_name (i:=4) sc_cut_parts.nd rfl (Or.inl rfl)) (pgs_cons (pg_name (i:=5) sc_cut_parts.nd rfl (Or.inl rfl)) pgs_nil)))
  (pss_cons (ps_if (pt_cmpR (op_eqP (K:=K) rfl hr.units) (pv 5) pe_str (nomark _)) (pss_one (ps_aug (i:=2) sc_cut_parts.nd rfl (Or.inl rfl) pe_int ip_add)) pss_nil)
  (pss_cons (ps_if (pt_cmpR (op_eqP (K:=K) rfl hr.units) (pv 5) pe_str (nomark _)) (pss_one (ps_aug (i:=2) sc_cut_parts.nd rfl (Or.inl rfl) pe_int ip_sub)) pss_nil)
  (pss_one (ps_if (PW.pt (pw_and (pt_cmpR (op_eqP (K:=K) rfl hr.units) (pv 5) pe_str (nomark _)) (pw_and1 (pt_cmpR (op_eqP (K:=K) rfl hr.units) (pv 2) pe_int (nomark _))))) (pss_cons (ps_expr (pe_bm PySem.F.plainAttrs_list PySem.F.slot_list_append PySem.F.type_list_append mt_append (pv 1) (pa_cons (pe_slice (sl_P (K:=K) rfl) (pv 0) (po_some (pv 3)) (po_some (pv 4))) pa_nil)))
  (pss_one (ps_set (i:=3) sc_cut_parts.nd rfl (Or.inl rfl) (pe_op (op_addP (K:=K) rfl) (pv 4) pe_int)))) pss_nil)))))
  (pss_cons (ps_expr (pe_bm PySem.F.plainAttrs_list PySem.F.slot_list_append PySem.F.type_list_append mt_append (pv 1) (pa_cons (pe_slice (sl_P (K:=K) rfl) (pv 0) (po_some (pv 3)) po_none) pa_nil)))
  (pss_one (ps_ret (pv 1)))))))), ?_⟩
 exact body3 (x:=cut_partsB (csOf w K mg)) (W:=fun cls dd _ H=>E cls dd H) h (fun _ _ _ _ z=>z) (lift_seq (lift_ownset (lift_frLst lift_nil))
  (lift_seq (lift_asg (lift_int _) (lift_name (vs:=[2]) 2 (by decide)))
  (lift_seq (lift_asg (lift_int _) (lift_name (vs:=[3]) 3 (by decide)))
  (lift_seq (lift_for (vs:=[4,5]) (lift_iEn (lift_cons (lift_v 0) lift_nil)) (lift_gtup (lift_gcons (lift_name 4 (by decide)) (lift_gcons (lift_name 5 (by decide)) lift_gnil)))
  (lift_seq (lift_ifs (lift_tst (lift_op rl_eqP (lift_v 5) (lift_str _))) (lift_augI (f:=(fun i j=>i+j)) (i:=2) (lift_int _)) lift_next)
  (lift_seq (lift_ifs (lift_tst (lift_op rl_eqP (lift_v 5) (lift_str _))) (lift_augI (f:=(fun i j=>i-j)) (i:=2) (lift_int _)) lift_next)
  (lift_ifs (lift_and (lift_tst (lift_op rl_eqP (lift_v 5) (lift_str _))) (lift_tst (lift_op rl_eqP (lift_v 2) (lift_int _)))) (lift_seq (lift_app (lift_sl rl_slP (lift_v 0) (lift_po (lift_v 3)) (lift_po (lift_v 4))))
  (lift_asg (lift_op rl_addP (lift_v 4) (lift_int _)) (lift_name (vs:=[3]) 3 (by decide)))) lift_next))))
  (lift_seq (lift_app (lift_sl rl_slP (lift_v 0) (lift_po (lift_v 3)) lift_po0))
  (lift_frz (i:=1) (lift_ret (lift_v 1)))))))) (fun ds Q3 X _ hf=>by rw [cut_parts_def] at hf;exact hf)
set_option maxHeartbeats 8000000 in
theorem ok_read_word (T:Top w K mg) (base:Heap) (n:Nat):OkF P w K mg base (L2.CX P w) "read_word" "read_word" s_read_word [] [] [] (3+n) ["text","room"] (sp3 K 2 (read_word (csOf w K mg) n)):=by
 induction n with
 | zero=>exact by rw [read_word_zero];exact T.d_read_word.no _
 | succ n ih=>
   obtain ⟨v_cut_parts_1,h_cut_parts_1,c_cut_parts_1⟩:=((ok_cut_parts T base (P:=P) (w:=w)).cl (fun _ _ _ _ _ _ us hl=>match us,hl with | [_],_=>rfl)).ex
   obtain ⟨v_is_name_1,h_is_name_1,c_is_name_1⟩:=((ok_is_name T base (P:=P) (w:=w)).cl (fun _ _ _ _ _ _ us hl=>match us,hl with | [_],_=>rfl)).ex
   obtain ⟨v_read_cell_1,h_read_cell_1,c_read_cell_1⟩:=((ok_read_cell T base (P:=P) (w:=w)).cl (fun _ _ _ _ _ _ us hl=>match us,hl with | [_],_=>rfl)).ex
   obtain ⟨v_read_word_2,h_read_word_2,c_read_word_2⟩:=(ih.cl (fun _ _ _ _ _ _ us hl=>match us,hl with | [_,_],_=>rfl)).ex
   obtain ⟨w_BadText_K,h_BadText_K,c_BadText_K⟩:=((ok_BadText_in T base (P:=P) (w:=w)).kwD (by simp) [] [0] (fun _ _ _ _ _ _ _ us its ws h1 h2 h3=>match us,its,ws,h1,h2,h3 with | [_],[_],[],_,_,_=>⟨_,rfl,rfl⟩)).ex
   obtain ⟨f,fd,dvs,kvs,rd,rk,F,hm⟩:=T.d_read_word.ex
   refine ⟨f,fd,dvs,kvs,rd,rk,F,hm,F.ok sc_read_word (sp3_len rfl) (fun cdv A outer s H vs Q E hr h=> ?_)⟩
   replace hr:Room (3+n) _:=hr
   refine ⟨_,(pss_cons (ps_if (pt_cmpR (op_ltP (K:=K) rfl hr.units) (pv 1) pe_int (nomark _)) (pss_one (ps_raise rfl (takes_of rfl rfl rfl rfl) (pmk_hK c_BadText_K T.yk_BadText rfl rfl rfl rfl rfl (hr.mono (by omega)) (by rfl) pk_nil))) pss_nil)
    (pss_cons (ps_if (pt_cmpR (op_eqP (K:=K) rfl hr.units) (pv 0) pe_str (nomark _)) (pss_one (ps_ret (M3.pe_tup (pa_cons pe_str pa_nil)))) pss_nil)
    (pss_cons (ps_asg (pe_part (pv 0) pe_str) (pg_tupK (K:=K) rfl rfl (pgs_cons (pg_name (i:=2) sc_read_word.nd rfl (Or.inl rfl)) (pgs_cons (pg_name (i:=3) sc_read_word.nd rfl (Or.inl rfl)) (pgs_cons (pg_name (i:=4) sc_read_word.nd rfl (Or.inl rfl)) pgs_nil)))))
    (pss_cons (ps_if (PW.pt (pw_and (pt_cmpR (op_eqP (K:=K) rfl hr.units) (pv 3) pe_str (nomark _)) (pw_and1 (pt_cmpR (op_inP (K:=K) rfl) (pv 2) (M3.pe_tup (pa_cons pe_str (pa_cons pe_str pa_nil))) (by rfl))))) (pss_cons (ps_if (pt_not (pt_val (pe_cl c_is_name_1 (hr.mono (by omega)) (by rfl) (passes_call (takes_of rfl rfl rfl rfl) (fun _ _ _ _ z=>z)) (pa_cons (pv 4) pa_nil)))) (pss_one (ps_raise rfl (takes_of rfl rfl rfl rfl) (pmk_hK c_BadText_K T.yk_BadText rfl rfl rfl rfl rfl (hr.mono (by omega)) (by rfl) pk_nil))) pss_nil)
    (pss_one (ps_ret (M3.pe_tup (pa_cons (pv 2) (pa_cons (pv 4) pa_nil)))))) pss_nil)
    (pss_cons (ps_asg (pe_part (pv 0) pe_str) (pg_tupK (K:=K) rfl rfl (pgs_cons (pg_name (i:=5) sc_read_word.nd rfl (Or.inl rfl)) (pgs_cons (pg_name (i:=6) sc_read_word.nd rfl (Or.inl rfl)) (pgs_cons (pg_name (i:=7) sc_read_word.nd rfl (Or.inl rfl)) pgs_nil)))))
    (pss_cons (ps_if (pt_cmpR (op_neP (K:=K) rfl hr.units) (pv 6) pe_str (nomark _)) (pss_one (ps_ret (M3.pe_tup (pa_cons pe_str (pa_cons (pe_cl c_read_cell_1 (hr.mono (by omega)) (by rfl) (passes_call (takes_of rfl rfl rfl rfl) (fun _ _ _ _ z=>z)) (pa_cons (pv 0) pa_nil)) pa_nil))))) pss_nil)
    (pss_cons (ps_if (PW.pt (pw_or (PW.pt (pw_and (pt_cmpR (op_notInKd (K:=K) rfl rfl T.kd_VALUE_PARTS) (pv 5) (pe_glob (v:=.ref _) (by rfl) T.kg_VALUE_PARTS rfl) (by rfl)) (pw_and1 (pt_cmpR (op_notInKd (K:=K) rfl rfl T.kd_TRUTH_PARTS) (pv 5) (pe_glob (v:=.ref _) (by rfl) T.kg_TRUTH_PARTS rfl) (by rfl))))) (pw_or1 (pt_not (pt_val (pe_ends (pv 7) pe_str)))))) (pss_one (ps_raise rfl (takes_of rfl rfl rfl rfl) (pmk_hK c_BadText_K T.yk_BadText rfl rfl rfl rfl rfl (hr.mono (by omega)) (by rfl) pk_nil))) pss_nil)
    (pss_cons (ps_asg (pe_cl c_cut_parts_1 (hr.mono (by omega)) (by rfl) (passes_call (takes_of rfl rfl rfl rfl) (fun _ _ _ _ z=>z)) (pa_cons (pe_slice (sl_P (K:=K) rfl) (pv 7) po_none (po_some (pe_un un_neg pe_int))) pa_nil)) (pg_starL (K:=K) rfl rfl (pgs_cons (pg_name (i:=8) sc_read_word.nd rfl (Or.inl rfl)) (pgs_star (pg_name (i:=9) sc_read_word.nd rfl (Or.inl rfl)) pgs_nil))))
    (pss_cons (ps_if (pt_not (pt_val (pe_callB (cr_allK (K:=K) rfl rfl) (by rfl) T.zb_all (by decide +kernel) (pa_cons (pe_lc (own:=[("part",10)]) (g:=(gName 10)) (by rfl) sc_read_word.nd (pi_P (K:=K) rfl (pv 9)) (blkOk_by (own:=[("part",10)]) (N:=N_read_word) (sc:=defScope s_read_word) (by decide +kernel)) (fun _ _ _ _ _=>(pg_name (i:=10) sc_read_word.nd rfl (Or.inl rfl) (Or.inr rfl))) (fun _ _ _ _ _=>pts_nil) (fun _ _ _ _ _=>(pe_starts (pv 10) pe_str))) pa_nil)))) (pss_one (ps_raise rfl (takes_of rfl rfl rfl rfl) (pmk_hK c_BadText_K T.yk_BadText rfl rfl rfl rfl rfl (hr.mono (by omega)) (by rfl) pk_nil))) pss_nil)
    (pss_one (ps_ret (pe_op (op_addP (K:=K) rfl) (M3.pe_tup (pa_cons (pv 5) pa_nil)) (pe_callTy (call_tupleK (K:=K) rfl) (by rfl) T.zb_tuple (by decide +kernel) (pa_cons (pe_lcX (own:=[("part",10)]) (g:=(gName 10)) rfl rfl (takes_of rfl rfl rfl rfl) (fun _ _ _ _ z=>z) (by rfl) sc_read_word.nd (pi_P (K:=K) rfl (pe_op (op_addP (K:=K) rfl) (pe_lst (pa_cons (pv 8) pa_nil)) (pe_lc (own:=[("part",10)]) (g:=(gName 10)) (by rfl) sc_read_word.nd (pi_P (K:=K) rfl (pv 9)) (blkOk_by (own:=[("part",10)]) (N:=N_read_word) (sc:=defScope s_read_word) (by decide +kernel)) (fun _ _ _ _ _=>(pg_name (i:=10) sc_read_word.nd rfl (Or.inl rfl) (Or.inr rfl))) (fun _ _ _ _ _=>pts_nil) (fun _ _ _ _ _=>(pe_slice (sl_P (K:=K) rfl) (pv 10) (po_some pe_int) po_none))))) (blkOk_by (own:=[("part",10)]) (N:=N_read_word) (sc:=defScope s_read_word) (by decide +kernel)) (fun _ _ _ _ _=>(pg_name (i:=10) sc_read_word.nd rfl (Or.inl rfl) (Or.inr rfl))) (fun _ _ _ _ _=>pts_nil) (fun _ _ _ _ _ _ hp=>(pe_cl c_read_word_2 (hr.mono (by omega)) (by rfl) hp (pa_cons (pv 10) (pa_cons (pe_op op_sub (pv 1) pe_int) pa_nil))))) pa_nil)))))))))))))), ?_⟩
   exact body3 (x:=read_wordB (csOf w K mg) (read_word (csOf w K mg) n)) (W:=fun cls dd _ H=>E cls dd H) h (fun _ _ _ _ z=>z) (lift_seq (lift_ifs (lift_tst (lift_op rl_ltP (lift_v 1) (lift_int _))) (lift_raiseD h_BadText_K lift_nil) lift_next)
    (lift_seq (lift_ifs (lift_tst (lift_op rl_eqP (lift_v 0) (lift_str _))) (lift_ret (lift_tup (lift_cons (lift_str _) lift_nil))) lift_next)
    (lift_seq (lift_asg (vs:=[2,3,4]) (lift_m1 rl_part (lift_v 0) (lift_str _)) (lift_gtup (lift_gcons (lift_name 2 (by decide)) (lift_gcons (lift_name 3 (by decide)) (lift_gcons (lift_name 4 (by decide)) lift_gnil)))))
    (lift_seq (lift_ifs (lift_and (lift_tst (lift_op rl_eqP (lift_v 3) (lift_str _))) (lift_tst (lift_op (rl_inP false) (lift_v 2) (lift_tup (lift_cons (lift_str _) (lift_cons (lift_str _) lift_nil)))))) (lift_seq (lift_ifs (lift_not (lift_tB (lift_call (fun _ _ _ _ z=>z) (lift_cons (lift_v 4) lift_nil) h_is_name_1))) (lift_raiseD h_BadText_K lift_nil) lift_next)
    (lift_ret (lift_tup (lift_cons (lift_v 2) (lift_cons (lift_v 4) lift_nil))))) lift_next)
    (lift_seq (lift_asg (vs:=[5,6,7]) (lift_m1 rl_part (lift_v 0) (lift_str _)) (lift_gtup (lift_gcons (lift_name 5 (by decide)) (lift_gcons (lift_name 6 (by decide)) (lift_gcons (lift_name 7 (by decide)) lift_gnil)))))
    (lift_seq (lift_ifs (lift_tst (lift_op rl_neP (lift_v 6) (lift_str _))) (lift_ret (lift_tup (lift_cons (lift_str _) (lift_cons (lift_call (fun _ _ _ _ z=>z) (lift_cons (lift_v 0) lift_nil) h_read_cell_1) lift_nil)))) lift_next)
    (lift_seq (lift_ifs (lift_or (lift_and (lift_tst (lift_inK (lift_v 5))) (lift_tst (lift_inK (lift_v 5)))) (lift_not (lift_tB (lift_m1 rl_end (lift_v 7) (lift_str _))))) (lift_raiseD h_BadText_K lift_nil) lift_next)
    (lift_seq (lift_asgStarL (ws:=[8,9]) (lift_call (fun _ _ _ _ z=>z) (lift_cons (lift_sl rl_slP (lift_v 7) lift_po0 (lift_po (lift_un rl_neg (lift_int _)))) lift_nil) h_cut_parts_1) (lift_gcons (lift_name 8 (by decide)) (lift_gcons (lift_name 9 (by decide)) lift_gnil)))
    (lift_seq (lift_ifs (lift_not (lift_tB (lift_cb rl_all (lift_cons (lift_lc (vs:=[10]) (lift_iP (lift_v 9)) (lift_name 10 (by decide)) lift_yes (lift_m1 rl_start (lift_v 10) (lift_str _)) (fun _ _ _ _ _ z=>z)) lift_nil)))) (lift_raiseD h_BadText_K lift_nil) lift_next)
    (lift_ret (lift_op rl_addP (lift_tup (lift_cons (lift_v 5) lift_nil)) (lift_cb rl_tuple (lift_cons (lift_lc (vs:=[10]) (lift_iP (lift_op rl_addP (lift_lst (lift_cons (lift_v 8) lift_nil)) (lift_lc (vs:=[10]) (lift_iP (lift_v 9)) (lift_name 10 (by decide)) lift_yes (lift_sl rl_slP (lift_v 10) (lift_po (lift_int _)) lift_po0) (fun _ _ _ _ _ z=>z)))) (lift_name 10 (by decide)) lift_yes (lift_call (fun _ _ _ _ z=>z) (lift_cons (lift_v 10) (lift_cons (lift_op rl_sub (lift_v 1) (lift_int _)) lift_nil)) h_read_word_2) (fun _ _ _ _ _ z=>z)) lift_nil))))))))))))) (fun ds Q3 X _ hf=>by rw [read_word_succ] at hf;exact hf)
theorem ok_read_value (T:Top w K mg) (base:Heap):OkF P w K mg base (L2.CX P w) "read_value" "read_value" s_read_value [] [] [] 22 ["text"] (sp3 K 1 (read_value (csOf w K mg))):=by
 obtain ⟨v_is_value_2,h_is_value_2,c_is_value_2⟩:=((ok_is_value T base (P:=P) (w:=w) 20).1.cl (fun _ _ _ _ _ _ us hl=>match us,hl with | [_,_],_=>rfl)).ex
 obtain ⟨v_read_word_2,h_read_word_2,c_read_word_2⟩:=((ok_read_word T base (P:=P) (w:=w) 12).cl (fun _ _ _ _ _ _ us hl=>match us,hl with | [_,_],_=>rfl)).ex
 obtain ⟨w_BadText_K,h_BadText_K,c_BadText_K⟩:=((ok_BadText_in T base (P:=P) (w:=w)).kwD (by simp) [] [0] (fun _ _ _ _ _ _ _ us its ws h1 h2 h3=>match us,its,ws,h1,h2,h3 with | [_],[_],[],_,_,_=>⟨_,rfl,rfl⟩)).ex
 obtain ⟨u_MOST_DEEP,w_MOST_DEEP,zg_MOST_DEEP,zr_MOST_DEEP,zt_MOST_DEEP⟩:=T.zc_MOST_DEEP
 obtain ⟨f,fd,dvs,kvs,rd,rk,F,hm⟩:=T.d_read_value.ex
 refine ⟨f,fd,dvs,kvs,rd,rk,F,hm,F.ok sc_read_value (sp3_len rfl) (fun cdv A outer s H vs Q E hr h=> ?_)⟩
 refine ⟨_,(pss_cons (ps_set (i:=1) sc_read_value.nd rfl (Or.inl rfl) (pe_cl c_read_word_2 (hr.mono (by omega)) (by rfl) (passes_call (takes_of rfl rfl rfl rfl) (fun _ _ _ _ z=>z)) (pa_cons (pv 0) (pa_cons (pe_glob (by rfl) zg_MOST_DEEP zr_MOST_DEEP) pa_nil))))
  (pss_cons (ps_if (pt_not (pt_val (pe_cl c_is_value_2 (hr.mono (by omega)) (by rfl) (passes_call (takes_of rfl rfl rfl rfl) (fun _ _ _ _ z=>z)) (pa_cons (pv 1) (pa_cons (pe_glob (by rfl) zg_MOST_DEEP zr_MOST_DEEP) pa_nil))))) (pss_one (ps_raise rfl (takes_of rfl rfl rfl rfl) (pmk_hK c_BadText_K T.yk_BadText rfl rfl rfl rfl rfl (hr.mono (by omega)) (by rfl) pk_nil))) pss_nil)
  (pss_one (ps_ret (pv 1))))), ?_⟩
 exact body3 (x:=read_valueB (csOf w K mg)) (W:=fun cls dd _ H=>E cls dd H) h (fun _ _ _ _ z=>z) (lift_seq (lift_asg (lift_call (fun _ _ _ _ z=>z) (lift_cons (lift_v 0) (lift_cons (lift_k zt_MOST_DEEP) lift_nil)) h_read_word_2) (lift_name (vs:=[1]) 1 (by decide)))
  (lift_seq (lift_ifs (lift_not (lift_tB (lift_call (fun _ _ _ _ z=>z) (lift_cons (lift_v 1) (lift_cons (lift_k zt_MOST_DEEP) lift_nil)) h_is_value_2))) (lift_raiseD h_BadText_K lift_nil) lift_next)
  (lift_ret (lift_v 1)))) (fun ds Q3 X _ hf=>by rw [read_value_def] at hf;exact hf)
theorem ok_read_truth (T:Top w K mg) (base:Heap):OkF P w K mg base (L2.CX P w) "read_truth" "read_truth" s_read_truth [] [] [] 22 ["text"] (sp3 K 1 (read_truth (csOf w K mg))):=by
 obtain ⟨v_is_truth_2,h_is_truth_2,c_is_truth_2⟩:=((ok_is_value T base (P:=P) (w:=w) 20).2.1.cl (fun _ _ _ _ _ _ us hl=>match us,hl with | [_,_],_=>rfl)).ex
 obtain ⟨v_read_word_2,h_read_word_2,c_read_word_2⟩:=((ok_read_word T base (P:=P) (w:=w) 12).cl (fun _ _ _ _ _ _ us hl=>match us,hl with | [_,_],_=>rfl)).ex
 obtain ⟨w_BadText_K,h_BadText_K,c_BadText_K⟩:=((ok_BadText_in T base (P:=P) (w:=w)).kwD (by simp) [] [0] (fun _ _ _ _ _ _ _ us its ws h1 h2 h3=>match us,its,ws,h1,h2,h3 with | [_],[_],[],_,_,_=>⟨_,rfl,rfl⟩)).ex
 obtain ⟨u_MOST_DEEP,w_MOST_DEEP,zg_MOST_DEEP,zr_MOST_DEEP,zt_MOST_DEEP⟩:=T.zc_MOST_DEEP
 obtain ⟨f,fd,dvs,kvs,rd,rk,F,hm⟩:=T.d_read_truth.ex
 refine ⟨f,fd,dvs,kvs,rd,rk,F,hm,F.ok sc_read_truth (sp3_len rfl) (fun cdv A outer s H vs Q E hr h=> ?_)⟩
 refine ⟨_,(pss_cons (ps_set (i:=1) sc_read_truth.nd rfl (Or.inl rfl) (pe_cl c_read_word_2 (hr.mono (by omega)) (by rfl) (passes_call (takes_of rfl rfl rfl rfl) (fun _ _ _ _ z=>z)) (pa_cons (pv 0) (pa_cons (pe_glob (by rfl) zg_MOST_DEEP zr_MOST_DEEP) pa_nil))))
  (pss_cons (ps_if (pt_not (pt_val (pe_cl c_is_truth_2 (hr.mono (by omega)) (by rfl) (passes_call (takes_of rfl rfl rfl rfl) (fun _ _ _ _ z=>z)) (pa_cons (pv 1) (pa_cons (pe_glob (by rfl) zg_MOST_DEEP zr_MOST_DEEP) pa_nil))))) (pss_one (ps_raise rfl (takes_of rfl rfl rfl rfl) (pmk_hK c_BadText_K T.yk_BadText rfl rfl rfl rfl rfl (hr.mono (by omega)) (by rfl) pk_nil))) pss_nil)
  (pss_one (ps_ret (pv 1))))), ?_⟩
 exact body3 (x:=read_truthB (csOf w K mg)) (W:=fun cls dd _ H=>E cls dd H) h (fun _ _ _ _ z=>z) (lift_seq (lift_asg (lift_call (fun _ _ _ _ z=>z) (lift_cons (lift_v 0) (lift_cons (lift_k zt_MOST_DEEP) lift_nil)) h_read_word_2) (lift_name (vs:=[1]) 1 (by decide)))
  (lift_seq (lift_ifs (lift_not (lift_tB (lift_call (fun _ _ _ _ z=>z) (lift_cons (lift_v 1) (lift_cons (lift_k zt_MOST_DEEP) lift_nil)) h_is_truth_2))) (lift_raiseD h_BadText_K lift_nil) lift_next)
  (lift_ret (lift_v 1)))) (fun ds Q3 X _ hf=>by rw [read_truth_def] at hf;exact hf)
set_option maxHeartbeats 8000000 in
theorem ok_Lsame (T:Top w K mg) (base:Heap) (n:Nat):OkF P w K mg base (L2.CX P w) "_law_same" "_law_same" s_Lsame [] [] [] (0+n) ["_law_found","_law_due"] (sp3 K 2 (Lsame (csOf w K mg) n)):=by
 induction n with
 | zero=>exact by rw [Lsame_zero];exact T.d_Lsame.no _
 | succ n ih=>
   obtain ⟨v_Lsame_2,h_Lsame_2,c_Lsame_2⟩:=(ih.cl (fun _ _ _ _ _ _ us hl=>match us,hl with | [_,_],_=>rfl)).ex
   obtain ⟨f,fd,dvs,kvs,rd,rk,F,hm⟩:=T.d_Lsame.ex
   refine ⟨f,fd,dvs,kvs,rd,rk,F,hm,F.ok sc_Lsame (sp3_len rfl) (fun cdv A outer s H vs Q E hr h=> ?_)⟩
   replace hr:Room (0+n) _:=hr
   refine ⟨_,(pss_cons (ps_if (pt_cmpR op_isN (pv 1) pe_non (nomark _)) (pss_one (ps_ret (pe_cmpR op_isN (pv 0) pe_non (nomark _)))) pss_nil)
    (pss_cons (ps_if (pt_val (pe_callB (call_isiK' (K:=K) rfl) (by rfl) T.zb_isinstance (by decide +kernel) (pa_cons (pv 1) (pa_cons (pe_bltn (v:=.ty "bool") (by rfl) T.zb_bool (by decide +kernel) rfl) pa_nil)))) (pss_one (ps_ret (pe_and (pe_callB (call_isiK' (K:=K) rfl) (by rfl) T.zb_isinstance (by decide +kernel) (pa_cons (pv 0) (pa_cons (pe_bltn (v:=.ty "bool") (by rfl) T.zb_bool (by decide +kernel) rfl) pa_nil))) (pe_one (pe_cmpR (op_eqP (K:=K) rfl hr.units) (pv 0) (pv 1) (nomark _)))))) pss_nil)
    (pss_cons (ps_if (pt_val (pe_callB (call_isiK' (K:=K) rfl) (by rfl) T.zb_isinstance (by decide +kernel) (pa_cons (pv 1) (pa_cons (pe_bltn (v:=.ty "int") (by rfl) T.zb_int (by decide +kernel) rfl) pa_nil)))) (pss_one (ps_ret (pe_and (pe_callB (call_isiK' (K:=K) rfl) (by rfl) T.zb_isinstance (by decide +kernel) (pa_cons (pv 0) (pa_cons (pe_bltn (v:=.ty "int") (by rfl) T.zb_int (by decide +kernel) rfl) pa_nil))) (pe_and (pe_not (pe_callB (call_isiK' (K:=K) rfl) (by rfl) T.zb_isinstance (by decide +kernel) (pa_cons (pv 0) (pa_cons (pe_bltn (v:=.ty "bool") (by rfl) T.zb_bool (by decide +kernel) rfl) pa_nil)))) (pe_one (pe_cmpR (op_eqP (K:=K) rfl hr.units) (pv 0) (pv 1) (nomark _))))))) pss_nil)
    (pss_cons (ps_if (pt_val (pe_callB (call_isiK' (K:=K) rfl) (by rfl) T.zb_isinstance (by decide +kernel) (pa_cons (pv 1) (pa_cons (pe_bltn (v:=.ty "str") (by rfl) T.zb_str (by decide +kernel) rfl) pa_nil)))) (pss_one (ps_ret (pe_and (pe_callB (call_isiK' (K:=K) rfl) (by rfl) T.zb_isinstance (by decide +kernel) (pa_cons (pv 0) (pa_cons (pe_bltn (v:=.ty "str") (by rfl) T.zb_str (by decide +kernel) rfl) pa_nil))) (pe_one (pe_cmpR (op_eqP (K:=K) rfl hr.units) (pv 0) (pv 1) (nomark _)))))) pss_nil)
    (pss_cons (ps_if (pt_val (pe_callB (call_isiK' (K:=K) rfl) (by rfl) T.zb_isinstance (by decide +kernel) (pa_cons (pv 1) (pa_cons (pe_bltn (v:=.ty "list") (by rfl) T.zb_list (by decide +kernel) rfl) pa_nil)))) (pss_one (ps_if (PW.pt (pw_or (pt_not (pt_val (pe_callB (call_isiK' (K:=K) rfl) (by rfl) T.zb_isinstance (by decide +kernel) (pa_cons (pv 0) (pa_cons (pe_bltn (v:=.ty "list") (by rfl) T.zb_list (by decide +kernel) rfl) pa_nil))))) (pw_or1 (pt_cmpR (op_neP (K:=K) rfl hr.units) (pe_callB (call_lenK (K:=K) rfl) (by rfl) T.zb_len (by decide +kernel) (pa_cons (pv 0) pa_nil)) (pe_callB (call_lenK (K:=K) rfl) (by rfl) T.zb_len (by decide +kernel) (pa_cons (pv 1) pa_nil)) (nomark _))))) (pss_one (ps_ret pe_bl)) pss_nil)) (pss_one (ps_if (PW.pt (pw_or (pt_not (pt_val (pe_callB (call_isiK' (K:=K) rfl) (by rfl) T.zb_isinstance (by decide +kernel) (pa_cons (pv 0) (pa_cons (pe_bltn (v:=.ty "tuple") (by rfl) T.zb_tuple (by decide +kernel) rfl) pa_nil))))) (pw_or1 (pt_cmpR (op_neP (K:=K) rfl hr.units) (pe_callB (call_lenK (K:=K) rfl) (by rfl) T.zb_len (by decide +kernel) (pa_cons (pv 0) pa_nil)) (pe_callB (call_lenK (K:=K) rfl) (by rfl) T.zb_len (by decide +kernel) (pa_cons (pv 1) pa_nil)) (nomark _))))) (pss_one (ps_ret pe_bl)) pss_nil)))
    (pss_one (ps_ret (pe_callB (cr_allK (K:=K) rfl rfl) (by rfl) T.zb_all (by decide +kernel) (pa_cons (pe_lc (own:=[("_law_one",2),("_law_other",3)]) (g:=(gTup K 2 (gCons (gName 2) (gCons (gName 3) gNil)))) (by rfl) sc_Lsame.nd (pi_zipK (K:=K) rfl (by rfl) T.zb_zip (pa_cons (pv 0) (pa_cons (pv 1) pa_nil))) (blkOk_by (own:=[("_law_one",2),("_law_other",3)]) (N:=N_Lsame) (sc:=defScope s_Lsame) (by decide +kernel)) (fun _ _ _ _ _=>(pg_tupK (K:=K) rfl rfl (pgs_cons (pg_name (i:=2) sc_Lsame.nd rfl (Or.inl rfl) (Or.inr rfl)) (pgs_cons (pg_name (i:=3) sc_Lsame.nd rfl (Or.inl rfl) (Or.inr rfl)) pgs_nil)))) (fun _ _ _ _ _=>pts_nil) (fun _ _ _ _ _=>(pe_cl c_Lsame_2 (hr.mono (by omega)) (by rfl) passL (pa_cons (pv 2) (pa_cons (pv 3) pa_nil))))) pa_nil))))))))), ?_⟩
   exact body3 (x:=LsameB (csOf w K mg) (Lsame (csOf w K mg) n)) (W:=fun cls dd _ H=>E cls dd H) h (fun _ _ _ _ z=>z) (lift_seq (lift_ifs (lift_tst (lift_op rl_isN (lift_v 1) lift_non)) (lift_ret (lift_op rl_isN (lift_v 0) lift_non)) lift_next)
    (lift_seq (lift_ifs (lift_tB (lift_cb rl_isi (lift_cons (lift_v 1) (lift_cons (lift_ty _) lift_nil)))) (lift_ret (lift_andV (lift_cb rl_isi (lift_cons (lift_v 0) (lift_cons (lift_ty _) lift_nil))) (lift_op rl_eqP (lift_v 0) (lift_v 1)))) lift_next)
    (lift_seq (lift_ifs (lift_tB (lift_cb rl_isi (lift_cons (lift_v 1) (lift_cons (lift_ty _) lift_nil)))) (lift_ret (lift_andV (lift_cb rl_isi (lift_cons (lift_v 0) (lift_cons (lift_ty _) lift_nil))) (lift_andV (lift_notV (lift_cb rl_isi (lift_cons (lift_v 0) (lift_cons (lift_ty _) lift_nil)))) (lift_op rl_eqP (lift_v 0) (lift_v 1))))) lift_next)
    (lift_seq (lift_ifs (lift_tB (lift_cb rl_isi (lift_cons (lift_v 1) (lift_cons (lift_ty _) lift_nil)))) (lift_ret (lift_andV (lift_cb rl_isi (lift_cons (lift_v 0) (lift_cons (lift_ty _) lift_nil))) (lift_op rl_eqP (lift_v 0) (lift_v 1)))) lift_next)
    (lift_seq (lift_ifs (lift_tB (lift_cb rl_isi (lift_cons (lift_v 1) (lift_cons (lift_ty _) lift_nil)))) (lift_ifs (lift_or (lift_not (lift_tB (lift_cb rl_isi (lift_cons (lift_v 0) (lift_cons (lift_ty _) lift_nil))))) (lift_tst (lift_op rl_neP (lift_cb rl_len (lift_cons (lift_v 0) lift_nil)) (lift_cb rl_len (lift_cons (lift_v 1) lift_nil))))) (lift_ret (lift_bl _)) lift_next) (lift_ifs (lift_or (lift_not (lift_tB (lift_cb rl_isi (lift_cons (lift_v 0) (lift_cons (lift_ty _) lift_nil))))) (lift_tst (lift_op rl_neP (lift_cb rl_len (lift_cons (lift_v 0) lift_nil)) (lift_cb rl_len (lift_cons (lift_v 1) lift_nil))))) (lift_ret (lift_bl _)) lift_next))
    (lift_ret (lift_cb rl_all (lift_cons (lift_lc (vs:=[2,3]) (lift_iZ (lift_cons (lift_v 0) (lift_cons (lift_v 1) lift_nil))) (lift_gtup (lift_gcons (lift_name 2 (by decide)) (lift_gcons (lift_name 3 (by decide)) lift_gnil))) lift_yes (lift_call0 (lift_cons (lift_v 2) (lift_cons (lift_v 3) lift_nil)) h_Lsame_2) (fun _ _ _ _ _ z=>z)) lift_nil)))))))) (fun ds Q3 X _ hf=>by rw [Lsame_succ] at hf;exact hf)
theorem ok_Lnames (T:Top w K mg) (base:Heap):OkF P w K mg base (L2.CX P w) "_law_names" "_law_names" s_Lnames [] [] [] 2 ["_law_pot_here","_law_many"] (spP K 2 (Lnames (csOf w K mg))):=by
 have c_Ltake_2:=cl_take T base (P:=P) (w:=w)
 have h_Ltake_2:∀H,RepL K H [] []:=fun _=>.nil
 obtain ⟨f,fd,dvs,kvs,rd,rk,F,hm⟩:=T.d_Lnames.ex
 refine ⟨f,fd,dvs,kvs,rd,rk,F,hm,F.ok sc_Lnames (spP_len rfl) (fun cdv A outer s H vs Q E hr h=> ?_)⟩
 refine ⟨_,(pss_cons (ps_set (i:=2) sc_Lnames.nd rfl (Or.inr rfl) pe_str)
  (pss_cons (ps_set (i:=3) sc_Lnames.nd rfl (Or.inr rfl) (pe_ix (ix_P (K:=K) rfl) (pe_lst (pa_cons pe_str (pa_cons pe_str (pa_cons pe_str (pa_cons pe_str (pa_cons pe_str (pa_cons pe_str (pa_cons pe_str (pa_cons pe_str pa_nil))))))))) (pe_cl c_Ltake_2 (hr.mono (by omega)) (by rfl) pass0 (pa_cons (pv 0) (pa_cons pe_int pa_nil))) (fun _ _=>rfl)))
  (pss_cons (ps_set (i:=4) sc_Lnames.nd rfl (Or.inr rfl) (pe_cl c_Ltake_2 (hr.mono (by omega)) (by rfl) pass0 (pa_cons (pv 0) (pa_cons (pe_op (op_addP (K:=K) rfl) (pe_callB (call_lenK (K:=K) rfl) (by rfl) T.zb_len (by decide +kernel) (pa_cons (pv 3) pa_nil)) pe_int) pa_nil))))
  (pss_cons (ps_set (i:=5) sc_Lnames.nd rfl (Or.inr rfl) (pe_cl c_Ltake_2 (hr.mono (by omega)) (by rfl) pass0 (pa_cons (pv 0) (pa_cons pe_int pa_nil))))
  (pss_cons (ps_set (i:=6) sc_Lnames.nd rfl (Or.inr rfl) (pe_ix (ix_P (K:=K) rfl) (pe_lst (pa_cons pe_int (pa_cons pe_int (pa_cons pe_int (pa_cons pe_int (pa_cons pe_int (pa_cons pe_int pa_nil))))))) (pe_cl c_Ltake_2 (hr.mono (by omega)) (by rfl) pass0 (pa_cons (pv 0) (pa_cons pe_int pa_nil))) (fun _ _=>rfl)))
  (pss_one (ps_ret (pe_lc (own:=[("_law_k",7)]) (g:=(gName 7)) (by rfl) sc_Lnames.nd (pi_range1 (by rfl) T.zb_range (pa_cons (pv 1) pa_nil)) (blkOk_by (own:=[("_law_k",7)]) (N:=N_Lnames) (sc:=defScope s_Lnames) (by decide +kernel)) (fun _ _ _ _ _=>(pg_name (i:=7) sc_Lnames.nd rfl (Or.inl rfl) (Or.inr rfl))) (fun _ _ _ _ _=>pts_nil) (fun _ _ _ _ _=>(pe_op (op_addP (K:=K) rfl) (pe_op (op_addP (K:=K) rfl) (pe_slice (sl_P (K:=K) rfl) (pv 3) po_none (po_some (pv 4))) (pe_ix (ix_P (K:=K) rfl) (pv 2) (pe_op op_mod (pe_op (op_addP (K:=K) rfl) (pv 5) (pe_op op_mulP (pv 6) (pv 7))) pe_int) (fun _ _=>rfl))) (pe_slice (sl_P (K:=K) rfl) (pv 3) (po_some (pv 4)) po_none))))))))))), ?_⟩
 exact bodyP (x:=fun p=>LnamesB (csOf w K mg) p) (W:=fun cls dd _ H=>E cls dd H) h (fun _ _ _ _ z=>z) (fun p cc=>(lift_seq (lift_asg (lift_str _) (lift_name (vs:=[2]) 2 (by decide)))
  (lift_seq (lift_asg (lift_op rl_ixP (lift_lst (lift_cons (lift_str _) (lift_cons (lift_str _) (lift_cons (lift_str _) (lift_cons (lift_str _) (lift_cons (lift_str _) (lift_cons (lift_str _) (lift_cons (lift_str _) (lift_cons (lift_str _) lift_nil))))))))) (lift_callP0 (lift_cons (lift_v 0) (lift_cons (lift_int _) lift_nil)) h_Ltake_2)) (lift_name (vs:=[3]) 3 (by decide)))
  (lift_seq (lift_asg (lift_callP0 (lift_cons (lift_v 0) (lift_cons (lift_op rl_addP (lift_cb rl_len (lift_cons (lift_v 3) lift_nil)) (lift_int _)) lift_nil)) h_Ltake_2) (lift_name (vs:=[4]) 4 (by decide)))
  (lift_seq (lift_asg (lift_callP0 (lift_cons (lift_v 0) (lift_cons (lift_int _) lift_nil)) h_Ltake_2) (lift_name (vs:=[5]) 5 (by decide)))
  (lift_seq (lift_asg (lift_op rl_ixP (lift_lst (lift_cons (lift_int _) (lift_cons (lift_int _) (lift_cons (lift_int _) (lift_cons (lift_int _) (lift_cons (lift_int _) (lift_cons (lift_int _) lift_nil))))))) (lift_callP0 (lift_cons (lift_v 0) (lift_cons (lift_int _) lift_nil)) h_Ltake_2)) (lift_name (vs:=[6]) 6 (by decide)))
  (lift_ret (lift_lc (vs:=[7]) (lift_iR (lift_cons (lift_v 1) lift_nil)) (lift_name 7 (by decide)) lift_yes (lift_op rl_addP (lift_op rl_addP (lift_sl rl_slP (lift_v 3) lift_po0 (lift_po (lift_v 4))) (lift_op rl_ixP (lift_v 2) (lift_op rl_mod (lift_op rl_addP (lift_v 5) (lift_op rl_mulP (lift_v 6) (lift_v 7))) (lift_int _)))) (lift_sl rl_slP (lift_v 3) (lift_po (lift_v 4)) lift_po0)) (fun _ _ _ _ _ z=>z))))))))) (fun p ds Q3 X _ hf=>by rw [Lnames_def] at hf;exact hf)
theorem ok_Lcell (T:Top w K mg) (base:Heap):OkF P w K mg base (L2.CX P w) "_law_cell" "_law_cell" s_Lcell [] [] [] 2 ["_law_pot_here"] (spP K 1 (Lcell (csOf w K mg))):=by
 have c_Ltake_2:=cl_take T base (P:=P) (w:=w)
 have h_Ltake_2:∀H,RepL K H [] []:=fun _=>.nil
 obtain ⟨f,fd,dvs,kvs,rd,rk,F,hm⟩:=T.d_Lcell.ex
 refine ⟨f,fd,dvs,kvs,rd,rk,F,hm,F.ok sc_Lcell (spP_len rfl) (fun cdv A outer s H vs Q E hr h=> ?_)⟩
 refine ⟨_,(pss_cons (ps_set (i:=1) sc_Lcell.nd rfl (Or.inl rfl) (pe_cl c_Ltake_2 (hr.mono (by omega)) (by rfl) pass0 (pa_cons (pv 0) (pa_cons pe_int pa_nil))))
  (pss_cons (ps_if (pt_cmpR (op_ltP (K:=K) rfl hr.units) (pv 1) pe_int (nomark _)) (pss_one (ps_ret pe_non)) pss_nil)
  (pss_cons (ps_if (pt_cmpR (op_ltP (K:=K) rfl hr.units) (pv 1) pe_int (nomark _)) (pss_one (ps_ret (pe_ifExp (pt_cmpR (op_ltP (K:=K) rfl hr.units) (pv 1) pe_int (nomark _)) (pe_op op_sub (pe_cl c_Ltake_2 (hr.mono (by omega)) (by rfl) pass0 (pa_cons (pv 0) (pa_cons pe_int pa_nil))) pe_int) (pe_op op_sub (pe_cl c_Ltake_2 (hr.mono (by omega)) (by rfl) pass0 (pa_cons (pv 0) (pa_cons pe_int pa_nil))) pe_int)))) pss_nil)
  (pss_cons (ps_set (i:=2) sc_Lcell.nd rfl (Or.inl rfl) (pe_op op_sub (pe_op op_pow pe_int pe_int) pe_int))
  (pss_one (ps_ret (pe_ix (ix_P (K:=K) rfl) (pe_lst (pa_cons (pv 2) (pa_cons (pe_un un_neg (pv 2)) (pa_cons (pe_op (op_addP (K:=K) rfl) (pe_op op_pow pe_int pe_int) (pe_cl c_Ltake_2 (hr.mono (by omega)) (by rfl) pass0 (pa_cons (pv 0) (pa_cons (pe_op op_pow pe_int pe_int) pa_nil)))) (pa_cons (pe_cl c_Ltake_2 (hr.mono (by omega)) (by rfl) pass0 (pa_cons (pv 0) (pa_cons (pe_op (op_addP (K:=K) rfl) (pv 2) pe_int) pa_nil))) pa_nil))))) (pe_cl c_Ltake_2 (hr.mono (by omega)) (by rfl) pass0 (pa_cons (pv 0) (pa_cons pe_int pa_nil))) (fun _ _=>rfl)))))))), ?_⟩
 exact bodyP (x:=fun p=>LcellB (csOf w K mg) p) (W:=fun cls dd _ H=>E cls dd H) h (fun _ _ _ _ z=>z) (fun p cc=>(lift_seq (lift_asg (lift_callP0 (lift_cons (lift_v 0) (lift_cons (lift_int _) lift_nil)) h_Ltake_2) (lift_name (vs:=[1]) 1 (by decide)))
  (lift_seq (lift_ifs (lift_tst (lift_op rl_ltP (lift_v 1) (lift_int _))) (lift_ret lift_non) lift_next)
  (lift_seq (lift_ifs (lift_tst (lift_op rl_ltP (lift_v 1) (lift_int _))) (lift_ret (lift_if (lift_tst (lift_op rl_ltP (lift_v 1) (lift_int _))) (lift_op rl_sub (lift_callP0 (lift_cons (lift_v 0) (lift_cons (lift_int _) lift_nil)) h_Ltake_2) (lift_int _)) (lift_op rl_sub (lift_callP0 (lift_cons (lift_v 0) (lift_cons (lift_int _) lift_nil)) h_Ltake_2) (lift_int _)))) lift_next)
  (lift_seq (lift_asg (lift_op rl_sub (lift_op rl_pow (lift_int _) (lift_int _)) (lift_int _)) (lift_name (vs:=[2]) 2 (by decide)))
  (lift_ret (lift_op rl_ixP (lift_lst (lift_cons (lift_v 2) (lift_cons (lift_un rl_neg (lift_v 2)) (lift_cons (lift_op rl_addP (lift_op rl_pow (lift_int _) (lift_int _)) (lift_callP0 (lift_cons (lift_v 0) (lift_cons (lift_op rl_pow (lift_int _) (lift_int _)) lift_nil)) h_Ltake_2)) (lift_cons (lift_callP0 (lift_cons (lift_v 0) (lift_cons (lift_op rl_addP (lift_v 2) (lift_int _)) lift_nil)) h_Ltake_2) lift_nil))))) (lift_callP0 (lift_cons (lift_v 0) (lift_cons (lift_int _) lift_nil)) h_Ltake_2)))))))) (fun p ds Q3 X _ hf=>by rw [Lcell_def] at hf;exact hf)
set_option maxHeartbeats 8000000 in
theorem ok_Lvalue (T:Top w K mg) (base:Heap) (n:Nat):OkF P w K mg base (L2.CX P w) "_law_value" "_law_value" s_Lvalue [] [] [] (2+n) ["_law_pot_here","_law_room","_law_lefts","_law_rights"] (spP K 4 (Lvalue (csOf w K mg) n))∧OkF P w K mg base (L2.CX P w) "_law_truth" "_law_truth" s_Ltruth [] [] [] (2+n) ["_law_pot_here","_law_room","_law_lefts","_law_rights"] (spP K 4 (Ltruth (csOf w K mg) n)):=by
 induction n with
 | zero=>exact ⟨by rw [Lvalue_zero];exact T.d_Lvalue.noP _,by rw [Ltruth_zero];exact T.d_Ltruth.noP _⟩
 | succ n ih=>
   obtain ⟨v_Lcell_1,h_Lcell_1,c_Lcell_1⟩:=((ok_Lcell T base (P:=P) (w:=w)).cl (fun _ _ _ _ _ _ us hl=>match us,hl with | [_],_=>rfl)).ex
   have c_Ltake_2:=cl_take T base (P:=P) (w:=w)
   have h_Ltake_2:∀H,RepL K H [] []:=fun _=>.nil
   obtain ⟨v_Ltruth_4,h_Ltruth_4,c_Ltruth_4⟩:=(ih.2.cl (fun _ _ _ _ _ _ us hl=>match us,hl with | [_,_,_,_],_=>rfl)).ex
   obtain ⟨v_Lvalue_4,h_Lvalue_4,c_Lvalue_4⟩:=(ih.1.cl (fun _ _ _ _ _ _ us hl=>match us,hl with | [_,_,_,_],_=>rfl)).ex
   refine ⟨?_, ?_⟩
   · obtain ⟨f,fd,dvs,kvs,rd,rk,F,hm⟩:=T.d_Lvalue.ex
     refine ⟨f,fd,dvs,kvs,rd,rk,F,hm,F.ok sc_Lvalue (spP_len rfl) (fun cdv A outer s H vs Q E hr h=> ?_)⟩
     replace hr:Room (2+n) _:=hr
     refine ⟨_,(pss_cons (ps_set (i:=4) sc_Lvalue.nd rfl (Or.inl rfl) (pe_cl c_Ltake_2 (hr.mono (by omega)) (by rfl) pass0 (pa_cons (pv 0) (pa_cons pe_int pa_nil))))
     (pss_cons (ps_if (PW.pt (pw_or (pt_cmpR (op_ltP (K:=K) rfl hr.units) (pv 1) pe_int (nomark _)) (pw_or1 (pt_cmpR (op_ltP (K:=K) rfl hr.units) (pv 4) pe_int (nomark _))))) (pss_cons (ps_set (i:=5) sc_Lvalue.nd rfl (Or.inl rfl) (pe_op (op_addP (K:=K) rfl) (pe_lc (own:=[("_law_name",8)]) (g:=(gName 8)) (by rfl) sc_Lvalue.nd (pi_P (K:=K) rfl (pv 2)) (blkOk_by (own:=[("_law_name",8)]) (N:=N_Lvalue) (sc:=defScope s_Lvalue) (by decide +kernel)) (fun _ _ _ _ _=>(pg_name (i:=8) sc_Lvalue.nd rfl (Or.inl rfl) (Or.inr rfl))) (fun _ _ _ _ _=>pts_nil) (fun _ _ _ _ _=>(M3.pe_tup (pa_cons pe_str (pa_cons (pv 8) pa_nil))))) (pe_lc (own:=[("_law_name",8)]) (g:=(gName 8)) (by rfl) sc_Lvalue.nd (pi_P (K:=K) rfl (pv 3)) (blkOk_by (own:=[("_law_name",8)]) (N:=N_Lvalue) (sc:=defScope s_Lvalue) (by decide +kernel)) (fun _ _ _ _ _=>(pg_name (i:=8) sc_Lvalue.nd rfl (Or.inl rfl) (Or.inr rfl))) (fun _ _ _ _ _=>pts_nil) (fun _ _ _ _ _=>(M3.pe_tup (pa_cons pe_str (pa_cons (pv 8) pa_nil)))))))
     (pss_cons (ps_if (PW.pt (pw_or (pt_cmpR (op_eqP (K:=K) rfl hr.units) (pv 5) (pe_lst pa_nil) (nomark _)) (pw_or1 (pt_cmpR (op_eqP (K:=K) rfl hr.units) (pe_cl c_Ltake_2 (hr.mono (by omega)) (by rfl) pass0 (pa_cons (pv 0) (pa_cons pe_int pa_nil))) pe_int (nomark _))))) (pss_one (ps_ret (M3.pe_tup (pa_cons pe_str (pa_cons (pe_cl c_Lcell_1 (hr.mono (by omega)) (by rfl) (passes_call (takes_of rfl rfl rfl rfl) (fun _ _ _ _ z=>z)) (pa_cons (pv 0) pa_nil)) pa_nil))))) pss_nil)
     (pss_one (ps_ret (pe_ix (ix_P (K:=K) rfl) (pv 5) (pe_cl c_Ltake_2 (hr.mono (by omega)) (by rfl) pass0 (pa_cons (pv 0) (pa_cons (pe_callB (call_lenK (K:=K) rfl) (by rfl) T.zb_len (by decide +kernel) (pa_cons (pv 5) pa_nil)) pa_nil))) (fun _ _=>rfl)))))) pss_nil)
     (pss_cons (ps_if (pt_cmpR (op_eqP (K:=K) rfl hr.units) (pv 4) pe_int (nomark _)) (pss_cons (ps_set (i:=6) sc_Lvalue.nd rfl (Or.inl rfl) (pe_cl c_Ltruth_4 (hr.mono (by omega)) (by rfl) (passes_call (takes_of rfl rfl rfl rfl) (fun _ _ _ _ z=>z)) (pa_cons (pv 0) (pa_cons (pe_op op_sub (pv 1) pe_int) (pa_cons (pv 2) (pa_cons (pv 3) pa_nil))))))
     (pss_one (ps_ret (M3.pe_tup (pa_cons pe_str (pa_cons (pv 6) (pa_cons (pe_cl c_Lvalue_4 (hr.mono (by omega)) (by rfl) (passes_call (takes_of rfl rfl rfl rfl) (fun _ _ _ _ z=>z)) (pa_cons (pv 0) (pa_cons (pe_op op_sub (pv 1) pe_int) (pa_cons (pv 2) (pa_cons (pv 3) pa_nil))))) (pa_cons (pe_cl c_Lvalue_4 (hr.mono (by omega)) (by rfl) (passes_call (takes_of rfl rfl rfl rfl) (fun _ _ _ _ z=>z)) (pa_cons (pv 0) (pa_cons (pe_op op_sub (pv 1) pe_int) (pa_cons (pv 2) (pa_cons (pv 3) pa_nil))))) pa_nil)))))))) pss_nil)
     (pss_cons (ps_set (i:=7) sc_Lvalue.nd rfl (Or.inl rfl) (pe_ix (ix_P (K:=K) rfl) (pe_lst (pa_cons pe_str (pa_cons pe_str (pa_cons pe_str (pa_cons pe_str (pa_cons pe_str pa_nil)))))) (pe_op op_mod (pe_op (op_addP (K:=K) rfl) (pe_op op_sub (pv 4) pe_int) (pe_cl c_Ltake_2 (hr.mono (by omega)) (by rfl) pass0 (pa_cons (pv 0) (pa_cons pe_int pa_nil)))) pe_int) (fun _ _=>rfl)))
     (pss_one (ps_ret (M3.pe_tup (pa_cons (pv 7) (pa_cons (pe_cl c_Lvalue_4 (hr.mono (by omega)) (by rfl) (passes_call (takes_of rfl rfl rfl rfl) (fun _ _ _ _ z=>z)) (pa_cons (pv 0) (pa_cons (pe_op op_sub (pv 1) pe_int) (pa_cons (pv 2) (pa_cons (pv 3) pa_nil))))) (pa_cons (pe_cl c_Lvalue_4 (hr.mono (by omega)) (by rfl) (passes_call (takes_of rfl rfl rfl rfl) (fun _ _ _ _ z=>z)) (pa_cons (pv 0) (pa_cons (pe_op op_sub (pv 1) pe_int) (pa_cons (pv 2) (pa_cons (pv 3) pa_nil))))) pa_nil)))))))))), ?_⟩
     exact bodyP (x:=fun p=>LvalueB (csOf w K mg) p (Lvalue (csOf w K mg) n) (Ltruth (csOf w K mg) n)) (W:=fun cls dd _ H=>E cls dd H) h (fun _ _ _ _ z=>z) (fun p cc=>(lift_seq (lift_asg (lift_callP0 (lift_cons (lift_v 0) (lift_cons (lift_int _) lift_nil)) h_Ltake_2) (lift_name (vs:=[4]) 4 (by decide)))
     (lift_seq (lift_ifs (lift_or (lift_tst (lift_op rl_ltP (lift_v 1) (lift_int _))) (lift_tst (lift_op rl_ltP (lift_v 4) (lift_int _)))) (lift_seq (lift_asg (lift_op rl_addP (lift_lc (vs:=[8]) (lift_iP (lift_v 2)) (lift_name 8 (by decide)) lift_yes (lift_tup (lift_cons (lift_str _) (lift_cons (lift_v 8) lift_nil))) (fun _ _ _ _ _ z=>z)) (lift_lc (vs:=[8]) (lift_iP (lift_v 3)) (lift_name 8 (by decide)) lift_yes (lift_tup (lift_cons (lift_str _) (lift_cons (lift_v 8) lift_nil))) (fun _ _ _ _ _ z=>z))) (lift_name (vs:=[5]) 5 (by decide)))
     (lift_seq (lift_ifs (lift_or (lift_tst (lift_op rl_eqP (lift_v 5) (lift_lst lift_nil))) (lift_tst (lift_op rl_eqP (lift_callP0 (lift_cons (lift_v 0) (lift_cons (lift_int _) lift_nil)) h_Ltake_2) (lift_int _)))) (lift_ret (lift_tup (lift_cons (lift_str _) (lift_cons (lift_callP (fun _ _ _ _ z=>z) (lift_cons (lift_v 0) lift_nil) h_Lcell_1) lift_nil)))) lift_next)
     (lift_ret (lift_op rl_ixP (lift_v 5) (lift_callP0 (lift_cons (lift_v 0) (lift_cons (lift_cb rl_len (lift_cons (lift_v 5) lift_nil)) lift_nil)) h_Ltake_2))))) lift_next)
     (lift_seq (lift_ifs (lift_tst (lift_op rl_eqP (lift_v 4) (lift_int _))) (lift_seq (lift_asg (lift_callP (fun _ _ _ _ z=>z) (lift_cons (lift_v 0) (lift_cons (lift_op rl_sub (lift_v 1) (lift_int _)) (lift_cons (lift_v 2) (lift_cons (lift_v 3) lift_nil)))) h_Ltruth_4) (lift_name (vs:=[6]) 6 (by decide)))
     (lift_ret (lift_tup (lift_cons (lift_str _) (lift_cons (lift_v 6) (lift_cons (lift_callP (fun _ _ _ _ z=>z) (lift_cons (lift_v 0) (lift_cons (lift_op rl_sub (lift_v 1) (lift_int _)) (lift_cons (lift_v 2) (lift_cons (lift_v 3) lift_nil)))) h_Lvalue_4) (lift_cons (lift_callP (fun _ _ _ _ z=>z) (lift_cons (lift_v 0) (lift_cons (lift_op rl_sub (lift_v 1) (lift_int _)) (lift_cons (lift_v 2) (lift_cons (lift_v 3) lift_nil)))) h_Lvalue_4) lift_nil))))))) lift_next)
     (lift_seq (lift_asg (lift_op rl_ixP (lift_lst (lift_cons (lift_str _) (lift_cons (lift_str _) (lift_cons (lift_str _) (lift_cons (lift_str _) (lift_cons (lift_str _) lift_nil)))))) (lift_op rl_mod (lift_op rl_addP (lift_op rl_sub (lift_v 4) (lift_int _)) (lift_callP0 (lift_cons (lift_v 0) (lift_cons (lift_int _) lift_nil)) h_Ltake_2)) (lift_int _))) (lift_name (vs:=[7]) 7 (by decide)))
     (lift_ret (lift_tup (lift_cons (lift_v 7) (lift_cons (lift_callP (fun _ _ _ _ z=>z) (lift_cons (lift_v 0) (lift_cons (lift_op rl_sub (lift_v 1) (lift_int _)) (lift_cons (lift_v 2) (lift_cons (lift_v 3) lift_nil)))) h_Lvalue_4) (lift_cons (lift_callP (fun _ _ _ _ z=>z) (lift_cons (lift_v 0) (lift_cons (lift_op rl_sub (lift_v 1) (lift_int _)) (lift_cons (lift_v 2) (lift_cons (lift_v 3) lift_nil)))) h_Lvalue_4) lift_nil)))))))))) (fun p ds Q3 X _ hf=>by rw [Lvalue_succ] at hf;exact hf)
   · obtain ⟨f,fd,dvs,kvs,rd,rk,F,hm⟩:=T.d_Ltruth.ex
     refine ⟨f,fd,dvs,kvs,rd,rk,F,hm,F.ok sc_Ltruth (spP_len rfl) (fun cdv A outer s H vs Q E hr h=> ?_)⟩
     replace hr:Room (2+n) _:=hr
     refine ⟨_,(pss_cons (ps_set (i:=4) sc_Ltruth.nd rfl (Or.inl rfl) (pe_cl c_Ltake_2 (hr.mono (by omega)) (by rfl) pass0 (pa_cons (pv 0) (pa_cons pe_int pa_nil))))
     (pss_cons (ps_if (PW.pt (pw_or (pt_cmpR (op_ltP (K:=K) rfl hr.units) (pv 1) pe_int (nomark _)) (pw_or1 (pt_cmpR (op_eqP (K:=K) rfl hr.units) (pv 4) pe_int (nomark _))))) (pss_one (ps_ret (M3.pe_tup (pa_cons pe_str pa_nil)))) pss_nil)
     (pss_cons (ps_if (pt_cmpR (op_ltP (K:=K) rfl hr.units) (pv 4) pe_int (nomark _)) (pss_cons (ps_set (i:=5) sc_Ltruth.nd rfl (Or.inl rfl) (pe_cl c_Lvalue_4 (hr.mono (by omega)) (by rfl) (passes_call (takes_of rfl rfl rfl rfl) (fun _ _ _ _ z=>z)) (pa_cons (pv 0) (pa_cons (pe_callB (call_min2 rfl) (by rfl) T.zb_min (by decide +kernel) (pa_cons pe_int (pa_cons (pe_op op_sub (pv 1) pe_int) pa_nil))) (pa_cons (pv 2) (pa_cons (pv 3) pa_nil))))))
     (pss_cons (ps_if (pt_cmpR (op_eqP (K:=K) rfl hr.units) (pv 4) pe_int (nomark _)) (pss_one (ps_ret (M3.pe_tup (pa_cons pe_str (pa_cons (pv 5) pa_nil))))) pss_nil)
     (pss_one (ps_ret (M3.pe_tup (pa_cons (pe_ix (ix_P (K:=K) rfl) (pe_lst (pa_cons pe_str (pa_cons pe_str pa_nil))) (pe_op op_fdivW (pv 4) pe_int) (fun _ _=>rfl)) (pa_cons (pv 5) (pa_cons (pe_cl c_Lvalue_4 (hr.mono (by omega)) (by rfl) (passes_call (takes_of rfl rfl rfl rfl) (fun _ _ _ _ z=>z)) (pa_cons (pv 0) (pa_cons (pe_callB (call_min2 rfl) (by rfl) T.zb_min (by decide +kernel) (pa_cons pe_int (pa_cons (pe_op op_sub (pv 1) pe_int) pa_nil))) (pa_cons (pv 2) (pa_cons (pv 3) pa_nil))))) pa_nil)))))))) pss_nil)
     (pss_cons (ps_if (pt_cmpR (op_eqP (K:=K) rfl hr.units) (pv 4) pe_int (nomark _)) (pss_one (ps_ret (M3.pe_tup (pa_cons pe_str (pa_cons (pe_cl c_Ltruth_4 (hr.mono (by omega)) (by rfl) (passes_call (takes_of rfl rfl rfl rfl) (fun _ _ _ _ z=>z)) (pa_cons (pv 0) (pa_cons (pe_op op_sub (pv 1) pe_int) (pa_cons (pv 2) (pa_cons (pv 3) pa_nil))))) pa_nil))))) pss_nil)
     (pss_cons (ps_set (i:=6) sc_Ltruth.nd rfl (Or.inl rfl) (pe_ix (ix_P (K:=K) rfl) (pe_lst (pa_cons pe_str (pa_cons pe_str pa_nil))) (pe_op op_mod (pv 4) pe_int) (fun _ _=>rfl)))
     (pss_one (ps_ret (M3.pe_tup (pa_cons (pv 6) (pa_cons (pe_cl c_Ltruth_4 (hr.mono (by omega)) (by rfl) (passes_call (takes_of rfl rfl rfl rfl) (fun _ _ _ _ z=>z)) (pa_cons (pv 0) (pa_cons (pe_op op_sub (pv 1) pe_int) (pa_cons (pv 2) (pa_cons (pv 3) pa_nil))))) (pa_cons (pe_cl c_Ltruth_4 (hr.mono (by omega)) (by rfl) (passes_call (takes_of rfl rfl rfl rfl) (fun _ _ _ _ z=>z)) (pa_cons (pv 0) (pa_cons (pe_op op_sub (pv 1) pe_int) (pa_cons (pv 2) (pa_cons (pv 3) pa_nil))))) pa_nil))))))))))), ?_⟩
     exact bodyP (x:=fun p=>LtruthB (csOf w K mg) p (Lvalue (csOf w K mg) n) (Ltruth (csOf w K mg) n)) (W:=fun cls dd _ H=>E cls dd H) h (fun _ _ _ _ z=>z) (fun p cc=>(lift_seq (lift_asg (lift_callP0 (lift_cons (lift_v 0) (lift_cons (lift_int _) lift_nil)) h_Ltake_2) (lift_name (vs:=[4]) 4 (by decide)))
     (lift_seq (lift_ifs (lift_or (lift_tst (lift_op rl_ltP (lift_v 1) (lift_int _))) (lift_tst (lift_op rl_eqP (lift_v 4) (lift_int _)))) (lift_ret (lift_tup (lift_cons (lift_str _) lift_nil))) lift_next)
     (lift_seq (lift_ifs (lift_tst (lift_op rl_ltP (lift_v 4) (lift_int _))) (lift_seq (lift_asg (lift_callP (fun _ _ _ _ z=>z) (lift_cons (lift_v 0) (lift_cons (lift_cb rl_min2 (lift_cons (lift_int _) (lift_cons (lift_op rl_sub (lift_v 1) (lift_int _)) lift_nil))) (lift_cons (lift_v 2) (lift_cons (lift_v 3) lift_nil)))) h_Lvalue_4) (lift_name (vs:=[5]) 5 (by decide)))
     (lift_seq (lift_ifs (lift_tst (lift_op rl_eqP (lift_v 4) (lift_int _))) (lift_ret (lift_tup (lift_cons (lift_str _) (lift_cons (lift_v 5) lift_nil)))) lift_next)
     (lift_ret (lift_tup (lift_cons (lift_op rl_ixP (lift_lst (lift_cons (lift_str _) (lift_cons (lift_str _) lift_nil))) (lift_op rl_fdivW (lift_v 4) (lift_int _))) (lift_cons (lift_v 5) (lift_cons (lift_callP (fun _ _ _ _ z=>z) (lift_cons (lift_v 0) (lift_cons (lift_cb rl_min2 (lift_cons (lift_int _) (lift_cons (lift_op rl_sub (lift_v 1) (lift_int _)) lift_nil))) (lift_cons (lift_v 2) (lift_cons (lift_v 3) lift_nil)))) h_Lvalue_4) lift_nil))))))) lift_next)
     (lift_seq (lift_ifs (lift_tst (lift_op rl_eqP (lift_v 4) (lift_int _))) (lift_ret (lift_tup (lift_cons (lift_str _) (lift_cons (lift_callP (fun _ _ _ _ z=>z) (lift_cons (lift_v 0) (lift_cons (lift_op rl_sub (lift_v 1) (lift_int _)) (lift_cons (lift_v 2) (lift_cons (lift_v 3) lift_nil)))) h_Ltruth_4) lift_nil)))) lift_next)
     (lift_seq (lift_asg (lift_op rl_ixP (lift_lst (lift_cons (lift_str _) (lift_cons (lift_str _) lift_nil))) (lift_op rl_mod (lift_v 4) (lift_int _))) (lift_name (vs:=[6]) 6 (by decide)))
     (lift_ret (lift_tup (lift_cons (lift_v 6) (lift_cons (lift_callP (fun _ _ _ _ z=>z) (lift_cons (lift_v 0) (lift_cons (lift_op rl_sub (lift_v 1) (lift_int _)) (lift_cons (lift_v 2) (lift_cons (lift_v 3) lift_nil)))) h_Ltruth_4) (lift_cons (lift_callP (fun _ _ _ _ z=>z) (lift_cons (lift_v 0) (lift_cons (lift_op rl_sub (lift_v 1) (lift_int _)) (lift_cons (lift_v 2) (lift_cons (lift_v 3) lift_nil)))) h_Ltruth_4) lift_nil))))))))))) (fun p ds Q3 X _ hf=>by rw [Ltruth_succ] at hf;exact hf)
set_option maxHeartbeats 8000000 in
theorem ok_Lwritten (T:Top w K mg) (base:Heap) (n:Nat):OkF P w K mg base (L2.CX P w) "_law_written" "_law_written" s_Lwritten [] [] [] (0+n) ["_law_word"] (sp3 K 1 (Lwritten (csOf w K mg) n)):=by
 induction n with
 | zero=>exact by rw [Lwritten_zero];exact T.d_Lwritten.no _
 | succ n ih=>
   obtain ⟨v_Lwritten_1,h_Lwritten_1,c_Lwritten_1⟩:=(ih.cl (fun _ _ _ _ _ _ us hl=>match us,hl with | [_],_=>rfl)).ex
   obtain ⟨f,fd,dvs,kvs,rd,rk,F,hm⟩:=T.d_Lwritten.ex
   refine ⟨f,fd,dvs,kvs,rd,rk,F,hm,F.ok sc_Lwritten (sp3_len rfl) (fun cdv A outer s H vs Q E hr h=> ?_)⟩
   replace hr:Room (0+n) _:=hr
   refine ⟨_,(pss_cons (ps_if (pt_cmpR (op_eqP (K:=K) rfl hr.units) (pe_ix (ix_P (K:=K) rfl) (pv 0) pe_int (fun _ _=>rfl)) pe_str (nomark _)) (pss_one (ps_ret (pe_ifExp (pt_cmpR op_isN (pe_ix (ix_P (K:=K) rfl) (pv 0) pe_int (fun _ _=>rfl)) pe_non (nomark _)) pe_str (pe_callTy call_str_int (by rfl) T.zb_str (by decide +kernel) (pa_cons (pe_ix (ix_P (K:=K) rfl) (pv 0) pe_int (fun _ _=>rfl)) pa_nil))))) pss_nil)
    (pss_cons (ps_if (pt_cmpR (op_inP (K:=K) rfl) (pe_ix (ix_P (K:=K) rfl) (pv 0) pe_int (fun _ _=>rfl)) (M3.pe_tup (pa_cons pe_str (pa_cons pe_str pa_nil))) (by rfl)) (pss_one (ps_ret (pe_op (op_addP (K:=K) rfl) (pe_op (op_addP (K:=K) rfl) (pe_ix (ix_P (K:=K) rfl) (pv 0) pe_int (fun _ _=>rfl)) pe_str) (pe_ix (ix_P (K:=K) rfl) (pv 0) pe_int (fun _ _=>rfl))))) pss_nil)
    (pss_cons (ps_if (pt_cmpR (op_eqP (K:=K) rfl hr.units) (pe_ix (ix_P (K:=K) rfl) (pv 0) pe_int (fun _ _=>rfl)) pe_str (nomark _)) (pss_one (ps_ret pe_str)) pss_nil)
    (pss_one (ps_ret (pe_op (op_addP (K:=K) rfl) (pe_op (op_addP (K:=K) rfl) (pe_op (op_addP (K:=K) rfl) (pe_ix (ix_P (K:=K) rfl) (pv 0) pe_int (fun _ _=>rfl)) pe_str) (pe_joinK (K:=K) rfl pe_str (pe_lc (own:=[("_law_part",1)]) (g:=(gName 1)) (by rfl) sc_Lwritten.nd (pi_P (K:=K) rfl (pe_slice (sl_P (K:=K) rfl) (pv 0) (po_some pe_int) po_none)) (blkOk_by (own:=[("_law_part",1)]) (N:=N_Lwritten) (sc:=defScope s_Lwritten) (by decide +kernel)) (fun _ _ _ _ _=>(pg_name (i:=1) sc_Lwritten.nd rfl (Or.inl rfl) (Or.inr rfl))) (fun _ _ _ _ _=>pts_nil) (fun _ _ _ _ _=>(pe_cl c_Lwritten_1 (hr.mono (by omega)) (by rfl) passL (pa_cons (pv 1) pa_nil)))))) pe_str)))))), ?_⟩
   exact body3 (x:=LwrittenB (csOf w K mg) (Lwritten (csOf w K mg) n)) (W:=fun cls dd _ H=>E cls dd H) h (fun _ _ _ _ z=>z) (lift_seq (lift_ifs (lift_tst (lift_op rl_eqP (lift_op rl_ixP (lift_v 0) (lift_int _)) (lift_str _))) (lift_ret (lift_if (lift_tst (lift_op rl_isN (lift_op rl_ixP (lift_v 0) (lift_int _)) lift_non)) (lift_str _) (lift_cb rl_strI (lift_cons (lift_op rl_ixP (lift_v 0) (lift_int _)) lift_nil)))) lift_next)
    (lift_seq (lift_ifs (lift_tst (lift_op (rl_inP false) (lift_op rl_ixP (lift_v 0) (lift_int _)) (lift_tup (lift_cons (lift_str _) (lift_cons (lift_str _) lift_nil))))) (lift_ret (lift_op rl_addP (lift_op rl_addP (lift_op rl_ixP (lift_v 0) (lift_int _)) (lift_str _)) (lift_op rl_ixP (lift_v 0) (lift_int _)))) lift_next)
    (lift_seq (lift_ifs (lift_tst (lift_op rl_eqP (lift_op rl_ixP (lift_v 0) (lift_int _)) (lift_str _))) (lift_ret (lift_str _)) lift_next)
    (lift_ret (lift_op rl_addP (lift_op rl_addP (lift_op rl_addP (lift_op rl_ixP (lift_v 0) (lift_int _)) (lift_str _)) (lift_m1 rl_join (lift_str _) (lift_lc (vs:=[1]) (lift_iP (lift_sl rl_slP (lift_v 0) (lift_po (lift_int _)) lift_po0)) (lift_name 1 (by decide)) lift_yes (lift_call0 (lift_cons (lift_v 1) lift_nil) h_Lwritten_1) (fun _ _ _ _ _ z=>z)))) (lift_str _)))))) (fun ds Q3 X _ hf=>by rw [Lwritten_succ] at hf;exact hf)
theorem ok_Lcell_read (T:Top w K mg) (base:Heap):OkF P w K mg base (L2.CX P w) "_law_cell_read" "_law_cell_read" s_Lcell_read [] [] [] 1 ["_law_text"] (sp3 K 1 (Lcell_read (csOf w K mg))):=by
 obtain ⟨f,fd,dvs,kvs,rd,rk,F,hm⟩:=T.d_Lcell_read.ex
 refine ⟨f,fd,dvs,kvs,rd,rk,F,hm,F.ok sc_Lcell_read (sp3_len rfl) (fun cdv A outer s H vs Q E hr h=> ?_)⟩
 refine ⟨_,(pss_cons (ps_if (pt_cmpR (op_eqP (K:=K) rfl hr.units) (pv 0) pe_str (nomark _)) (pss_one (ps_ret (M3.pe_tup (pa_cons pe_str (pa_cons pe_non pa_nil))))) pss_nil)
  (pss_cons (ps_set (i:=1) sc_Lcell_read.nd rfl (Or.inl rfl) (pe_ifExp (pt_cmpR (op_eqP (K:=K) rfl hr.units) (pe_slice (sl_P (K:=K) rfl) (pv 0) po_none (po_some pe_int)) pe_str (nomark _)) (pe_slice (sl_P (K:=K) rfl) (pv 0) (po_some pe_int) po_none) (pv 0)))
  (pss_cons (ps_if (PW.pt (pw_or (pt_cmpR (op_eqP (K:=K) rfl hr.units) (pv 1) pe_str (nomark _)) (pw_or (pt_cmpR (op_gtP (K:=K) rfl hr.units) (pe_callB (call_lenK (K:=K) rfl) (by rfl) T.zb_len (by decide +kernel) (pa_cons (pv 1) pa_nil)) pe_int (nomark _)) (pw_or1 (pt_not (pt_val (pe_callB (cr_allK (K:=K) rfl rfl) (by rfl) T.zb_all (by decide +kernel) (pa_cons (pe_lc (own:=[("_law_sign",2)]) (g:=(gName 2)) (by rfl) sc_Lcell_read.nd (pi_P (K:=K) rfl (pv 1)) (blkOk_by (own:=[("_law_sign",2)]) (N:=N_Lcell_read) (sc:=defScope s_Lcell_read) (by decide +kernel)) (fun _ _ _ _ _=>(pg_name (i:=2) sc_Lcell_read.nd rfl (Or.inl rfl) (Or.inr rfl))) (fun _ _ _ _ _=>pts_nil) (fun _ _ _ _ _=>(pe_cmpR (op_inP (K:=K) rfl) (pv 2) pe_str (by rfl)))) pa_nil)))))))) (pss_one (ps_ret pe_non)) pss_nil)
  (pss_cons (ps_if (PW.pt (pw_and (pt_cmpR (op_eqP (K:=K) rfl hr.units) (pe_ix (ix_P (K:=K) rfl) (pv 1) pe_int (fun _ _=>rfl)) pe_str (nomark _)) (pw_and1 (pt_cmpR (op_neP (K:=K) rfl hr.units) (pv 0) pe_str (nomark _))))) (pss_one (ps_ret pe_non)) pss_nil)
  (pss_one (ps_ret (M3.pe_tup (pa_cons pe_str (pa_cons (pe_callTy call_int_str (by rfl) T.zb_int (by decide +kernel) (pa_cons (pv 0) pa_nil)) pa_nil))))))))), ?_⟩
 exact body3 (x:=Lcell_readB (csOf w K mg)) (W:=fun cls dd _ H=>E cls dd H) h (fun _ _ _ _ z=>z) (lift_seq (lift_ifs (lift_tst (lift_op rl_eqP (lift_v 0) (lift_str _))) (lift_ret (lift_tup (lift_cons (lift_str _) (lift_cons lift_non lift_nil)))) lift_next)
  (lift_seq (lift_asg (lift_if (lift_tst (lift_op rl_eqP (lift_sl rl_slP (lift_v 0) lift_po0 (lift_po (lift_int _))) (lift_str _))) (lift_sl rl_slP (lift_v 0) (lift_po (lift_int _)) lift_po0) (lift_v 0)) (lift_name (vs:=[1]) 1 (by decide)))
  (lift_seq (lift_ifs (lift_or (lift_tst (lift_op rl_eqP (lift_v 1) (lift_str _))) (lift_or (lift_tst (lift_op rl_gtP (lift_cb rl_len (lift_cons (lift_v 1) lift_nil)) (lift_int _))) (lift_not (lift_tB (lift_cb rl_all (lift_cons (lift_lc (vs:=[2]) (lift_iP (lift_v 1)) (lift_name 2 (by decide)) lift_yes (lift_op (rl_inP false) (lift_v 2) (lift_str _)) (fun _ _ _ _ _ z=>z)) lift_nil)))))) (lift_ret lift_non) lift_next)
  (lift_seq (lift_ifs (lift_and (lift_tst (lift_op rl_eqP (lift_op rl_ixP (lift_v 1) (lift_int _)) (lift_str _))) (lift_tst (lift_op rl_neP (lift_v 0) (lift_str _)))) (lift_ret lift_non) lift_next)
  (lift_ret (lift_tup (lift_cons (lift_str _) (lift_cons (lift_cb rl_intS (lift_cons (lift_v 0) lift_nil)) lift_nil)))))))) (fun ds Q3 X _ hf=>by rw [Lcell_read_def] at hf;exact hf)
theorem ok_Lcut (T:Top w K mg) (base:Heap):OkF P w K mg base (L2.CX P w) "_law_cut" "_law_cut" s_Lcut [] [] [] 1 ["_law_text"] (sp3 K 1 (Lcut (csOf w K mg))):=by
 obtain ⟨f,fd,dvs,kvs,rd,rk,F,hm⟩:=T.d_Lcut.ex
 refine ⟨f,fd,dvs,kvs,rd,rk,F,hm,F.ok sc_Lcut (sp3_len rfl) (fun cdv A outer s H vs Q E hr h=> ?_)⟩
 refine ⟨_,(pss_cons (ps_set (i:=1) sc_Lcut.nd rfl (Or.inl rfl) (pe_lst (pa_cons pe_str pa_nil)))
  (pss_cons (ps_set (i:=2) sc_Lcut.nd rfl (Or.inl rfl) pe_int)
  (pss_cons (ps_for (passes_of rfl) (by rfl) (pi_P (K:=K) rfl (pv 0)) (pg_name (i:=3) sc_Lcut.nd rfl (Or.inl rfl))
  (pss_cons (ps_set (i:=2) sc_Lcut.nd rfl (Or.inl rfl) (pe_op op_sub (pe_op (op_addP (K:=K) rfl) (pv 2) (pe_callTy call_int1 (by rfl) T.zb_int (by decide +kernel) (pa_cons (pe_cmpR (op_eqP (K:=K) rfl hr.units) (pv 3) pe_str (nomark _)) pa_nil))) (pe_callTy call_int1 (by rfl) T.zb_int (by decide +kernel) (pa_cons (pe_cmpR (op_eqP (K:=K) rfl hr.units) (pv 3) pe_str (nomark _)) pa_nil))))
  (pss_one (ps_if (PW.pt (pw_and (pt_cmpR (op_eqP (K:=K) rfl hr.units) (pv 3) pe_str (nomark _)) (pw_and1 (pt_cmpR (op_eqP (K:=K) rfl hr.units) (pv 2) pe_int (nomark _))))) (pss_one (ps_expr (pe_bm PySem.F.plainAttrs_list PySem.F.slot_list_append PySem.F.type_list_append mt_append (pv 1) (pa_cons pe_str pa_nil)))) (pss_one (ps_asg (pe_op (op_addP (K:=K) rfl) (pe_ix (ix_P (K:=K) rfl) (pv 1) (pe_un un_neg pe_int) (fun _ _=>rfl)) (pv 3)) (pg_sub (pv 1) (pe_un un_neg pe_int) set_list)))))))
  (pss_one (ps_ret (pv 1)))))), ?_⟩
 exact body3 (x:=LcutB (csOf w K mg)) (W:=fun cls dd _ H=>E cls dd H) h (fun _ _ _ _ z=>z) (lift_seq (lift_ownset (lift_frLst (lift_cons (lift_str _) lift_nil)))
  (lift_seq (lift_asg (lift_int _) (lift_name (vs:=[2]) 2 (by decide)))
  (lift_seq (lift_for (vs:=[3]) (lift_iP (lift_v 0)) (lift_name 3 (by decide))
  (lift_seq (lift_asg (lift_op rl_sub (lift_op rl_addP (lift_v 2) (lift_cb rl_int1 (lift_cons (lift_op rl_eqP (lift_v 3) (lift_str _)) lift_nil))) (lift_cb rl_int1 (lift_cons (lift_op rl_eqP (lift_v 3) (lift_str _)) lift_nil))) (lift_name (vs:=[2]) 2 (by decide)))
  (lift_ifs (lift_and (lift_tst (lift_op rl_eqP (lift_v 3) (lift_str _))) (lift_tst (lift_op rl_eqP (lift_v 2) (lift_int _)))) (lift_app (lift_str _)) (lift_setI (lift_un rl_neg (lift_int _)) (lift_op rl_addP (lift_ixO (i:=1) (lift_un rl_neg (lift_int _))) (lift_v 3))))))
  (lift_frz (i:=1) (lift_ret (lift_v 1)))))) (fun ds Q3 X _ hf=>by rw [Lcut_def] at hf;exact hf)
theorem ok_Lname_ok (T:Top w K mg) (base:Heap):OkF P w K mg base (L2.CX P w) "_law_name_ok" "_law_name_ok" s_Lname_ok [] [] [] 1 ["_law_name"] (sp3 K 1 (Lname_ok (csOf w K mg))):=by
 obtain ⟨f,fd,dvs,kvs,rd,rk,F,hm⟩:=T.d_Lname_ok.ex
 refine ⟨f,fd,dvs,kvs,rd,rk,F,hm,F.ok sc_Lname_ok (sp3_len rfl) (fun cdv A outer s H vs Q E hr h=> ?_)⟩
 refine ⟨_,(pss_one (ps_ret (pe_and (pe_chain (op_leP (K:=K) rfl hr.units) (op_leP (K:=K) rfl hr.units) pe_int (pe_callB (call_lenK (K:=K) rfl) (by rfl) T.zb_len (by decide +kernel) (pa_cons (pv 0) pa_nil)) pe_int) (pe_one (pe_callB (cr_allK (K:=K) rfl rfl) (by rfl) T.zb_all (by decide +kernel) (pa_cons (pe_lc (own:=[("_law_sign",1)]) (g:=(gName 1)) (by rfl) sc_Lname_ok.nd (pi_P (K:=K) rfl (pv 0)) (blkOk_by (own:=[("_law_sign",1)]) (N:=N_Lname_ok) (sc:=defScope s_Lname_ok) (by decide +kernel)) (fun _ _ _ _ _=>(pg_name (i:=1) sc_Lname_ok.nd rfl (Or.inl rfl) (Or.inr rfl))) (fun _ _ _ _ _=>pts_nil) (fun _ _ _ _ _=>(pe_cmpR (op_inP (K:=K) rfl) (pv 1) pe_str (by rfl)))) pa_nil)))))), ?_⟩
 exact body3 (x:=Lname_okB (csOf w K mg)) (W:=fun cls dd _ H=>E cls dd H) h (fun _ _ _ _ z=>z) (lift_ret (lift_andV (lift_chain rl_leP rl_leP (lift_int _) (lift_cb rl_len (lift_cons (lift_v 0) lift_nil)) (lift_int _)) (lift_cb rl_all (lift_cons (lift_lc (vs:=[1]) (lift_iP (lift_v 0)) (lift_name 1 (by decide)) lift_yes (lift_op (rl_inP false) (lift_v 1) (lift_str _)) (fun _ _ _ _ _ z=>z)) lift_nil)))) (fun ds Q3 X _ hf=>by rw [Lname_ok_def] at hf;exact hf)
set_option maxHeartbeats 8000000 in
theorem ok_Lread (T:Top w K mg) (base:Heap) (n:Nat):OkF P w K mg base (L2.CX P w) "_law_read" "_law_read" s_Lread [] [] [] (1+n) ["_law_text","_law_kind","_law_room"] (sp3 K 3 (Lread (csOf w K mg) n)):=by
 induction n with
 | zero=>exact by rw [Lread_zero];exact T.d_Lread.no _
 | succ n ih=>
   obtain ⟨v_Lcell_read_1,h_Lcell_read_1,c_Lcell_read_1⟩:=((ok_Lcell_read T base (P:=P) (w:=w)).cl (fun _ _ _ _ _ _ us hl=>match us,hl with | [_],_=>rfl)).ex
   obtain ⟨v_Lcut_1,h_Lcut_1,c_Lcut_1⟩:=((ok_Lcut T base (P:=P) (w:=w)).cl (fun _ _ _ _ _ _ us hl=>match us,hl with | [_],_=>rfl)).ex
   obtain ⟨v_Lname_ok_1,h_Lname_ok_1,c_Lname_ok_1⟩:=((ok_Lname_ok T base (P:=P) (w:=w)).cl (fun _ _ _ _ _ _ us hl=>match us,hl with | [_],_=>rfl)).ex
   obtain ⟨v_Lread_3,h_Lread_3,c_Lread_3⟩:=(ih.cl (fun _ _ _ _ _ _ us hl=>match us,hl with | [_,_,_],_=>rfl)).ex
   obtain ⟨f,fd,dvs,kvs,rd,rk,F,hm⟩:=T.d_Lread.ex
   refine ⟨f,fd,dvs,kvs,rd,rk,F,hm,F.ok sc_Lread (sp3_len rfl) (fun cdv A outer s H vs Q E hr h=> ?_)⟩
   replace hr:Room (1+n) _:=hr
   refine ⟨_,(pss_cons (ps_if (pt_cmpR (op_ltP (K:=K) rfl hr.units) (pv 2) pe_int (nomark _)) (pss_one (ps_ret pe_non)) pss_nil)
    (pss_cons (ps_if (PW.pt (pw_and (pt_cmpR (op_eqP (K:=K) rfl hr.units) (pv 1) pe_str (nomark _)) (pw_and1 (pt_cmpR (op_eqP (K:=K) rfl hr.units) (pv 0) pe_str (nomark _))))) (pss_one (ps_ret (M3.pe_tup (pa_cons pe_str pa_nil)))) pss_nil)
    (pss_cons (ps_if (PW.pt (pw_and (pt_cmpR (op_eqP (K:=K) rfl hr.units) (pv 1) pe_str (nomark _)) (pw_and1 (pt_cmpR (op_inP (K:=K) rfl) (pe_slice (sl_P (K:=K) rfl) (pv 0) po_none (po_some pe_int)) (M3.pe_tup (pa_cons pe_str (pa_cons pe_str pa_nil))) (by rfl))))) (pss_one (ps_ret (pe_ifExp (pt_val (pe_cl c_Lname_ok_1 (hr.mono (by omega)) (by rfl) (passes_call (takes_of rfl rfl rfl rfl) (fun _ _ _ _ z=>z)) (pa_cons (pe_slice (sl_P (K:=K) rfl) (pv 0) (po_some pe_int) po_none) pa_nil))) (M3.pe_tup (pa_cons (pe_slice (sl_P (K:=K) rfl) (pv 0) po_none (po_some pe_int)) (pa_cons (pe_slice (sl_P (K:=K) rfl) (pv 0) (po_some pe_int) po_none) pa_nil))) pe_non))) pss_nil)
    (pss_cons (ps_set (i:=3) sc_Lread.nd rfl (Or.inl rfl) (pe_fzD (pe_disp (pps_cons pe_str pe_str (pps_cons pe_str pe_str (pps_cons pe_str pe_str (pps_cons pe_str pe_str (pps_cons pe_str pe_str (pps_cons pe_str pe_str pps_nil)))))) (by rfl) (by rfl) (by simp) (by decide))))
    (pss_cons (ps_if (pt_cmpR (op_eqP (K:=K) rfl hr.units) (pv 1) pe_str (nomark _)) (pss_one (ps_set (i:=3) sc_Lread.nd rfl (Or.inl rfl) (pe_fzD (pe_disp (pps_cons pe_str pe_str (pps_cons pe_str pe_str (pps_cons pe_str pe_str (pps_cons pe_str pe_str (pps_cons pe_str pe_str (pps_cons pe_str pe_str pps_nil)))))) (by rfl) (by rfl) (by simp) (by decide))))) pss_nil)
    (pss_cons (ps_set (i:=4) sc_Lread.nd rfl (Or.inl rfl) (pe_ix (ix_P (K:=K) rfl) (M3.pe_split (pv 0) pe_str) pe_int (fun _ _=>rfl)))
    (pss_cons (ps_if (pt_cmpR (op_notInP (K:=K) rfl) pe_str (pv 0) (by rfl)) (pss_one (ps_ret (pe_ifExp (pt_cmpR (op_eqP (K:=K) rfl hr.units) (pv 1) pe_str (nomark _)) (pe_cl c_Lcell_read_1 (hr.mono (by omega)) (by rfl) (passes_call (takes_of rfl rfl rfl rfl) (fun _ _ _ _ z=>z)) (pa_cons (pv 0) pa_nil)) pe_non))) pss_nil)
    (pss_cons (ps_if (PW.pt (pw_or (pt_cmpR (op_notInDF hr.units65) (pv 4) (pv 3) (by rfl)) (pw_or1 (pt_cmpR (op_neP (K:=K) rfl hr.units) (pe_ix (ix_P (K:=K) rfl) (pv 0) (pe_un un_neg pe_int) (fun _ _=>rfl)) pe_str (nomark _))))) (pss_one (ps_ret pe_non)) pss_nil)
    (pss_cons (ps_set (i:=5) sc_Lread.nd rfl (Or.inl rfl) (pe_cl c_Lcut_1 (hr.mono (by omega)) (by rfl) (passes_call (takes_of rfl rfl rfl rfl) (fun _ _ _ _ z=>z)) (pa_cons (pe_slice (sl_P (K:=K) rfl) (pv 0) (po_some (pe_op (op_addP (K:=K) rfl) (pe_callB (call_lenK (K:=K) rfl) (by rfl) T.zb_len (by decide +kernel) (pa_cons (pv 4) pa_nil)) pe_int)) (po_some (pe_un un_neg pe_int))) pa_nil)))
    (pss_cons (ps_if (PW.pt (pw_or (pt_cmpR (op_neP (K:=K) rfl hr.units) (pe_callB (call_lenK (K:=K) rfl) (by rfl) T.zb_len (by decide +kernel) (pa_cons (pv 5) pa_nil)) (pe_callB (call_lenK (K:=K) rfl) (by rfl) T.zb_len (by decide +kernel) (pa_cons (pe_dget (Nat.lt_of_le_of_lt (Nat.add_le_add_left (by decide:1≤64) _) hr.units) (pv 3) (pv 4) (fun _ _=>rfl)) pa_nil)) (nomark _)) (pw_or1 (pt_not (pt_val (pe_callB (cr_allK (K:=K) rfl rfl) (by rfl) T.zb_all (by decide +kernel) (pa_cons (pe_lc (own:=[("_law_part",7)]) (g:=(gName 7)) (by rfl) sc_Lread.nd (pi_P (K:=K) rfl (pe_slice (sl_P (K:=K) rfl) (pv 5) (po_some pe_int) po_none)) (blkOk_by (own:=[("_law_part",7)]) (N:=N_Lread) (sc:=defScope s_Lread) (by decide +kernel)) (fun _ _ _ _ _=>(pg_name (i:=7) sc_Lread.nd rfl (Or.inl rfl) (Or.inr rfl))) (fun _ _ _ _ _=>pts_nil) (fun _ _ _ _ _=>(pe_cmpR (op_eqP (K:=K) rfl hr.units) (pe_slice (sl_P (K:=K) rfl) (pv 7) po_none (po_some pe_int)) pe_str (nomark _)))) pa_nil))))))) (pss_one (ps_ret pe_non)) pss_nil)
    (pss_cons (ps_set (i:=5) sc_Lread.nd rfl (Or.inl rfl) (pe_op (op_addP (K:=K) rfl) (pe_slice (sl_P (K:=K) rfl) (pv 5) po_none (po_some pe_int)) (pe_lc (own:=[("_law_part",7)]) (g:=(gName 7)) (by rfl) sc_Lread.nd (pi_P (K:=K) rfl (pe_slice (sl_P (K:=K) rfl) (pv 5) (po_some pe_int) po_none)) (blkOk_by (own:=[("_law_part",7)]) (N:=N_Lread) (sc:=defScope s_Lread) (by decide +kernel)) (fun _ _ _ _ _=>(pg_name (i:=7) sc_Lread.nd rfl (Or.inl rfl) (Or.inr rfl))) (fun _ _ _ _ _=>pts_nil) (fun _ _ _ _ _=>(pe_slice (sl_P (K:=K) rfl) (pv 7) (po_some pe_int) po_none)))))
    (pss_cons (ps_setLc (i:=6) (own:=[("_law_part",7),("_law_sort",8)]) (g:=(gTup K 2 (gCons (gName 7) (gCons (gName 8) gNil)))) (by rfl) sc_Lread.nd rfl rfl (sw_true rfl rfl rfl (by decide +kernel)) (pi_zipG (K:=K) rfl (by rfl) T.zb_zip (pa_cons (pv 5) (pa_cons (pe_dget (Nat.lt_of_le_of_lt (Nat.add_le_add_left (by decide:1≤64) _) hr.units) (pv 3) (pv 4) (fun _ _=>rfl)) pa_nil))) (blkOk_by (own:=[("_law_part",7),("_law_sort",8)]) (N:=N_Lread) (sc:=defScope s_Lread) (by decide +kernel)) (fun _ _ _ _ _=>(pg_tupK (K:=K) rfl rfl (pgs_cons (pg_name (i:=7) sc_Lread.nd rfl (Or.inl rfl) (Or.inr rfl)) (pgs_cons (pg_name (i:=8) sc_Lread.nd rfl (Or.inl rfl) (Or.inr rfl)) pgs_nil)))) (fun _ _ _ _ _=>pts_nil) (fun _ _ _ _ _=>(pe_cl c_Lread_3 (hr.mono (by omega)) (by rfl) passL (pa_cons (pv 7) (pa_cons (pv 8) (pa_cons (pe_op op_sub (pv 2) pe_int) pa_nil))))))
    (pss_one (ps_ret (pe_ifExp (pt_cmpR (op_inLK (K:=K) rfl hr.units65) pe_non (pv 6) (by rfl)) pe_non (pe_op (op_addP (K:=K) rfl) (M3.pe_tup (pa_cons (pv 4) pa_nil)) (pe_callTy (call_tupleK (K:=K) rfl) (by rfl) T.zb_tuple (by decide +kernel) (pa_cons (pv 6) pa_nil)))))))))))))))))), ?_⟩
   exact body3 (x:=LreadB (csOf w K mg) (Lread (csOf w K mg) n)) (W:=fun cls dd _ H=>E cls dd H) h (fun _ _ _ _ z=>z) (lift_seq (lift_ifs (lift_tst (lift_op rl_ltP (lift_v 2) (lift_int _))) (lift_ret lift_non) lift_next)
    (lift_seq (lift_ifs (lift_and (lift_tst (lift_op rl_eqP (lift_v 1) (lift_str _))) (lift_tst (lift_op rl_eqP (lift_v 0) (lift_str _)))) (lift_ret (lift_tup (lift_cons (lift_str _) lift_nil))) lift_next)
    (lift_seq (lift_ifs (lift_and (lift_tst (lift_op rl_eqP (lift_v 1) (lift_str _))) (lift_tst (lift_op (rl_inP false) (lift_sl rl_slP (lift_v 0) lift_po0 (lift_po (lift_int _))) (lift_tup (lift_cons (lift_str _) (lift_cons (lift_str _) lift_nil)))))) (lift_ret (lift_if (lift_tB (lift_call (fun _ _ _ _ z=>z) (lift_cons (lift_sl rl_slP (lift_v 0) (lift_po (lift_int _)) lift_po0) lift_nil) h_Lname_ok_1)) (lift_tup (lift_cons (lift_sl rl_slP (lift_v 0) lift_po0 (lift_po (lift_int _))) (lift_cons (lift_sl rl_slP (lift_v 0) (lift_po (lift_int _)) lift_po0) lift_nil))) lift_non)) lift_next)
    (lift_seq (lift_asg (lift_fzD (lift_frDisp (.cons (lift_str _) (.cons (lift_str _) (.cons (lift_str _) (.cons (lift_str _) (.cons (lift_str _) (.cons (lift_str _) .nil)))))))) (lift_name (vs:=[3]) 3 (by decide)))
    (lift_seq (lift_ifs (lift_tst (lift_op rl_eqP (lift_v 1) (lift_str _))) (lift_asg (lift_fzD (lift_frDisp (.cons (lift_str _) (.cons (lift_str _) (.cons (lift_str _) (.cons (lift_str _) (.cons (lift_str _) (.cons (lift_str _) .nil)))))))) (lift_name (vs:=[3]) 3 (by decide))) lift_next)
    (lift_seq (lift_asg (lift_op rl_ixP (lift_m1 rl_split (lift_v 0) (lift_str _)) (lift_int _)) (lift_name (vs:=[4]) 4 (by decide)))
    (lift_seq (lift_ifs (lift_tst (lift_op (rl_inP true) (lift_str _) (lift_v 0))) (lift_ret (lift_if (lift_tst (lift_op rl_eqP (lift_v 1) (lift_str _))) (lift_call (fun _ _ _ _ z=>z) (lift_cons (lift_v 0) lift_nil) h_Lcell_read_1) lift_non)) lift_next)
    (lift_seq (lift_ifs (lift_or (lift_tst (lift_op (rl_inDF (neg:=true)) (lift_v 4) (lift_v 3))) (lift_tst (lift_op rl_neP (lift_op rl_ixP (lift_v 0) (lift_un rl_neg (lift_int _))) (lift_str _)))) (lift_ret lift_non) lift_next)
    (lift_seq (lift_asg (lift_call (fun _ _ _ _ z=>z) (lift_cons (lift_sl rl_slP (lift_v 0) (lift_po (lift_op rl_addP (lift_cb rl_len (lift_cons (lift_v 4) lift_nil)) (lift_int _))) (lift_po (lift_un rl_neg (lift_int _)))) lift_nil) h_Lcut_1) (lift_name (vs:=[5]) 5 (by decide)))
    (lift_seq (lift_ifs (lift_or (lift_tst (lift_op rl_neP (lift_cb rl_len (lift_cons (lift_v 5) lift_nil)) (lift_cb rl_len (lift_cons (lift_dget (lift_v 3) (lift_v 4)) lift_nil)))) (lift_not (lift_tB (lift_cb rl_all (lift_cons (lift_lc (vs:=[7]) (lift_iP (lift_sl rl_slP (lift_v 5) (lift_po (lift_int _)) lift_po0)) (lift_name 7 (by decide)) lift_yes (lift_op rl_eqP (lift_sl rl_slP (lift_v 7) lift_po0 (lift_po (lift_int _))) (lift_str _)) (fun _ _ _ _ _ z=>z)) lift_nil))))) (lift_ret lift_non) lift_next)
    (lift_seq (lift_asg (lift_op rl_addP (lift_sl rl_slP (lift_v 5) lift_po0 (lift_po (lift_int _))) (lift_lc (vs:=[7]) (lift_iP (lift_sl rl_slP (lift_v 5) (lift_po (lift_int _)) lift_po0)) (lift_name 7 (by decide)) lift_yes (lift_sl rl_slP (lift_v 7) (lift_po (lift_int _)) lift_po0) (fun _ _ _ _ _ z=>z))) (lift_name (vs:=[5]) 5 (by decide)))
    (lift_seq (lift_asg (lift_lc (vs:=[7,8]) (lift_iZG (lift_cons (lift_v 5) (lift_cons (lift_dget (lift_v 3) (lift_v 4)) lift_nil))) (lift_gtup (lift_gcons (lift_name 7 (by decide)) (lift_gcons (lift_name 8 (by decide)) lift_gnil))) lift_yes (lift_call0 (lift_cons (lift_v 7) (lift_cons (lift_v 8) (lift_cons (lift_op rl_sub (lift_v 2) (lift_int _)) lift_nil))) h_Lread_3) (fun _ _ _ _ _ z=>z)) (lift_name (vs:=[6]) 6 (by decide)))
    (lift_ret (lift_if (lift_tst (lift_op rl_inLD lift_non (lift_v 6))) lift_non (lift_op rl_addP (lift_tup (lift_cons (lift_v 4) lift_nil)) (lift_cb rl_tuple (lift_cons (lift_v 6) lift_nil))))))))))))))))) (fun ds Q3 X _ hf=>by rw [Lread_succ] at hf;exact hf)
theorem ok_Lbent (T:Top w K mg) (base:Heap):OkF P w K mg base (L2.CX P w) "_law_bent" "_law_bent" s_Lbent [] [] [] 2 ["_law_pot_here","_law_text"] (spP K 2 (Lbent (csOf w K mg))):=by
 have c_Ltake_2:=cl_take T base (P:=P) (w:=w)
 have h_Ltake_2:∀H,RepL K H [] []:=fun _=>.nil
 obtain ⟨f,fd,dvs,kvs,rd,rk,F,hm⟩:=T.d_Lbent.ex
 refine ⟨f,fd,dvs,kvs,rd,rk,F,hm,F.ok sc_Lbent (spP_len rfl) (fun cdv A outer s H vs Q E hr h=> ?_)⟩
 refine ⟨_,(pss_cons (ps_set (i:=2) sc_Lbent.nd rfl (Or.inl rfl) (pe_cl c_Ltake_2 (hr.mono (by omega)) (by rfl) pass0 (pa_cons (pv 0) (pa_cons (pe_op (op_addP (K:=K) rfl) (pe_callB (call_lenK (K:=K) rfl) (by rfl) T.zb_len (by decide +kernel) (pa_cons (pv 1) pa_nil)) pe_int) pa_nil))))
  (pss_cons (ps_set (i:=3) sc_Lbent.nd rfl (Or.inl rfl) (pe_cl c_Ltake_2 (hr.mono (by omega)) (by rfl) pass0 (pa_cons (pv 0) (pa_cons (pe_op (op_addP (K:=K) rfl) (pe_callB (call_lenK (K:=K) rfl) (by rfl) T.zb_len (by decide +kernel) (pa_cons (pv 1) pa_nil)) pe_int) pa_nil))))
  (pss_cons (ps_set (i:=4) sc_Lbent.nd rfl (Or.inl rfl) (pe_cl c_Ltake_2 (hr.mono (by omega)) (by rfl) pass0 (pa_cons (pv 0) (pa_cons pe_int pa_nil))))
  (CwR.pss_ifT (CwR.ptt_cmp (op_eqP (K:=K) rfl hr.units) (pv 4) (nomark _)) (PSsT.of (pss_one (ps_ret (pe_op (op_addP (K:=K) rfl) (pe_slice (sl_P (K:=K) rfl) (pv 1) po_none (po_some (pv 2))) (pe_slice (sl_P (K:=K) rfl) (pv 1) (po_some (pe_op (op_addP (K:=K) rfl) (pv 2) pe_int)) po_none))))) (PSsT.of pss_nil)
  (psst_cons (PST.of (ps_if (pt_cmpR (op_eqP (K:=K) rfl hr.units) (pv 4) pe_int (nomark _)) (pss_one (ps_ret (pe_op (op_addP (K:=K) rfl) (pe_op (op_addP (K:=K) rfl) (pe_slice (sl_P (K:=K) rfl) (pv 1) po_none (po_some (pv 2))) (pe_ix (ix_P (K:=K) rfl) pe_str (pe_cl c_Ltake_2 (hr.mono (by omega)) (by rfl) pass0 (pa_cons (pv 0) (pa_cons pe_int pa_nil))) (fun _ _=>rfl))) (pe_slice (sl_P (K:=K) rfl) (pv 1) (po_some (pv 2)) po_none)))) pss_nil))
  (psst_cons (PST.of (ps_if (pt_cmpR (op_eqP (K:=K) rfl hr.units) (pv 4) pe_int (nomark _)) (pss_one (ps_ret (pe_op (op_addP (K:=K) rfl) (pe_slice (sl_P (K:=K) rfl) (pv 1) po_none (po_some (pe_callB (call_max2 rfl) (by rfl) T.zb_max (by decide +kernel) (pa_cons (pv 2) (pa_cons (pv 3) pa_nil))))) (pe_slice (sl_P (K:=K) rfl) (pv 1) (po_some (pe_callB (call_min2 rfl) (by rfl) T.zb_min (by decide +kernel) (pa_cons (pv 2) (pa_cons (pv 3) pa_nil)))) po_none)))) pss_nil))
  (psst_cons (CwR.pst_if (pt_cmpR (op_eqP (K:=K) rfl hr.units) (pv 4) pe_int (nomark _)) (CwR.psst_one (CwR.pst_ret (CwR.pet_replI (pv 1) (pe_cl c_Ltake_2 (hr.mono (by omega)) (by rfl) pass0 (pa_cons (pv 0) (pa_cons pe_int pa_nil)))))) (PSsT.of pss_nil))
  (psst_cons (PST.of (ps_if (pt_cmpR (op_eqP (K:=K) rfl hr.units) (pv 4) pe_int (nomark _)) (pss_one (ps_ret (pe_ix (ix_P (K:=K) rfl) (pe_lst (pa_cons (pe_op (op_addP (K:=K) rfl) (pe_op (op_addP (K:=K) rfl) pe_str (pv 1)) pe_str) (pa_cons (pe_op (op_addP (K:=K) rfl) (pv 1) pe_str) (pa_cons (pe_op (op_addP (K:=K) rfl) pe_str (pv 1)) (pa_cons (pe_op (op_addP (K:=K) rfl) (pv 1) pe_str) (pa_cons (pe_op (op_addP (K:=K) rfl) pe_str (pv 1)) (pa_cons (pe_op (op_addP (K:=K) rfl) pe_str (pv 1)) pa_nil))))))) (pe_cl c_Ltake_2 (hr.mono (by omega)) (by rfl) pass0 (pa_cons (pv 0) (pa_cons pe_int pa_nil))) (fun _ _=>rfl)))) pss_nil))
  (psst_cons (CwR.pst_if (pt_cmpR (op_eqP (K:=K) rfl hr.units) (pv 4) pe_int (nomark _)) (CwR.psst_one (CwR.pst_ret (CwR.pet_replI (pv 1) (pe_cl c_Ltake_2 (hr.mono (by omega)) (by rfl) pass0 (pa_cons (pv 0) (pa_cons pe_int pa_nil)))))) (PSsT.of pss_nil))
  (psst_cons (PST.of (ps_if (pt_cmpR (op_eqP (K:=K) rfl hr.units) (pv 4) pe_int (nomark _)) (pss_one (ps_ret (pe_ix (ix_P (K:=K) rfl) (pe_lst (pa_cons pe_str (pa_cons pe_str (pa_cons pe_str (pa_cons pe_str (pa_cons pe_str (pa_cons pe_str (pa_cons (pe_op op_repS pe_str pe_int) (pa_cons (pe_op op_repS pe_str pe_int) pa_nil))))))))) (pe_cl c_Ltake_2 (hr.mono (by omega)) (by rfl) pass0 (pa_cons (pv 0) (pa_cons pe_int pa_nil))) (fun _ _=>rfl)))) pss_nil))
  (PSsT.of (pss_one (ps_ret (pv 1)))))))))))))), ?_⟩
 exact bodyP (x:=fun p=>LbentB (csOf w K mg) p) (W:=fun cls dd _ H=>E cls dd H) h (fun _ _ _ _ z=>z) (fun p cc=>(lift_seq (lift_asg (lift_callP0 (lift_cons (lift_v 0) (lift_cons (lift_op rl_addP (lift_cb rl_len (lift_cons (lift_v 1) lift_nil)) (lift_int _)) lift_nil)) h_Ltake_2) (lift_name (vs:=[2]) 2 (by decide)))
  (lift_seq (lift_asg (lift_callP0 (lift_cons (lift_v 0) (lift_cons (lift_op rl_addP (lift_cb rl_len (lift_cons (lift_v 1) lift_nil)) (lift_int _)) lift_nil)) h_Ltake_2) (lift_name (vs:=[3]) 3 (by decide)))
  (lift_seq (lift_asg (lift_callP0 (lift_cons (lift_v 0) (lift_cons (lift_int _) lift_nil)) h_Ltake_2) (lift_name (vs:=[4]) 4 (by decide)))
  (lift_seq (lift_ifs (lift_tst (lift_op rl_eqP (lift_v 4) (lift_int _))) (lift_ret (lift_op rl_addP (lift_sl rl_slP (lift_v 1) lift_po0 (lift_po (lift_v 2))) (lift_sl rl_slP (lift_v 1) (lift_po (lift_op rl_addP (lift_v 2) (lift_int _))) lift_po0))) lift_next)
  (lift_seq (lift_ifs (lift_tst (lift_op rl_eqP (lift_v 4) (lift_int _))) (lift_ret (lift_op rl_addP (lift_op rl_addP (lift_sl rl_slP (lift_v 1) lift_po0 (lift_po (lift_v 2))) (lift_op rl_ixP (lift_str _) (lift_callP0 (lift_cons (lift_v 0) (lift_cons (lift_int _) lift_nil)) h_Ltake_2))) (lift_sl rl_slP (lift_v 1) (lift_po (lift_v 2)) lift_po0))) lift_next)
  (lift_seq (lift_ifs (lift_tst (lift_op rl_eqP (lift_v 4) (lift_int _))) (lift_ret (lift_op rl_addP (lift_sl rl_slP (lift_v 1) lift_po0 (lift_po (lift_cb rl_max2 (lift_cons (lift_v 2) (lift_cons (lift_v 3) lift_nil))))) (lift_sl rl_slP (lift_v 1) (lift_po (lift_cb rl_min2 (lift_cons (lift_v 2) (lift_cons (lift_v 3) lift_nil)))) lift_po0))) lift_next)
  (lift_seq (lift_ifs (lift_tst (lift_op rl_eqP (lift_v 4) (lift_int _))) (lift_ret (lift_replI (lift_v 1) (lift_callP0 (lift_cons (lift_v 0) (lift_cons (lift_int _) lift_nil)) h_Ltake_2))) lift_next)
  (lift_seq (lift_ifs (lift_tst (lift_op rl_eqP (lift_v 4) (lift_int _))) (lift_ret (lift_op rl_ixP (lift_lst (lift_cons (lift_op rl_addP (lift_op rl_addP (lift_str _) (lift_v 1)) (lift_str _)) (lift_cons (lift_op rl_addP (lift_v 1) (lift_str _)) (lift_cons (lift_op rl_addP (lift_str _) (lift_v 1)) (lift_cons (lift_op rl_addP (lift_v 1) (lift_str _)) (lift_cons (lift_op rl_addP (lift_str _) (lift_v 1)) (lift_cons (lift_op rl_addP (lift_str _) (lift_v 1)) lift_nil))))))) (lift_callP0 (lift_cons (lift_v 0) (lift_cons (lift_int _) lift_nil)) h_Ltake_2))) lift_next)
  (lift_seq (lift_ifs (lift_tst (lift_op rl_eqP (lift_v 4) (lift_int _))) (lift_ret (lift_replI (lift_v 1) (lift_callP0 (lift_cons (lift_v 0) (lift_cons (lift_int _) lift_nil)) h_Ltake_2))) lift_next)
  (lift_seq (lift_ifs (lift_tst (lift_op rl_eqP (lift_v 4) (lift_int _))) (lift_ret (lift_op rl_ixP (lift_lst (lift_cons (lift_str _) (lift_cons (lift_str _) (lift_cons (lift_str _) (lift_cons (lift_str _) (lift_cons (lift_str _) (lift_cons (lift_str _) (lift_cons (lift_op rl_repS (lift_str _) (lift_int _)) (lift_cons (lift_op rl_repS (lift_str _) (lift_int _)) lift_nil))))))))) (lift_callP0 (lift_cons (lift_v 0) (lift_cons (lift_int _) lift_nil)) h_Ltake_2))) lift_next)
  (lift_ret (lift_v 1))))))))))))) (fun p ds Q3 X _ hf=>by rw [Lbent_def] at hf;exact hf)
abbrev QL:Str:=("law"++".<locals>.":Str)++"<lambda>"
set_option maxHeartbeats 8000000 in
theorem ok_law (T:Top w K mg) (base:Heap) (hp:Plain (csOf w K mg)) {f cL PL fw:Addr} {kV doc pm ct oc:Value} {an od:Option Addr} {osl:Array (Option Value)} {dVw kVw docw pmw cdw ctw ocw:Value} {anw odw:Option Addr} {oslw:Array (Option Value)}
 (lk:K.lookup f=some ⟨oc,od,.func (PySem.W.fnOf "law" "law" (defArgs s_law) (defBody s_law) (defScope s_law) .none kV doc pm an (.ref cL) ct),osl⟩) (hcd:PySem.W.codeIn K (.ref cL) "law"=true) (TB:LamX.TabB base mg cL PL)
 (m_why:mg "_law_why"=some (.ref fw)) (k_why:PySem.W.keepIn K (.ref fw)=true) (l_why:K.lookup fw=some ⟨ocw,odw,.func (PySem.W.fnOf "_law_why" "_law_why" (defArgs s_Lwhy) (defBody s_Lwhy) (defScope s_Lwhy) dVw kVw docw pmw anw cdw ctw),oslw⟩) (cc_why:PySem.W.codeIn K cdw "_law_why"=true)
 (b_why:L2.Binds K (PySem.W.fnOf "_law_why" "_law_why" (defArgs s_Lwhy) (defBody s_Lwhy) (defScope s_Lwhy) dVw kVw docw pmw anw cdw ctw) ["_law_act"] []):FnOk P w K mg base CX0 25 f (PySem.W.fnOf "law" "law" (defArgs s_law) (defBody s_law) (defScope s_law) .none kV doc pm an (.ref cL) ct) ["_law_script"] (spLawT K PL):=by
 obtain ⟨v_Lbent_2,h_Lbent_2,c_Lbent_2⟩:=((ok_Lbent T base (P:=P) (w:=w)).cl (fun _ _ _ _ _ _ us hl=>match us,hl with | [_,_],_=>rfl)).ex
 obtain ⟨v_Lnames_2,h_Lnames_2,c_Lnames_2⟩:=((ok_Lnames T base (P:=P) (w:=w)).cl (fun _ _ _ _ _ _ us hl=>match us,hl with | [_,_],_=>rfl)).ex
 obtain ⟨v_Lread_3,h_Lread_3,c_Lread_3⟩:=((ok_Lread T base (P:=P) (w:=w) 12).cl (fun _ _ _ _ _ _ us hl=>match us,hl with | [_,_,_],_=>rfl)).ex
 obtain ⟨v_Lsame_2,h_Lsame_2,c_Lsame_2⟩:=((ok_Lsame T base (P:=P) (w:=w) 12).cl (fun _ _ _ _ _ _ us hl=>match us,hl with | [_,_],_=>rfl)).ex
 have c_Ltake_2:=cl_take T base (P:=P) (w:=w)
 have h_Ltake_2:∀H,RepL K H [] []:=fun _=>.nil
 obtain ⟨v_Ltruth_4,h_Ltruth_4,c_Ltruth_4⟩:=((ok_Lvalue T base (P:=P) (w:=w) 12).2.cl (fun _ _ _ _ _ _ us hl=>match us,hl with | [_,_,_,_],_=>rfl)).ex
 obtain ⟨v_Lvalue_4,h_Lvalue_4,c_Lvalue_4⟩:=((ok_Lvalue T base (P:=P) (w:=w) 12).1.cl (fun _ _ _ _ _ _ us hl=>match us,hl with | [_,_,_,_],_=>rfl)).ex
 obtain ⟨v_Lwritten_1,h_Lwritten_1,c_Lwritten_1⟩:=((ok_Lwritten T base (P:=P) (w:=w) 12).cl (fun _ _ _ _ _ _ us hl=>match us,hl with | [_],_=>rfl)).ex
 obtain ⟨v_read_truth_1,h_read_truth_1,c_read_truth_1⟩:=((ok_read_truth T base (P:=P) (w:=w)).cl (fun _ _ _ _ _ _ us hl=>match us,hl with | [_],_=>rfl)).ex
 obtain ⟨v_read_value_1,h_read_value_1,c_read_value_1⟩:=((ok_read_value T base (P:=P) (w:=w)).cl (fun _ _ _ _ _ _ us hl=>match us,hl with | [_],_=>rfl)).ex
 refine fn_of lk hcd sc_law (fun vs H Q E h=> ?_) (fun A outer s H vs Q E hr h=> ?_)
 · obtain ⟨a,ns,rfl,_⟩:=h
   rfl
 obtain ⟨a,ns,rfl,hS,hPL,hQ⟩:=h
 obtain ⟨Ts,eTs⟩:∃Ts:List (Addr×Str),Ts=[(PL,QL)]:=⟨_,rfl⟩
 have hmT:(PL,QL)∈Ts:=by rw [eTs];exact List.mem_cons_self ..
 have hu:∀p∈Ts,p.1=PL→p.2=QL:=fun p hp _=>by
  rw [eTs] at hp
  cases List.mem_singleton.mp hp
  rfl
 have hcode:(PyProof.Rows.envOfC "law" (defScope s_law) s.heap.objs.size f (Value.ref cL)).code=Value.ref cL:=rfl
 refine ⟨_,(pss_cons (X:=(cxOf CX0 P w K mg base N_law "law" (defScope s_law) f (Value.ref cL) A outer s H E).nox) (ps_set (i:=1) sc_law.nd rfl (Or.inl rfl) (pe_cl (cl_pot T base) (hr.mono (by omega)) (by rfl) pass0 (pa_cons (pv 0) pa_nil))) (pss_cons (ps_set (i:=2) sc_law.nd rfl (Or.inl rfl) (pe_cl c_Lnames_2 (hr.mono (by omega)) (by rfl) passL (pa_cons (pv 1) (pa_cons pe_int pa_nil))))
  (pss_cons (ps_for PassesOwn.never (by rfl) (pi_range1 (by rfl) T.zb_range (pa_cons pe_int pa_nil)) (pg_name (i:=3) sc_law.nd rfl (Or.inl rfl))
  (pss_cons (ps_set (i:=4) sc_law.nd rfl (Or.inl rfl) (pe_cl c_Lvalue_4 (hr.mono (by omega)) (by rfl) passL (pa_cons (pv 1) (pa_cons (pe_op (op_addP (K:=K) rfl) pe_int (pe_cl c_Ltake_2 (hr.mono (by omega)) (by rfl) pass0 (pa_cons (pv 1) (pa_cons pe_int pa_nil)))) (pa_cons (pv 2) (pa_cons (pv 2) pa_nil))))))
  (pss_cons (ps_if (pt_cmpR (op_eqP (K:=K) rfl hr.units) (pe_cl c_Ltake_2 (hr.mono (by omega)) (by rfl) pass0 (pa_cons (pv 1) (pa_cons pe_int pa_nil))) pe_int (nomark _)) (pss_one (ps_set (i:=4) sc_law.nd rfl (Or.inl rfl) (pe_cl c_Ltruth_4 (hr.mono (by omega)) (by rfl) passL (pa_cons (pv 1) (pa_cons (pe_op (op_addP (K:=K) rfl) pe_int (pe_cl c_Ltake_2 (hr.mono (by omega)) (by rfl) pass0 (pa_cons (pv 1) (pa_cons pe_int pa_nil)))) (pa_cons (pv 2) (pa_cons (pv 2) pa_nil))))))) pss_nil)
  (pss_cons (ps_set (i:=5) sc_law.nd rfl (Or.inr rfl) (pe_cl c_Lwritten_1 (hr.mono (by omega)) (by rfl) passL (pa_cons (pv 4) pa_nil)))
  (pss_cons (ps_for PassesOwn.never (by rfl) (pi_range1 (by rfl) T.zb_range (pa_cons (pe_ix (ix_P (K:=K) rfl) (pe_lst (pa_cons pe_int (pa_cons pe_int (pa_cons (pe_cl c_Ltake_2 (hr.mono (by omega)) (by rfl) pass0 (pa_cons (pv 1) (pa_cons pe_int pa_nil))) pa_nil)))) (pe_cl c_Ltake_2 (hr.mono (by omega)) (by rfl) pass0 (pa_cons (pv 1) (pa_cons pe_int pa_nil))) (fun _ _=>rfl)) pa_nil)) (pg_name (i:=6) sc_law.nd rfl (Or.inl rfl))
  (pss_one (ps_set (i:=5) sc_law.nd rfl (Or.inr rfl) (pe_ifExp (pt_cmpR (op_gtP (K:=K) rfl hr.units) (pe_cl c_Ltake_2 (hr.mono (by omega)) (by rfl) pass0 (pa_cons (pv 1) (pa_cons pe_int pa_nil))) pe_int (nomark _)) (pe_op (op_addP (K:=K) rfl) (pe_op (op_addP (K:=K) rfl) pe_str (pv 5)) pe_str) (pe_op (op_addP (K:=K) rfl) (pe_op (op_addP (K:=K) rfl) pe_str (pv 5)) pe_str)))))
  (pss_cons (ps_for PassesOwn.never (by rfl) (pi_range1 (by rfl) T.zb_range (pa_cons (pe_cl c_Ltake_2 (hr.mono (by omega)) (by rfl) pass0 (pa_cons (pv 1) (pa_cons pe_int pa_nil))) pa_nil)) (pg_name (i:=7) sc_law.nd rfl (Or.inl rfl))
  (pss_one (ps_set (i:=5) sc_law.nd rfl (Or.inr rfl) (pe_cl c_Lbent_2 (hr.mono (by omega)) (by rfl) passL (pa_cons (pv 1) (pa_cons (pv 5) pa_nil))))))
  (pss_cons (ps_set (i:=8) sc_law.nd rfl (Or.inl rfl) (pe_lst (pa_cons (pe_cl c_Lread_3 (hr.mono (by omega)) (by rfl) passL (pa_cons (pv 5) (pa_cons pe_str (pa_cons pe_int pa_nil)))) (pa_cons (pe_cl c_Lread_3 (hr.mono (by omega)) (by rfl) passL (pa_cons (pv 5) (pa_cons pe_str (pa_cons pe_int pa_nil)))) pa_nil))))
  (pss_cons (ps_setLc (i:=9) (own:=[("_law_one",11)]) (g:=(gName 11)) (by rfl) sc_law.nd rfl rfl (sw_true rfl rfl rfl (by decide +kernel)) (pi_P (K:=K) rfl (pv 8)) (blkOk_by (own:=[("_law_one",11)]) (N:=N_law) (sc:=defScope s_law) (by decide +kernel)) (fun _ _ _ _ _=>(pg_name (i:=11) sc_law.nd rfl (Or.inl rfl) (Or.inr rfl))) (fun _ _ _ _ _=>pts_nil) (fun _ _ _ _ _=>(pe_ifExp (pt_cmpR op_isN (pv 11) pe_non (nomark _)) (M3.pe_tup (pa_cons pe_str (pa_cons pe_int pa_nil))) (M3.pe_tup (pa_cons pe_str pa_nil)))))
  (pss_cons (ps_set (i:=10) sc_law.nd rfl (Or.inl rfl) (pe_lst (pa_cons (LamX.pe_lamcall (T:=Ts) (TT:=TTwhyF K 2 (whyT (csOf w K mg)) "none") (k:=22) (by rfl) m_why k_why l_why cc_why b_why sc_Lwhy rfl (Or.inl rfl) (why_givesF (fun s H=>(HdsM.as (i:=1) sc_Lwhy.nd rfl rfl ⟨by rfl,by decide,.inl T.g_BadText⟩ (fun a oe cls d pn hz hf=>pss_one (ps_ret (M3.pe_tup (pa_cons pe_str (pa_cons (pe_xf T.xf_BadText T.nf_BadText_at hz hf (pv 1)) pa_nil))))) (HdsM.bare ⟨by rfl,by decide,.inl T.g_PourError⟩ (fun a oe cls d pn _ _=>pss_one (ps_ret (M3.pe_tup (pa_cons pe_str pa_nil)))) HdsM.nil))) (fun _=>rfl)) TB hcode hmT hu (hr.mono (by omega)) (show LamX.LamS (defScope s_law) _ from LamX.lamS_by (by decide +kernel)) rfl (fun _ _ _ _ _=>rfl) (fun A outer s H E f c' hr=>(pe_cl c_read_value_1 (hr.mono (by omega)) (by rfl) (passes_call (takes_of rfl rfl rfl rfl) (fun _ _ _ _ z=>z)) (pa_cons (pv 5) pa_nil)))) (pa_cons (pe_lamcallD (Ts:=Ts) (TT:=TTwhyF K 2 (whyT (csOf w K mg)) "none") (k:=22) (by rfl) m_why k_why l_why cc_why b_why sc_Lwhy rfl (Or.inl rfl) (why_givesF (fun s H=>(HdsM.as (i:=1) sc_Lwhy.nd rfl rfl ⟨by rfl,by decide,.inl T.g_BadText⟩ (fun a oe cls d pn hz hf=>pss_one (ps_ret (M3.pe_tup (pa_cons pe_str (pa_cons (pe_xf T.xf_BadText T.nf_BadText_at hz hf (pv 1)) pa_nil))))) (HdsM.bare ⟨by rfl,by decide,.inl T.g_PourError⟩ (fun a oe cls d pn _ _=>pss_one (ps_ret (M3.pe_tup (pa_cons pe_str pa_nil)))) HdsM.nil))) (fun _=>rfl)) TB hcode hmT hu (hr.mono (by omega)) (show LamD N_law (defScope s_law) _ "_law_a" from lamD_by (by decide +kernel)) rfl rfl pe_int (fun q cl doc pm cv ctv u t s' h=>BindsTo.of_defaults rfl h rfl rfl rfl) (fun A outer s H E f c' hr=>(pe_cl c_read_truth_1 (hr.mono (by omega)) (by rfl) (passes_call (takes_of rfl rfl rfl rfl) (fun _ _ _ _ z=>z)) (pa_cons (pv 5) pa_nil)))) pa_nil))))
  (pss_cons (ps_if (pt_not (pt_val (pe_cl c_Lsame_2 (hr.mono (by omega)) (by rfl) passL (pa_cons (pv 10) (pa_cons (pv 9) pa_nil))))) (pss_one (ps_ret pe_bl)) pss_nil)
  (pss_cons (ps_if (PW.pt (pw_and (pt_cmpR op_notN (pe_ix (ix_P (K:=K) rfl) (pv 8) pe_int (fun _ _=>rfl)) pe_non (nomark _)) (pw_and1 (pt_not (pt_val (pe_cl c_Lsame_2 (hr.mono (by omega)) (by rfl) passL (pa_cons (pe_cl c_read_value_1 (hr.mono (by omega)) (by rfl) passL (pa_cons (pv 5) pa_nil)) (pa_cons (pe_ix (ix_P (K:=K) rfl) (pv 8) pe_int (fun _ _=>rfl)) pa_nil)))))))) (pss_one (ps_ret pe_bl)) pss_nil)
  (pss_one (ps_if (PW.pt (pw_and (pt_cmpR op_notN (pe_ix (ix_P (K:=K) rfl) (pv 8) pe_int (fun _ _=>rfl)) pe_non (nomark _)) (pw_and1 (pt_not (pt_val (pe_cl c_Lsame_2 (hr.mono (by omega)) (by rfl) passL (pa_cons (pe_cl c_read_truth_1 (hr.mono (by omega)) (by rfl) passL (pa_cons (pv 5) pa_nil)) (pa_cons (pe_ix (ix_P (K:=K) rfl) (pv 8) pe_int (fun _ _=>rfl)) pa_nil)))))))) (pss_one (ps_ret pe_bl)) pss_nil)))))))))))))
  (pss_one (ps_ret pe_bl))))).nox, ?_⟩
 refine ⟨_,rfl,a,ns,rfl,hS,fun p cc H1 hp0 hc0 hpt hH=> ?_⟩
 subst eTs
 exact law_restT (x:=lawB (csOf w K mg) p) (W:=fun _ _ _ _=>False) 10 (lift_seq (lift_asg (lift_callP0 (lift_cons (lift_v 1) (lift_cons (lift_int _) lift_nil)) h_Lnames_2) (lift_name (vs:=[2]) 2 (by decide)))
  (lift_seq (lift_for (vs:=[3]) (lift_iR (lift_cons (lift_int _) lift_nil)) (lift_name 3 (by decide))
  (lift_seq (lift_asg (lift_callP0 (lift_cons (lift_v 1) (lift_cons (lift_op rl_addP (lift_int _) (lift_callP0 (lift_cons (lift_v 1) (lift_cons (lift_int _) lift_nil)) h_Ltake_2)) (lift_cons (lift_v 2) (lift_cons (lift_v 2) lift_nil)))) h_Lvalue_4) (lift_name (vs:=[4]) 4 (by decide)))
  (lift_seq (lift_ifs (lift_tst (lift_op rl_eqP (lift_callP0 (lift_cons (lift_v 1) (lift_cons (lift_int _) lift_nil)) h_Ltake_2) (lift_int _))) (lift_asg (lift_callP0 (lift_cons (lift_v 1) (lift_cons (lift_op rl_addP (lift_int _) (lift_callP0 (lift_cons (lift_v 1) (lift_cons (lift_int _) lift_nil)) h_Ltake_2)) (lift_cons (lift_v 2) (lift_cons (lift_v 2) lift_nil)))) h_Ltruth_4) (lift_name (vs:=[4]) 4 (by decide))) lift_next)
  (lift_seq (lift_asg (lift_call0 (lift_cons (lift_v 4) lift_nil) h_Lwritten_1) (lift_name (vs:=[5]) 5 (by decide)))
  (lift_seq (lift_for (vs:=[6]) (lift_iR (lift_cons (lift_op rl_ixP (lift_lst (lift_cons (lift_int _) (lift_cons (lift_int _) (lift_cons (lift_callP0 (lift_cons (lift_v 1) (lift_cons (lift_int _) lift_nil)) h_Ltake_2) lift_nil)))) (lift_callP0 (lift_cons (lift_v 1) (lift_cons (lift_int _) lift_nil)) h_Ltake_2)) lift_nil)) (lift_name 6 (by decide))
  (lift_asg (lift_if (lift_tst (lift_op rl_gtP (lift_callP0 (lift_cons (lift_v 1) (lift_cons (lift_int _) lift_nil)) h_Ltake_2) (lift_int _))) (lift_op rl_addP (lift_op rl_addP (lift_str _) (lift_v 5)) (lift_str _)) (lift_op rl_addP (lift_op rl_addP (lift_str _) (lift_v 5)) (lift_str _))) (lift_name (vs:=[5]) 5 (by decide))))
  (lift_seq (lift_for (vs:=[7]) (lift_iR (lift_cons (lift_callP0 (lift_cons (lift_v 1) (lift_cons (lift_int _) lift_nil)) h_Ltake_2) lift_nil)) (lift_name 7 (by decide))
  (lift_asg (lift_callP0 (lift_cons (lift_v 1) (lift_cons (lift_v 5) lift_nil)) h_Lbent_2) (lift_name (vs:=[5]) 5 (by decide))))
  (lift_seq (lift_asg (lift_lst (lift_cons (lift_call0 (lift_cons (lift_v 5) (lift_cons (lift_str _) (lift_cons (lift_int _) lift_nil))) h_Lread_3) (lift_cons (lift_call0 (lift_cons (lift_v 5) (lift_cons (lift_str _) (lift_cons (lift_int _) lift_nil))) h_Lread_3) lift_nil))) (lift_name (vs:=[8]) 8 (by decide)))
  (lift_seq (lift_asg (lift_lc (vs:=[11]) (lift_iP (lift_v 8)) (lift_name 11 (by decide)) lift_yes (lift_if (lift_tst (lift_op rl_isN (lift_v 11) lift_non)) (lift_tup (lift_cons (lift_str _) (lift_cons (lift_int _) lift_nil))) (lift_tup (lift_cons (lift_str _) lift_nil))) (fun _ _ _ _ _ z=>z)) (lift_name (vs:=[9]) 9 (by decide)))
  (lift_seq (lift_asg (lift_lst (lift_cons (lift_lam5 (l:=(whyT (csOf w K mg))) (s0:="none") (n:=2) (.inl (by decide)) (fun E=>(lift_call (fun cls dd _ H (z:E cls dd H)=>z) (lift_cons (lift_v 5) lift_nil) h_read_value_1))) (lift_cons (lift_lam5 (l:=(whyT (csOf w K mg))) (s0:="none") (n:=2) (.inl (by decide)) (fun E=>(lift_call (fun cls dd _ H (z:E cls dd H)=>z) (lift_cons (lift_v 5) lift_nil) h_read_truth_1))) lift_nil))) (lift_name (vs:=[10]) 10 (by decide)))
  (lift_seq (lift_ifs (lift_not (lift_tB (lift_call0 (lift_cons (lift_v 10) (lift_cons (lift_v 9) lift_nil)) h_Lsame_2))) (lift_ret (lift_bl _)) lift_next)
  (lift_seq (lift_ifs (lift_and (lift_tst (lift_op rl_notN (lift_op rl_ixP (lift_v 8) (lift_int _)) lift_non)) (lift_not (lift_tB (lift_call0 (lift_cons (lift_call0 (lift_cons (lift_v 5) lift_nil) h_read_value_1) (lift_cons (lift_op rl_ixP (lift_v 8) (lift_int _)) lift_nil)) h_Lsame_2)))) (lift_ret (lift_bl _)) lift_next)
  (lift_ifs (lift_and (lift_tst (lift_op rl_notN (lift_op rl_ixP (lift_v 8) (lift_int _)) lift_non)) (lift_not (lift_tB (lift_call0 (lift_cons (lift_call0 (lift_cons (lift_v 5) lift_nil) h_read_truth_1) (lift_cons (lift_op rl_ixP (lift_v 8) (lift_int _)) lift_nil)) h_Lsame_2)))) (lift_ret (lift_bl _)) lift_next))))))))))))
  (lift_ret (lift_bl _)))) hpt (fun q hq=>by cases List.mem_singleton.mp hq;exact LamX.TabS.nil (hH _ _ hPL)) hQ (hp p)
end
end Law
namespace Law
open PySem L2 M3
theorem comp_map {i:Nat} {te:E3} {σ:List Sl} {X:X3} {h:T→T} {Q:List T→Prop}:∀(ds acc:List T),(∀d∈ds,∀Q':T→Prop,te (σ.set i (.val d)) Q' X=Q' (h d))→acc.length+ds.length≤100000→comp3 (name3 i) yes3 te σ X Q ds acc=Q (acc++ds.map h)
 | [],acc,_,_=>by simp [comp3]
 | d::ds,acc,hd,hl=>by
   have e1:=hd d (List.mem_cons_self ..)
   have e2:=comp_map (i:=i) (te:=te) (σ:=σ) (X:=X) (h:=h) (Q:=Q) ds (acc++[h d]) (fun x hx=>hd x (List.mem_cons_of_mem _ hx)) (by simp at hl ⊢;omega)
   have e3:acc.length<sizeLine:=by
    have:sizeLine=16777216:=by decide
    simp at hl;omega
   show (te (σ.set i (.val d)) (fun y=>acc.length<sizeLine∧comp3 (name3 i) yes3 te σ X Q ds (acc++[y])) X)=_
   rw [e1,e2]
   simp [e3]
@[simp] theorem at_0 (x:T) (xs:List T):atI (x::xs) 0=some x:=atI_nat (j:=0) rfl
@[simp] theorem at_1 (x y:T) (xs:List T):atI (x::y::xs) 1=some y:=atI_nat (j:=1) rfl
@[simp] theorem at_2 (x y z:T) (xs:List T):atI (x::y::z::xs) 2=some z:=atI_nat (j:=2) rfl
@[simp] theorem at_3 (x y z u:T) (xs:List T):atI (x::y::z::u::xs) 3=some u:=atI_nat (j:=3) rfl
mutual
def sameT:T→T→Bool
 | f,.non=>isNon f
 | f,.bl b=>match f with | .bl a=>decide (a=b) | _=>false
 | f,.int j=>match f with | .int i=>decide (i=j) | _=>false
 | f,.str y=>match f with | .str x=>decide (x=y) | _=>false
 | f,.lst ys=>match f with | .lst xs=>sameL xs ys | _=>false
 | f,.tup ys=>match f with | .tup xs=>sameL xs ys | _=>false
 | _,_=>false
def sameL:List T→List T→Bool
 | [],[]=>true
 | x::xs,y::ys=>sameT x y&&sameL xs ys
 | _,_=>false
end
mutual
def plain:T→Bool
 | .non=>true
 | .bl _=>true
 | .int _=>true
 | .str _=>true
 | .lst xs=>decide (xs.length<100000)&&plainL xs
 | .tup xs=>decide (xs.length<100000)&&plainL xs
 | _=>false
def plainL:List T→Bool
 | []=>true
 | x::xs=>plain x&&plainL xs
end
mutual
def dep:T→Nat
 | .lst xs=>depL xs+1
 | .tup xs=>depL xs+1
 | _=>0
def depL:List T→Nat
 | []=>0
 | x::xs=>max (dep x) (depL xs)
end
@[simp] theorem plain_non:plain .non=true:=by simp [plain]
@[simp] theorem plain_bl (b:Bool):plain (.bl b)=true:=by simp [plain]
@[simp] theorem plain_int (b:Int):plain (.int b)=true:=by simp [plain]
@[simp] theorem plain_str (b:Str):plain (.str b)=true:=by simp [plain]
@[simp] theorem plain_lst (b:List T):plain (.lst b)=(decide (b.length<100000)&&plainL b):=by simp [plain]
@[simp] theorem plain_tup (b:List T):plain (.tup b)=(decide (b.length<100000)&&plainL b):=by simp [plain]
@[simp] theorem plainL_nil:plainL []=true:=by simp [plainL]
@[simp] theorem plainL_cons (x:T) (xs:List T):plainL (x::xs)=(plain x&&plainL xs):=by simp [plainL]
@[simp] theorem dep_non:dep .non=0:=by simp [dep]
@[simp] theorem dep_bl (b:Bool):dep (.bl b)=0:=by simp [dep]
@[simp] theorem dep_int (b:Int):dep (.int b)=0:=by simp [dep]
@[simp] theorem dep_str (b:Str):dep (.str b)=0:=by simp [dep]
@[simp] theorem dep_lst (b:List T):dep (.lst b)=depL b+1:=by simp [dep]
@[simp] theorem dep_tup (b:List T):dep (.tup b)=depL b+1:=by simp [dep]
@[simp] theorem depL_nil:depL []=0:=by simp [depL]
@[simp] theorem depL_cons (x:T) (xs:List T):depL (x::xs)=max (dep x) (depL xs):=by simp [depL]
@[simp] theorem same_bl (a b:Bool):sameT (.bl a) (.bl b)=decide (a=b):=by simp [sameT]
@[simp] theorem same_int (a b:Int):sameT (.int a) (.int b)=decide (a=b):=by simp [sameT]
@[simp] theorem same_str (a b:Str):sameT (.str a) (.str b)=decide (a=b):=by simp [sameT]
@[simp] theorem same_non (a:T):sameT a .non=isNon a:=by simp [sameT]
@[simp] theorem same_lst (a b:List T):sameT (.lst a) (.lst b)=sameL a b:=by simp [sameT]
@[simp] theorem same_tup (a b:List T):sameT (.tup a) (.tup b)=sameL a b:=by simp [sameT]
@[simp] theorem sameL_nil:sameL [] []=true:=by simp [sameL]
@[simp] theorem sameL_cons (x y:T) (xs ys:List T):sameL (x::xs) (y::ys)=(sameT x y&&sameL xs ys):=by simp [sameL]
mutual
theorem sameT_refl:∀t:T,plain t=true→sameT t t=true
 | .non,_=>rfl
 | .bl b,_=>by simp [sameT]
 | .int b,_=>by simp [sameT]
 | .str b,_=>by simp [sameT]
 | .lst xs,h=>by simp only [plain,Bool.and_eq_true] at h;simp only [sameT];exact sameL_refl xs h.2
 | .tup xs,h=>by simp only [plain,Bool.and_eq_true] at h;simp only [sameT];exact sameL_refl xs h.2
 | .ty _,h=>by simp [plain] at h
 | .ref _,h=>by simp [plain] at h
 | .dic _,h=>by simp [plain] at h
 | .ins _ _,h=>by simp [plain] at h
 | .kd _ _,h=>by simp [plain] at h
theorem sameL_refl:∀ts:List T,plainL ts=true→sameL ts ts=true
 | [],_=>rfl
 | t::ts,h=>by
   simp only [plainL,Bool.and_eq_true] at h
   simp only [sameL,Bool.and_eq_true]
   exact ⟨sameT_refl t h.1,sameL_refl ts h.2⟩
end
theorem sameL_len:∀xs ys:List T,sameL xs ys=true→xs.length=ys.length
 | [],[],_=>rfl
 | x::xs,y::ys,h=>by
   simp only [sameL,Bool.and_eq_true] at h
   simp [sameL_len xs ys h.2]
 | [],_::_,h=>by simp [sameL] at h
 | _::_,[],h=>by simp [sameL] at h
def sameBs:List T→List T→List Bool
 | x::xs,y::ys=>sameT x y::sameBs xs ys
 | _,_=>[]
theorem sameBs_all:∀xs ys:List T,xs.length=ys.length→(sameBs xs ys).all id=sameL xs ys
 | [],[],_=>rfl
 | x::xs,y::ys,h=>by
   simp only [sameBs,sameL,List.all_cons,id]
   rw [←sameBs_all xs ys (by simpa using h)]
 | [],_::_,h=>by simp at h
 | _::_,[],h=>by simp at h
abbrev SameOk (r:F3) (n:Nat):Prop:=∀x y Q X,plain x=true→plain y=true→dep y<n→r [x,y] Q X=Q (.bl (sameT x y))
theorem same_comp {r:F3} {n:Nat} (hr:SameOk r n) {a b c d:Sl} {X:X3} {Q:List T→Prop}:∀(xs ys:List T) (acc:List T),plainL xs=true→plainL ys=true→depL ys<n→acc.length+xs.length<sizeLine→xs.length=ys.length→
 comp3 (gtup3 2 (gcons3 (name3 2) (gcons3 (name3 3) gnil3))) yes3 (fn30 2 r (cons3 (v3 2) (cons3 (v3 3) nil3)) []) [a,b,c,d] X Q (pairT xs ys) acc=Q (acc++(sameBs xs ys).map T.bl)
 | [],[],acc,_,_,_,_,_=>by simp [pairT,sameBs,comp3]
 | x::xs,y::ys,acc,h1,h2,h3,h4,h5=>by
   simp only [plainL,Bool.and_eq_true] at h1 h2
   simp only [depL] at h3
   have e1:=hr x y
   have e2:=same_comp hr (a:=a) (b:=b) (c:=c) (d:=d) (X:=X) (Q:=Q) xs ys (acc++[.bl (sameT x y)]) h1.2 h2.2 (by omega) (by simp at h4 ⊢;omega) (by simpa using h5)
   have h6:acc.length<sizeLine:=by simp at h4;omega
   simp [pairT,comp3,gtup3,gcons3,gnil3,name3,yes3,fn30,cons3,nil3,v3,slot,e1 _ _ h1.1 h2.1 (by omega),e2,h6,sameBs]
 | [],_::_,_,_,_,_,_,h=>by simp at h
 | _::_,[],_,_,_,_,_,h=>by simp at h
theorem same_ok (C:Cs):∀n,SameOk (Lsame C n) n
 | 0=>fun x y Q X _ _ h=>by omega
 | n+1=>by
   intro fo du Q X p1 p2 hd
   have ih:=same_ok C n
   rw [Lsame_succ]
   have key:∀(xs ys:List T) (a b c d:Sl) (Q':List T→Prop),plainL xs=true→plainL ys=true→depL ys<n→xs.length<100000→xs.length=ys.length→
    comp3 (gtup3 2 (gcons3 (name3 2) (gcons3 (name3 3) gnil3))) yes3 (fn30 2 (Lsame C n) (cons3 (v3 2) (cons3 (v3 3) nil3)) []) [a,b,c,d] X Q' (pairT xs ys) []=Q' ((sameBs xs ys).map T.bl):=fun xs ys a b c d Q' h1 h2 h3 h4 h5=>by
     rw [same_comp ih xs ys [] h1 h2 h3 (by show 0+xs.length<16777216;omega) h5,List.nil_append]
   have neL:∀xs ys:List T,xs.length≠ys.length→sameL xs ys=false:=fun xs ys h=>by
    cases z:sameL xs ys with
    | false=>rfl
    | true=>exact absurd (sameL_len xs ys z) h
   generalize Lsame C n=r at ih key
   cases du with
   | non=>simp [LsameB,seq3,next3,ret3,ifs3,tst3,or3,not3,andV3,notV3,v3,k3,op3,nil3,cons3,call3,isN3,eqS3,neS3,len3,all3,isi3,start3,slot,flatT,scal,tyn,M3.isNon,lenT,isiB,Option.bind,kbs,eqP,neP,isSeq,sameT]
   | bl b=>cases fo<;>simp [plain] at p1<;>simp [LsameB,seq3,next3,ret3,ifs3,tst3,or3,not3,andV3,notV3,v3,k3,op3,nil3,cons3,call3,isN3,eqS3,neS3,len3,all3,isi3,start3,slot,flatT,scal,tyn,M3.isNon,lenT,isiB,Option.bind,kbs,eqP,neP,isSeq,sameT]
   | int j=>cases fo<;>simp [plain] at p1<;>simp [LsameB,seq3,next3,ret3,ifs3,tst3,or3,not3,andV3,notV3,v3,k3,op3,nil3,cons3,call3,isN3,eqS3,neS3,len3,all3,isi3,start3,slot,flatT,scal,tyn,M3.isNon,lenT,isiB,Option.bind,kbs,eqP,neP,isSeq,sameT]
   | str y=>cases fo<;>simp [plain] at p1<;>simp [LsameB,seq3,next3,ret3,ifs3,tst3,or3,not3,andV3,notV3,v3,k3,op3,nil3,cons3,call3,isN3,eqS3,neS3,len3,all3,isi3,start3,slot,flatT,scal,tyn,M3.isNon,lenT,isiB,Option.bind,kbs,eqP,neP,isSeq,sameT]
   | lst ys=>
     simp only [plain,Bool.and_eq_true,decide_eq_true_eq] at p2
     have hd':depL ys<n:=by simp only [dep] at hd;omega
     cases fo with
     | lst xs=>
       simp only [plain,Bool.and_eq_true,decide_eq_true_eq] at p1
       by_cases hl:xs.length=ys.length
       · simp [LsameB,seq3,next3,ret3,ifs3,tst3,or3,not3,andV3,notV3,v3,k3,op3,nil3,cons3,call3,isN3,eqS3,neS3,len3,all3,isi3,start3,slot,flatT,scal,tyn,M3.isNon,lenT,isiB,Option.bind,kbs,eqP,neP,isSeq,hl,lc3,iterZ3,zipT,noOwn,wipe3,key xs ys _ _ _ _ _ p1.2 p2.2 hd' p1.1 hl,bls_map,sameBs_all xs ys hl]
       · simp [LsameB,seq3,next3,ret3,ifs3,tst3,or3,not3,andV3,notV3,v3,k3,op3,nil3,cons3,call3,isN3,eqS3,neS3,len3,all3,isi3,start3,slot,flatT,scal,tyn,M3.isNon,lenT,isiB,Option.bind,kbs,eqP,neP,isSeq,sameT,hl,neL xs ys hl,Int.ofNat_inj]
     | _=>simp [plain] at p1<;>simp [LsameB,seq3,next3,ret3,ifs3,tst3,or3,not3,andV3,notV3,v3,k3,op3,nil3,cons3,call3,isN3,eqS3,neS3,len3,all3,isi3,start3,slot,flatT,scal,tyn,M3.isNon,lenT,isiB,Option.bind,kbs,eqP,neP,isSeq,sameT]
   | tup ys=>
     simp only [plain,Bool.and_eq_true,decide_eq_true_eq] at p2
     have hd':depL ys<n:=by simp only [dep] at hd;omega
     cases fo with
     | tup xs=>
       simp only [plain,Bool.and_eq_true,decide_eq_true_eq] at p1
       by_cases hl:xs.length=ys.length
       · simp [LsameB,seq3,next3,ret3,ifs3,tst3,or3,not3,andV3,notV3,v3,k3,op3,nil3,cons3,call3,isN3,eqS3,neS3,len3,all3,isi3,start3,slot,flatT,scal,tyn,M3.isNon,lenT,isiB,Option.bind,kbs,eqP,neP,isSeq,hl,lc3,iterZ3,zipT,noOwn,wipe3,key xs ys _ _ _ _ _ p1.2 p2.2 hd' p1.1 hl,bls_map,sameBs_all xs ys hl]
       · simp [LsameB,seq3,next3,ret3,ifs3,tst3,or3,not3,andV3,notV3,v3,k3,op3,nil3,cons3,call3,isN3,eqS3,neS3,len3,all3,isi3,start3,slot,flatT,scal,tyn,M3.isNon,lenT,isiB,Option.bind,kbs,eqP,neP,isSeq,sameT,hl,neL xs ys hl,Int.ofNat_inj]
     | _=>simp [plain] at p1<;>simp [LsameB,seq3,next3,ret3,ifs3,tst3,or3,not3,andV3,notV3,v3,k3,op3,nil3,cons3,call3,isN3,eqS3,neS3,len3,all3,isi3,start3,slot,flatT,scal,tyn,M3.isNon,lenT,isiB,Option.bind,kbs,eqP,neP,isSeq,sameT]
   | _=>simp [plain] at p2
abbrev MOSTi:Int:=999999999999999999999999999999
def isCellTree (t:T):Prop:=t= .non∨∃i:Int,t= .int i∧ -MOSTi≤i∧i≤MOSTi
theorem cell_of (C:Cs) {p:Addr} {Q:T→Prop} {X:X3} (q:∀t,isCellTree t→Q t):Lcell C [.ref p] Q X:=by
 rw [Lcell_def]
 show LcellB C p {nx:=fun _=>Q .non,rt:=Q,xn:=fun _=>X} (start3 3 [.ref p])
 unfold LcellB
 have qi:∀i:Int, -MOSTi≤i→i≤MOSTi→Q (.int i):=fun i a b=>q _ (.inr ⟨i,rfl,a,b⟩)
 have qn:Q .non:=q _ (.inl rfl)
 refine seq_by (fun σ'=>∃r:Int,0≤r∧r<16∧σ'=[Sl.val (.ref p),Sl.val (.int r),Sl.no]) (fun nx hn=> ?_) ?_
 · refine ⟨rfl,rfl,by decide,by decide,fun r h0 h1=>hn _ ⟨r,h0,h1,rfl⟩⟩
 rintro σ' ⟨r,h0,h1,rfl⟩
 refine seq_by (fun σ'=>σ'=[Sl.val (.ref p),Sl.val (.int r),Sl.no]) (fun nx hn=> ?_) ?_
 · have e:=hn _ rfl
   by_cases a:r<2
   · simpa [seq3,next3,ret3,retN3,ifs3,drop3,asg3,name3,tst3,and3,or3,not3,andV3,orV3,notV3,if3,v3,k3,op3,un3,nil3,cons3,call3,tup3,lst3,chain3,fn30,fn3,fnN30,fnN3,fnP30,i2,i2c,i1,isN3,notN3,eqS3,neS3,ixL3,ixT3,len3,all3,any3,abs3,max23,min23,isi3,isB3,truth3,start3,slot,flatT,scal,tyn,M3.isNon,lenT,truT,isiB,Option.bind,take3,kbs,addP,mulP,ixP,slP,eqP,neP,isSeq,iterP,itemsP,no3,part3,sl3,raise3,brk3,cont3,M3.ltP,M3.leP,M3.gtP,M3.geP,a] using qn
   · simpa [seq3,next3,ret3,retN3,ifs3,drop3,asg3,name3,tst3,and3,or3,not3,andV3,orV3,notV3,if3,v3,k3,op3,un3,nil3,cons3,call3,tup3,lst3,chain3,fn30,fn3,fnN30,fnN3,fnP30,i2,i2c,i1,isN3,notN3,eqS3,neS3,ixL3,ixT3,len3,all3,any3,abs3,max23,min23,isi3,isB3,truth3,start3,slot,flatT,scal,tyn,M3.isNon,lenT,truT,isiB,Option.bind,take3,kbs,addP,mulP,ixP,slP,eqP,neP,isSeq,iterP,itemsP,no3,part3,sl3,raise3,brk3,cont3,M3.ltP,M3.leP,M3.gtP,M3.geP,a] using e
 rintro σ' rfl
 refine seq_by (fun σ'=>σ'=[Sl.val (.ref p),Sl.val (.int r),Sl.no]) (fun nx hn=> ?_) ?_
 · have e:=hn _ rfl
   by_cases a:r<15
   · by_cases a3:r<13
     · simp [next3,ret3,ifs3,tst3,if3,v3,k3,op3,nil3,cons3,fnP30,i2,slot,take3,M3.ltP,a,a3]
       intro z z0 z1
       exact qi _ (by simp only [MOSTi];omega) (by simp only [MOSTi];omega)
     · simp [next3,ret3,ifs3,tst3,if3,v3,k3,op3,nil3,cons3,fnP30,i2,slot,take3,M3.ltP,a,a3]
       intro z z0 z1
       exact qi _ (by simp only [MOSTi];omega) (by simp only [MOSTi];omega)
   · simpa [seq3,next3,ret3,retN3,ifs3,drop3,asg3,name3,tst3,and3,or3,not3,andV3,orV3,notV3,if3,v3,k3,op3,un3,nil3,cons3,call3,tup3,lst3,chain3,fn30,fn3,fnN30,fnN3,fnP30,i2,i2c,i1,isN3,notN3,eqS3,neS3,ixL3,ixT3,len3,all3,any3,abs3,max23,min23,isi3,isB3,truth3,start3,slot,flatT,scal,tyn,M3.isNon,lenT,truT,isiB,Option.bind,take3,kbs,addP,mulP,ixP,slP,eqP,neP,isSeq,iterP,itemsP,no3,part3,sl3,raise3,brk3,cont3,M3.ltP,M3.leP,M3.gtP,M3.geP,a] using e
 rintro σ' rfl
 refine seq_by (fun σ'=>σ'=[Sl.val (.ref p),Sl.val (.int r),Sl.val (.int MOSTi)]) (fun nx hn=> ?_) ?_
 · have e:=hn _ rfl
   simpa [seq3,next3,ret3,retN3,ifs3,drop3,asg3,name3,tst3,and3,or3,not3,andV3,orV3,notV3,if3,v3,k3,op3,un3,nil3,cons3,call3,tup3,lst3,chain3,fn30,fn3,fnN30,fnN3,fnP30,i2,i2c,i1,isN3,notN3,eqS3,neS3,ixL3,ixT3,len3,all3,any3,abs3,max23,min23,isi3,isB3,truth3,start3,slot,flatT,scal,tyn,M3.isNon,lenT,truT,isiB,Option.bind,take3,kbs,addP,mulP,ixP,slP,eqP,neP,isSeq,iterP,itemsP,no3,part3,sl3,raise3,brk3,cont3,M3.ltP,M3.leP,M3.gtP,M3.geP,CPow,MOSTi] using e
 rintro σ' rfl
 simp [ret3,v3,k3,op3,un3,nil3,cons3,lst3,fnP30,i2c,i1,slot,take3,addP,ixP,CPow]
 intro z z0 z1
 refine ⟨by decide,by decide,fun y y0 y1=>⟨by decide,draw_all rfl ?_⟩⟩
 intro t ht
 simp at ht
 simp only [MOSTi] at y1
 rcases ht with rfl | rfl | rfl | rfl
 all_goals exact qi _ (by simp only [MOSTi];omega) (by simp only [MOSTi];omega)
def texts (xs:List Str):List T:=xs.map T.str
mutual
def gd (m:Nat):T→Bool
 | .non=>true
 | .bl _=>true
 | .int _=>true
 | .str x=>PyData.strOk x&&decide (x.length≤1000)
 | .tup xs=>decide (xs.length≤m)&&gdL m xs
 | _=>false
def gdL (m:Nat):List T→Bool
 | []=>true
 | x::xs=>gd m x&&gdL m xs
end
@[simp] theorem gd_non {m:Nat}:gd m .non=true:=by simp [gd]
@[simp] theorem gd_bl {m:Nat} (b:Bool):gd m (.bl b)=true:=by simp [gd]
@[simp] theorem gd_int {m:Nat} (b:Int):gd m (.int b)=true:=by simp [gd]
theorem gd_str {m:Nat} (x:Str):gd m (.str x)=(PyData.strOk x&&decide (x.length≤1000)):=by simp [gd]
theorem gd_tup {m:Nat} (xs:List T):gd m (.tup xs)=(decide (xs.length≤m)&&gdL m xs):=by simp [gd]
@[simp] theorem gdL_nil {m:Nat}:gdL m []=true:=by simp [gdL]
@[simp] theorem gdL_cons {m:Nat} (x:T) (xs:List T):gdL m (x::xs)=(gd m x&&gdL m xs):=by simp [gdL]
theorem gdL_mem {m:Nat}:∀ {xs:List T},gdL m xs=true→∀x∈xs,gd m x=true
 | [],_,x,hx=>by cases hx
 | y::ys,h,x,hx=>by
   simp only [gdL_cons,Bool.and_eq_true] at h
   rcases List.mem_cons.mp hx with e | e
   · exact e ▸ h.1
   · exact gdL_mem h.2 x e
theorem gdL_of {m:Nat}:∀ {xs:List T},(∀x∈xs,gd m x=true)→gdL m xs=true
 | [],_=>by simp
 | y::ys,h=>by
   simp only [gdL_cons,Bool.and_eq_true]
   exact ⟨h y (List.mem_cons_self ..),gdL_of fun x hx=>h x (List.mem_cons_of_mem _ hx)⟩
theorem depL_of {k:Nat}:∀ {xs:List T},(∀x∈xs,dep x≤k)→depL xs≤k
 | [],_=>by simp
 | y::ys,h=>by
   rw [depL_cons]
   exact Nat.max_le.mpr ⟨h y (List.mem_cons_self ..),depL_of fun x hx=>h x (List.mem_cons_of_mem _ hx)⟩
mutual
theorem dat_gd {m:Nat}:∀t:T,gd m t=true→∃d,dat t=some d∧d.canLay0=true∧d.depth=dep t
 | .non,_=>⟨.none,rfl,by simp [PyData.canLay0],by simp [PyData.depth]⟩
 | .bl b,_=>⟨.bool b,rfl,by simp [PyData.canLay0],by simp [PyData.depth]⟩
 | .int b,_=>⟨.int b,rfl,by simp [PyData.canLay0],by simp [PyData.depth]⟩
 | .str x,h=>by
   rw [gd_str] at h
   simp only [Bool.and_eq_true] at h
   exact ⟨.str x,rfl,by simpa [PyData.canLay0] using h.1,by simp [PyData.depth]⟩
 | .tup xs,h=>by
   rw [gd_tup] at h
   simp only [Bool.and_eq_true] at h
   obtain ⟨ds,e1,e2,e3⟩:=dats_gd xs h.2
   exact ⟨.tuple ds,by show (dats xs).map PyData.tuple=_;rw [e1];rfl,by simpa [PyData.canLay0] using e2,by simp [PyData.depth,e3]⟩
 | .lst _,h=>by simp [gd] at h
 | .ty _,h=>by simp [gd] at h
 | .ref _,h=>by simp [gd] at h
 | .dic _,h=>by simp [gd] at h
 | .ins _ _,h=>by simp [gd] at h
 | .kd _ _,h=>by simp [gd] at h
theorem dats_gd {m:Nat}:∀ts:List T,gdL m ts=true→∃ds,dats ts=some ds∧PyData.canLayAll0 ds=true∧PyData.depthAll ds=depL ts
 | [],_=>⟨[],rfl,by simp [PyData.canLayAll0],by simp [PyData.depthAll]⟩
 | t::ts,h=>by
   simp only [gdL_cons,Bool.and_eq_true] at h
   obtain ⟨d,e1,e2,e3⟩:=dat_gd t h.1
   obtain ⟨ds,e4,e5,e6⟩:=dats_gd ts h.2
   exact ⟨d::ds,by simp [dats,e1,e4],by simp [PyData.canLayAll0,e2,e5],by simp [PyData.depthAll,e3,e6]⟩
end
theorem shaped_nilL:SeqAt.shaped (.list [])=true:=by decide +kernel
theorem eq_nilL {m:Nat} {xs:List T} (h:gdL m xs=true) (hd:depL xs<64) (Q:T→Prop):eqP (.lst xs) (.lst []) Q=Q (.bl xs.isEmpty):=by
 obtain ⟨ds,e1,e2,e3⟩:=dats_gd xs h
 have d1:dat (.lst xs)=some (.list ds):=by show (dats xs).map PyData.list=_;rw [e1];rfl
 have d2:dat (.lst [])=some (.list []):=rfl
 have s1:SeqAt.shaped (.list ds)=true:=by
  unfold SeqAt.shaped
  have z1:(PyData.list ds).canLay0=true:=by simpa [PyData.canLay0] using e2
  have z2:(PyData.list ds).depth≤64:=by simp [PyData.depth,e3];omega
  simp [z1,z2]
 have e:eqP (.lst xs) (.lst []) Q=eqD3 (.lst xs) (.lst []) Q:=by simp [eqP,isSeq]
 rw [e]
 unfold eqD3
 rw [d1,d2]
 show (SeqAt.shaped _=true∧SeqAt.shaped (.list [])=true∧Q (.bl (PyData.eqv (.list ds) (.list []))))=_
 simp only [s1,shaped_nilL,true_and]
 cases xs with
 | nil=>cases e1;rfl
 | cons x xs=>
   cases ds with
   | nil=>exact absurd e1 (by simp only [dats];intro z;obtain ⟨a,_,z⟩:=Option.bind_eq_some_iff.mp z;obtain ⟨b,_,z⟩:=Option.map_eq_some_iff.mp z;cases z)
   | cons d ds=>rfl
theorem in_texts {neg:Bool} (x:Str) (cs:List Str) (Q:T→Prop):inP neg (.str x) (.tup (texts cs)) Q=Q (.bl (if neg then !decide (x∈cs) else decide (x∈cs))):=by
 have hf:∀cs:List Str,flats (texts cs)=some (cs.map V.str):=by
  intro cs
  induction cs with
  | nil=>rfl
  | cons c cs ih=>
    show (flats (texts cs)).map (V.str c::·)=_
    rw [ih]
    rfl
 have hi:∀cs:List Str,inV (.str x) (cs.map V.str)=decide (x∈cs):=by
  intro cs
  induction cs with
  | nil=>rfl
  | cons c cs ih=>
    show (c==x||inV (.str x) (cs.map V.str))=_
    rw [ih]
    by_cases e:x=c
    · subst e;simp
    · have z:(c==x)=false:=beq_eq_false_iff_ne.mpr fun y=>e y.symm
      rw [z]
      simp [e]
 show ob (flats (texts cs)) _=_
 rw [hf]
 show Q (.bl (if neg then !inV (.str x) (cs.map V.str) else inV (.str x) (cs.map V.str)))=_
 rw [hi]
def tx (m:Nat) (xs:List Str):Prop:=xs.length≤m∧∀x∈xs,x.length≤1000
theorem tx.mono {m n:Nat} {xs:List Str} (h:tx m xs) (l:m≤n):tx n xs:=⟨Nat.le_trans h.1 l,h.2⟩
theorem tx.append {m n:Nat} {xs ys:List Str} (h:tx m xs) (h':tx n ys):tx (m+n) (xs++ys):=⟨by simp only [List.length_append];exact Nat.add_le_add h.1 h'.1,fun x hx=>(List.mem_append.mp hx).elim (h.2 x) (h'.2 x)⟩
theorem mem_cut {α:Type} {xs:List α} {lo hi:Option Int} {x:α} (h:x∈cut xs lo hi):x∈xs:=List.mem_of_mem_drop (List.mem_of_mem_take h)
theorem cut_le {α:Type} {xs:List α} {lo hi:Option Int}:(cut xs lo hi).length≤xs.length:=by
 unfold cut
 simp only [List.length_take,List.length_drop]
 omega
theorem tx.cut {m:Nat} {xs:List Str} (h:tx m xs) (lo hi:Option Int):tx m (M3.cut xs lo hi):=⟨Nat.le_trans cut_le h.1,fun x hx=>h.2 x (mem_cut hx)⟩
abbrev sg (x:Str):Prop:=PyData.strOk x=true
def ofC:Option Int→T
 | none=>.non
 | some i=>.int i
@[simp] theorem ofC_none:ofC none= .non:=rfl
@[simp] theorem ofC_some (i:Int):ofC (some i)= .int i:=rfl
theorem cell_ofC {t:T} (h:isCellTree t):∃a:Option Int,t=ofC a∧∀i,a=some i→ -MOSTi≤i∧i≤MOSTi:=by
 rcases h with rfl | ⟨i,rfl,h1,h2⟩
 · exact ⟨none,rfl,fun i e=>by cases e⟩
 · exact ⟨some i,rfl,fun j e=>by cases e;exact ⟨h1,h2⟩⟩
end Law
namespace Law
open PySem L2 M3
@[simp] theorem ne_cell_old:(Str.ofString "cell"=Str.ofString "old")=False:=eq_false (by decide +kernel)
@[simp] theorem ne_cell_new:(Str.ofString "cell"=Str.ofString "new")=False:=eq_false (by decide +kernel)
@[simp] theorem ne_cell_choose:(Str.ofString "cell"=Str.ofString "choose")=False:=eq_false (by decide +kernel)
@[simp] theorem ne_cell_plus:(Str.ofString "cell"=Str.ofString "plus")=False:=eq_false (by decide +kernel)
@[simp] theorem ne_cell_minus:(Str.ofString "cell"=Str.ofString "minus")=False:=eq_false (by decide +kernel)
@[simp] theorem ne_cell_times:(Str.ofString "cell"=Str.ofString "times")=False:=eq_false (by decide +kernel)
@[simp] theorem ne_cell_least:(Str.ofString "cell"=Str.ofString "least")=False:=eq_false (by decide +kernel)
@[simp] theorem ne_cell_most:(Str.ofString "cell"=Str.ofString "most")=False:=eq_false (by decide +kernel)
@[simp] theorem ne_cell_yes:(Str.ofString "cell"=Str.ofString "yes")=False:=eq_false (by decide +kernel)
@[simp] theorem ne_cell_lacks:(Str.ofString "cell"=Str.ofString "lacks")=False:=eq_false (by decide +kernel)
@[simp] theorem ne_cell_is:(Str.ofString "cell"=Str.ofString "is")=False:=eq_false (by decide +kernel)
@[simp] theorem ne_cell_below:(Str.ofString "cell"=Str.ofString "below")=False:=eq_false (by decide +kernel)
@[simp] theorem ne_cell_not:(Str.ofString "cell"=Str.ofString "not")=False:=eq_false (by decide +kernel)
@[simp] theorem ne_cell_both:(Str.ofString "cell"=Str.ofString "both")=False:=eq_false (by decide +kernel)
@[simp] theorem ne_cell_either:(Str.ofString "cell"=Str.ofString "either")=False:=eq_false (by decide +kernel)
@[simp] theorem ne_cell_none:(Str.ofString "cell"=Str.ofString "none")=False:=eq_false (by decide +kernel)
@[simp] theorem ne_cell_TooGreat:(Str.ofString "cell"=Str.ofString "TooGreat")=False:=eq_false (by decide +kernel)
@[simp] theorem ne_old_cell:(Str.ofString "old"=Str.ofString "cell")=False:=eq_false (by decide +kernel)
@[simp] theorem ne_old_new:(Str.ofString "old"=Str.ofString "new")=False:=eq_false (by decide +kernel)
@[simp] theorem ne_old_choose:(Str.ofString "old"=Str.ofString "choose")=False:=eq_false (by decide +kernel)
@[simp] theorem ne_old_plus:(Str.ofString "old"=Str.ofString "plus")=False:=eq_false (by decide +kernel)
@[simp] theorem ne_old_minus:(Str.ofString "old"=Str.ofString "minus")=False:=eq_false (by decide +kernel)
@[simp] theorem ne_old_times:(Str.ofString "old"=Str.ofString "times")=False:=eq_false (by decide +kernel)
@[simp] theorem ne_old_least:(Str.ofString "old"=Str.ofString "least")=False:=eq_false (by decide +kernel)
@[simp] theorem ne_old_most:(Str.ofString "old"=Str.ofString "most")=False:=eq_false (by decide +kernel)
@[simp] theorem ne_old_yes:(Str.ofString "old"=Str.ofString "yes")=False:=eq_false (by decide +kernel)
@[simp] theorem ne_old_lacks:(Str.ofString "old"=Str.ofString "lacks")=False:=eq_false (by decide +kernel)
@[simp] theorem ne_old_is:(Str.ofString "old"=Str.ofString "is")=False:=eq_false (by decide +kernel)
@[simp] theorem ne_old_below:(Str.ofString "old"=Str.ofString "below")=False:=eq_false (by decide +kernel)
@[simp] theorem ne_old_not:(Str.ofString "old"=Str.ofString "not")=False:=eq_false (by decide +kernel)
@[simp] theorem ne_old_both:(Str.ofString "old"=Str.ofString "both")=False:=eq_false (by decide +kernel)
@[simp] theorem ne_old_either:(Str.ofString "old"=Str.ofString "either")=False:=eq_false (by decide +kernel)
@[simp] theorem ne_old_none:(Str.ofString "old"=Str.ofString "none")=False:=eq_false (by decide +kernel)
@[simp] theorem ne_old_TooGreat:(Str.ofString "old"=Str.ofString "TooGreat")=False:=eq_false (by decide +kernel)
@[simp] theorem ne_new_cell:(Str.ofString "new"=Str.ofString "cell")=False:=eq_false (by decide +kernel)
@[simp] theorem ne_new_old:(Str.ofString "new"=Str.ofString "old")=False:=eq_false (by decide +kernel)
@[simp] theorem ne_new_choose:(Str.ofString "new"=Str.ofString "choose")=False:=eq_false (by decide +kernel)
@[simp] theorem ne_new_plus:(Str.ofString "new"=Str.ofString "plus")=False:=eq_false (by decide +kernel)
@[simp] theorem ne_new_minus:(Str.ofString "new"=Str.ofString "minus")=False:=eq_false (by decide +kernel)
@[simp] theorem ne_new_times:(Str.ofString "new"=Str.ofString "times")=False:=eq_false (by decide +kernel)
@[simp] theorem ne_new_least:(Str.ofString "new"=Str.ofString "least")=False:=eq_false (by decide +kernel)
@[simp] theorem ne_new_most:(Str.ofString "new"=Str.ofString "most")=False:=eq_false (by decide +kernel)
@[simp] theorem ne_new_yes:(Str.ofString "new"=Str.ofString "yes")=False:=eq_false (by decide +kernel)
@[simp] theorem ne_new_lacks:(Str.ofString "new"=Str.ofString "lacks")=False:=eq_false (by decide +kernel)
@[simp] theorem ne_new_is:(Str.ofString "new"=Str.ofString "is")=False:=eq_false (by decide +kernel)
@[simp] theorem ne_new_below:(Str.ofString "new"=Str.ofString "below")=False:=eq_false (by decide +kernel)
@[simp] theorem ne_new_not:(Str.ofString "new"=Str.ofString "not")=False:=eq_false (by decide +kernel)
@[simp] theorem ne_new_both:(Str.ofString "new"=Str.ofString "both")=False:=eq_false (by decide +kernel)
@[simp] theorem ne_new_either:(Str.ofString "new"=Str.ofString "either")=False:=eq_false (by decide +kernel)
@[simp] theorem ne_new_none:(Str.ofString "new"=Str.ofString "none")=False:=eq_false (by decide +kernel)
@[simp] theorem ne_new_TooGreat:(Str.ofString "new"=Str.ofString "TooGreat")=False:=eq_false (by decide +kernel)
@[simp] theorem ne_choose_cell:(Str.ofString "choose"=Str.ofString "cell")=False:=eq_false (by decide +kernel)
@[simp] theorem ne_choose_old:(Str.ofString "choose"=Str.ofString "old")=False:=eq_false (by decide +kernel)
@[simp] theorem ne_choose_new:(Str.ofString "choose"=Str.ofString "new")=False:=eq_false (by decide +kernel)
@[simp] theorem ne_choose_plus:(Str.ofString "choose"=Str.ofString "plus")=False:=eq_false (by decide +kernel)
@[simp] theorem ne_choose_minus:(Str.ofString "choose"=Str.ofString "minus")=False:=eq_false (by decide +kernel)
@[simp] theorem ne_choose_times:(Str.ofString "choose"=Str.ofString "times")=False:=eq_false (by decide +kernel)
@[simp] theorem ne_choose_least:(Str.ofString "choose"=Str.ofString "least")=False:=eq_false (by decide +kernel)
@[simp] theorem ne_choose_most:(Str.ofString "choose"=Str.ofString "most")=False:=eq_false (by decide +kernel)
@[simp] theorem ne_choose_yes:(Str.ofString "choose"=Str.ofString "yes")=False:=eq_false (by decide +kernel)
@[simp] theorem ne_choose_lacks:(Str.ofString "choose"=Str.ofString "lacks")=False:=eq_false (by decide +kernel)
@[simp] theorem ne_choose_is:(Str.ofString "choose"=Str.ofString "is")=False:=eq_false (by decide +kernel)
@[simp] theorem ne_choose_below:(Str.ofString "choose"=Str.ofString "below")=False:=eq_false (by decide +kernel)
@[simp] theorem ne_choose_not:(Str.ofString "choose"=Str.ofString "not")=False:=eq_false (by decide +kernel)
@[simp] theorem ne_choose_both:(Str.ofString "choose"=Str.ofString "both")=False:=eq_false (by decide +kernel)
@[simp] theorem ne_choose_either:(Str.ofString "choose"=Str.ofString "either")=False:=eq_false (by decide +kernel)
@[simp] theorem ne_choose_none:(Str.ofString "choose"=Str.ofString "none")=False:=eq_false (by decide +kernel)
@[simp] theorem ne_choose_TooGreat:(Str.ofString "choose"=Str.ofString "TooGreat")=False:=eq_false (by decide +kernel)
@[simp] theorem ne_plus_cell:(Str.ofString "plus"=Str.ofString "cell")=False:=eq_false (by decide +kernel)
@[simp] theorem ne_plus_old:(Str.ofString "plus"=Str.ofString "old")=False:=eq_false (by decide +kernel)
@[simp] theorem ne_plus_new:(Str.ofString "plus"=Str.ofString "new")=False:=eq_false (by decide +kernel)
@[simp] theorem ne_plus_choose:(Str.ofString "plus"=Str.ofString "choose")=False:=eq_false (by decide +kernel)
@[simp] theorem ne_plus_minus:(Str.ofString "plus"=Str.ofString "minus")=False:=eq_false (by decide +kernel)
@[simp] theorem ne_plus_times:(Str.ofString "plus"=Str.ofString "times")=False:=eq_false (by decide +kernel)
@[simp] theorem ne_plus_least:(Str.ofString "plus"=Str.ofString "least")=False:=eq_false (by decide +kernel)
@[simp] theorem ne_plus_most:(Str.ofString "plus"=Str.ofString "most")=False:=eq_false (by decide +kernel)
@[simp] theorem ne_plus_yes:(Str.ofString "plus"=Str.ofString "yes")=False:=eq_false (by decide +kernel)
@[simp] theorem ne_plus_lacks:(Str.ofString "plus"=Str.ofString "lacks")=False:=eq_false (by decide +kernel)
@[simp] theorem ne_plus_is:(Str.ofString "plus"=Str.ofString "is")=False:=eq_false (by decide +kernel)
@[simp] theorem ne_plus_below:(Str.ofString "plus"=Str.ofString "below")=False:=eq_false (by decide +kernel)
@[simp] theorem ne_plus_not:(Str.ofString "plus"=Str.ofString "not")=False:=eq_false (by decide +kernel)
@[simp] theorem ne_plus_both:(Str.ofString "plus"=Str.ofString "both")=False:=eq_false (by decide +kernel)
@[simp] theorem ne_plus_either:(Str.ofString "plus"=Str.ofString "either")=False:=eq_false (by decide +kernel)
@[simp] theorem ne_plus_none:(Str.ofString "plus"=Str.ofString "none")=False:=eq_false (by decide +kernel)
@[simp] theorem ne_plus_TooGreat:(Str.ofString "plus"=Str.ofString "TooGreat")=False:=eq_false (by decide +kernel)
@[simp] theorem ne_minus_cell:(Str.ofString "minus"=Str.ofString "cell")=False:=eq_false (by decide +kernel)
@[simp] theorem ne_minus_old:(Str.ofString "minus"=Str.ofString "old")=False:=eq_false (by decide +kernel)
@[simp] theorem ne_minus_new:(Str.ofString "minus"=Str.ofString "new")=False:=eq_false (by decide +kernel)
@[simp] theorem ne_minus_choose:(Str.ofString "minus"=Str.ofString "choose")=False:=eq_false (by decide +kernel)
@[simp] theorem ne_minus_plus:(Str.ofString "minus"=Str.ofString "plus")=False:=eq_false (by decide +kernel)
@[simp] theorem ne_minus_times:(Str.ofString "minus"=Str.ofString "times")=False:=eq_false (by decide +kernel)
@[simp] theorem ne_minus_least:(Str.ofString "minus"=Str.ofString "least")=False:=eq_false (by decide +kernel)
@[simp] theorem ne_minus_most:(Str.ofString "minus"=Str.ofString "most")=False:=eq_false (by decide +kernel)
@[simp] theorem ne_minus_yes:(Str.ofString "minus"=Str.ofString "yes")=False:=eq_false (by decide +kernel)
@[simp] theorem ne_minus_lacks:(Str.ofString "minus"=Str.ofString "lacks")=False:=eq_false (by decide +kernel)
@[simp] theorem ne_minus_is:(Str.ofString "minus"=Str.ofString "is")=False:=eq_false (by decide +kernel)
@[simp] theorem ne_minus_below:(Str.ofString "minus"=Str.ofString "below")=False:=eq_false (by decide +kernel)
@[simp] theorem ne_minus_not:(Str.ofString "minus"=Str.ofString "not")=False:=eq_false (by decide +kernel)
@[simp] theorem ne_minus_both:(Str.ofString "minus"=Str.ofString "both")=False:=eq_false (by decide +kernel)
@[simp] theorem ne_minus_either:(Str.ofString "minus"=Str.ofString "either")=False:=eq_false (by decide +kernel)
@[simp] theorem ne_minus_none:(Str.ofString "minus"=Str.ofString "none")=False:=eq_false (by decide +kernel)
@[simp] theorem ne_minus_TooGreat:(Str.ofString "minus"=Str.ofString "TooGreat")=False:=eq_false (by decide +kernel)
@[simp] theorem ne_times_cell:(Str.ofString "times"=Str.ofString "cell")=False:=eq_false (by decide +kernel)
@[simp] theorem ne_times_old:(Str.ofString "times"=Str.ofString "old")=False:=eq_false (by decide +kernel)
@[simp] theorem ne_times_new:(Str.ofString "times"=Str.ofString "new")=False:=eq_false (by decide +kernel)
@[simp] theorem ne_times_choose:(Str.ofString "times"=Str.ofString "choose")=False:=eq_false (by decide +kernel)
@[simp] theorem ne_times_plus:(Str.ofString "times"=Str.ofString "plus")=False:=eq_false (by decide +kernel)
@[simp] theorem ne_times_minus:(Str.ofString "times"=Str.ofString "minus")=False:=eq_false (by decide +kernel)
@[simp] theorem ne_times_least:(Str.ofString "times"=Str.ofString "least")=False:=eq_false (by decide +kernel)
@[simp] theorem ne_times_most:(Str.ofString "times"=Str.ofString "most")=False:=eq_false (by decide +kernel)
@[simp] theorem ne_times_yes:(Str.ofString "times"=Str.ofString "yes")=False:=eq_false (by decide +kernel)
@[simp] theorem ne_times_lacks:(Str.ofString "times"=Str.ofString "lacks")=False:=eq_false (by decide +kernel)
@[simp] theorem ne_times_is:(Str.ofString "times"=Str.ofString "is")=False:=eq_false (by decide +kernel)
@[simp] theorem ne_times_below:(Str.ofString "times"=Str.ofString "below")=False:=eq_false (by decide +kernel)
@[simp] theorem ne_times_not:(Str.ofString "times"=Str.ofString "not")=False:=eq_false (by decide +kernel)
@[simp] theorem ne_times_both:(Str.ofString "times"=Str.ofString "both")=False:=eq_false (by decide +kernel)
@[simp] theorem ne_times_either:(Str.ofString "times"=Str.ofString "either")=False:=eq_false (by decide +kernel)
@[simp] theorem ne_times_none:(Str.ofString "times"=Str.ofString "none")=False:=eq_false (by decide +kernel)
@[simp] theorem ne_times_TooGreat:(Str.ofString "times"=Str.ofString "TooGreat")=False:=eq_false (by decide +kernel)
@[simp] theorem ne_least_cell:(Str.ofString "least"=Str.ofString "cell")=False:=eq_false (by decide +kernel)
@[simp] theorem ne_least_old:(Str.ofString "least"=Str.ofString "old")=False:=eq_false (by decide +kernel)
@[simp] theorem ne_least_new:(Str.ofString "least"=Str.ofString "new")=False:=eq_false (by decide +kernel)
@[simp] theorem ne_least_choose:(Str.ofString "least"=Str.ofString "choose")=False:=eq_false (by decide +kernel)
@[simp] theorem ne_least_plus:(Str.ofString "least"=Str.ofString "plus")=False:=eq_false (by decide +kernel)
@[simp] theorem ne_least_minus:(Str.ofString "least"=Str.ofString "minus")=False:=eq_false (by decide +kernel)
@[simp] theorem ne_least_times:(Str.ofString "least"=Str.ofString "times")=False:=eq_false (by decide +kernel)
@[simp] theorem ne_least_most:(Str.ofString "least"=Str.ofString "most")=False:=eq_false (by decide +kernel)
@[simp] theorem ne_least_yes:(Str.ofString "least"=Str.ofString "yes")=False:=eq_false (by decide +kernel)
@[simp] theorem ne_least_lacks:(Str.ofString "least"=Str.ofString "lacks")=False:=eq_false (by decide +kernel)
@[simp] theorem ne_least_is:(Str.ofString "least"=Str.ofString "is")=False:=eq_false (by decide +kernel)
@[simp] theorem ne_least_below:(Str.ofString "least"=Str.ofString "below")=False:=eq_false (by decide +kernel)
@[simp] theorem ne_least_not:(Str.ofString "least"=Str.ofString "not")=False:=eq_false (by decide +kernel)
@[simp] theorem ne_least_both:(Str.ofString "least"=Str.ofString "both")=False:=eq_false (by decide +kernel)
@[simp] theorem ne_least_either:(Str.ofString "least"=Str.ofString "either")=False:=eq_false (by decide +kernel)
@[simp] theorem ne_least_none:(Str.ofString "least"=Str.ofString "none")=False:=eq_false (by decide +kernel)
@[simp] theorem ne_least_TooGreat:(Str.ofString "least"=Str.ofString "TooGreat")=False:=eq_false (by decide +kernel)
@[simp] theorem ne_most_cell:(Str.ofString "most"=Str.ofString "cell")=False:=eq_false (by decide +kernel)
@[simp] theorem ne_most_old:(Str.ofString "most"=Str.ofString "old")=False:=eq_false (by decide +kernel)
@[simp] theorem ne_most_new:(Str.ofString "most"=Str.ofString "new")=False:=eq_false (by decide +kernel)
@[simp] theorem ne_most_choose:(Str.ofString "most"=Str.ofString "choose")=False:=eq_false (by decide +kernel)
@[simp] theorem ne_most_plus:(Str.ofString "most"=Str.ofString "plus")=False:=eq_false (by decide +kernel)
@[simp] theorem ne_most_minus:(Str.ofString "most"=Str.ofString "minus")=False:=eq_false (by decide +kernel)
@[simp] theorem ne_most_times:(Str.ofString "most"=Str.ofString "times")=False:=eq_false (by decide +kernel)
@[simp] theorem ne_most_least:(Str.ofString "most"=Str.ofString "least")=False:=eq_false (by decide +kernel)
@[simp] theorem ne_most_yes:(Str.ofString "most"=Str.ofString "yes")=False:=eq_false (by decide +kernel)
@[simp] theorem ne_most_lacks:(Str.ofString "most"=Str.ofString "lacks")=False:=eq_false (by decide +kernel)
@[simp] theorem ne_most_is:(Str.ofString "most"=Str.ofString "is")=False:=eq_false (by decide +kernel)
@[simp] theorem ne_most_below:(Str.ofString "most"=Str.ofString "below")=False:=eq_false (by decide +kernel)
@[simp] theorem ne_most_not:(Str.ofString "most"=Str.ofString "not")=False:=eq_false (by decide +kernel)
@[simp] theorem ne_most_both:(Str.ofString "most"=Str.ofString "both")=False:=eq_false (by decide +kernel)
@[simp] theorem ne_most_either:(Str.ofString "most"=Str.ofString "either")=False:=eq_false (by decide +kernel)
@[simp] theorem ne_most_none:(Str.ofString "most"=Str.ofString "none")=False:=eq_false (by decide +kernel)
@[simp] theorem ne_most_TooGreat:(Str.ofString "most"=Str.ofString "TooGreat")=False:=eq_false (by decide +kernel)
@[simp] theorem ne_yes_cell:(Str.ofString "yes"=Str.ofString "cell")=False:=eq_false (by decide +kernel)
@[simp] theorem ne_yes_old:(Str.ofString "yes"=Str.ofString "old")=False:=eq_false (by decide +kernel)
@[simp] theorem ne_yes_new:(Str.ofString "yes"=Str.ofString "new")=False:=eq_false (by decide +kernel)
@[simp] theorem ne_yes_choose:(Str.ofString "yes"=Str.ofString "choose")=False:=eq_false (by decide +kernel)
@[simp] theorem ne_yes_plus:(Str.ofString "yes"=Str.ofString "plus")=False:=eq_false (by decide +kernel)
@[simp] theorem ne_yes_minus:(Str.ofString "yes"=Str.ofString "minus")=False:=eq_false (by decide +kernel)
@[simp] theorem ne_yes_times:(Str.ofString "yes"=Str.ofString "times")=False:=eq_false (by decide +kernel)
@[simp] theorem ne_yes_least:(Str.ofString "yes"=Str.ofString "least")=False:=eq_false (by decide +kernel)
@[simp] theorem ne_yes_most:(Str.ofString "yes"=Str.ofString "most")=False:=eq_false (by decide +kernel)
@[simp] theorem ne_yes_lacks:(Str.ofString "yes"=Str.ofString "lacks")=False:=eq_false (by decide +kernel)
@[simp] theorem ne_yes_is:(Str.ofString "yes"=Str.ofString "is")=False:=eq_false (by decide +kernel)
@[simp] theorem ne_yes_below:(Str.ofString "yes"=Str.ofString "below")=False:=eq_false (by decide +kernel)
@[simp] theorem ne_yes_not:(Str.ofString "yes"=Str.ofString "not")=False:=eq_false (by decide +kernel)
@[simp] theorem ne_yes_both:(Str.ofString "yes"=Str.ofString "both")=False:=eq_false (by decide +kernel)
@[simp] theorem ne_yes_either:(Str.ofString "yes"=Str.ofString "either")=False:=eq_false (by decide +kernel)
@[simp] theorem ne_yes_none:(Str.ofString "yes"=Str.ofString "none")=False:=eq_false (by decide +kernel)
@[simp] theorem ne_yes_TooGreat:(Str.ofString "yes"=Str.ofString "TooGreat")=False:=eq_false (by decide +kernel)
@[simp] theorem ne_lacks_cell:(Str.ofString "lacks"=Str.ofString "cell")=False:=eq_false (by decide +kernel)
@[simp] theorem ne_lacks_old:(Str.ofString "lacks"=Str.ofString "old")=False:=eq_false (by decide +kernel)
@[simp] theorem ne_lacks_new:(Str.ofString "lacks"=Str.ofString "new")=False:=eq_false (by decide +kernel)
@[simp] theorem ne_lacks_choose:(Str.ofString "lacks"=Str.ofString "choose")=False:=eq_false (by decide +kernel)
@[simp] theorem ne_lacks_plus:(Str.ofString "lacks"=Str.ofString "plus")=False:=eq_false (by decide +kernel)
@[simp] theorem ne_lacks_minus:(Str.ofString "lacks"=Str.ofString "minus")=False:=eq_false (by decide +kernel)
@[simp] theorem ne_lacks_times:(Str.ofString "lacks"=Str.ofString "times")=False:=eq_false (by decide +kernel)
@[simp] theorem ne_lacks_least:(Str.ofString "lacks"=Str.ofString "least")=False:=eq_false (by decide +kernel)
@[simp] theorem ne_lacks_most:(Str.ofString "lacks"=Str.ofString "most")=False:=eq_false (by decide +kernel)
@[simp] theorem ne_lacks_yes:(Str.ofString "lacks"=Str.ofString "yes")=False:=eq_false (by decide +kernel)
@[simp] theorem ne_lacks_is:(Str.ofString "lacks"=Str.ofString "is")=False:=eq_false (by decide +kernel)
@[simp] theorem ne_lacks_below:(Str.ofString "lacks"=Str.ofString "below")=False:=eq_false (by decide +kernel)
@[simp] theorem ne_lacks_not:(Str.ofString "lacks"=Str.ofString "not")=False:=eq_false (by decide +kernel)
@[simp] theorem ne_lacks_both:(Str.ofString "lacks"=Str.ofString "both")=False:=eq_false (by decide +kernel)
@[simp] theorem ne_lacks_either:(Str.ofString "lacks"=Str.ofString "either")=False:=eq_false (by decide +kernel)
@[simp] theorem ne_lacks_none:(Str.ofString "lacks"=Str.ofString "none")=False:=eq_false (by decide +kernel)
@[simp] theorem ne_lacks_TooGreat:(Str.ofString "lacks"=Str.ofString "TooGreat")=False:=eq_false (by decide +kernel)
@[simp] theorem ne_is_cell:(Str.ofString "is"=Str.ofString "cell")=False:=eq_false (by decide +kernel)
@[simp] theorem ne_is_old:(Str.ofString "is"=Str.ofString "old")=False:=eq_false (by decide +kernel)
@[simp] theorem ne_is_new:(Str.ofString "is"=Str.ofString "new")=False:=eq_false (by decide +kernel)
@[simp] theorem ne_is_choose:(Str.ofString "is"=Str.ofString "choose")=False:=eq_false (by decide +kernel)
@[simp] theorem ne_is_plus:(Str.ofString "is"=Str.ofString "plus")=False:=eq_false (by decide +kernel)
@[simp] theorem ne_is_minus:(Str.ofString "is"=Str.ofString "minus")=False:=eq_false (by decide +kernel)
@[simp] theorem ne_is_times:(Str.ofString "is"=Str.ofString "times")=False:=eq_false (by decide +kernel)
@[simp] theorem ne_is_least:(Str.ofString "is"=Str.ofString "least")=False:=eq_false (by decide +kernel)
@[simp] theorem ne_is_most:(Str.ofString "is"=Str.ofString "most")=False:=eq_false (by decide +kernel)
@[simp] theorem ne_is_yes:(Str.ofString "is"=Str.ofString "yes")=False:=eq_false (by decide +kernel)
@[simp] theorem ne_is_lacks:(Str.ofString "is"=Str.ofString "lacks")=False:=eq_false (by decide +kernel)
@[simp] theorem ne_is_below:(Str.ofString "is"=Str.ofString "below")=False:=eq_false (by decide +kernel)
@[simp] theorem ne_is_not:(Str.ofString "is"=Str.ofString "not")=False:=eq_false (by decide +kernel)
@[simp] theorem ne_is_both:(Str.ofString "is"=Str.ofString "both")=False:=eq_false (by decide +kernel)
@[simp] theorem ne_is_either:(Str.ofString "is"=Str.ofString "either")=False:=eq_false (by decide +kernel)
@[simp] theorem ne_is_none:(Str.ofString "is"=Str.ofString "none")=False:=eq_false (by decide +kernel)
@[simp] theorem ne_is_TooGreat:(Str.ofString "is"=Str.ofString "TooGreat")=False:=eq_false (by decide +kernel)
@[simp] theorem ne_below_cell:(Str.ofString "below"=Str.ofString "cell")=False:=eq_false (by decide +kernel)
@[simp] theorem ne_below_old:(Str.ofString "below"=Str.ofString "old")=False:=eq_false (by decide +kernel)
@[simp] theorem ne_below_new:(Str.ofString "below"=Str.ofString "new")=False:=eq_false (by decide +kernel)
@[simp] theorem ne_below_choose:(Str.ofString "below"=Str.ofString "choose")=False:=eq_false (by decide +kernel)
@[simp] theorem ne_below_plus:(Str.ofString "below"=Str.ofString "plus")=False:=eq_false (by decide +kernel)
@[simp] theorem ne_below_minus:(Str.ofString "below"=Str.ofString "minus")=False:=eq_false (by decide +kernel)
@[simp] theorem ne_below_times:(Str.ofString "below"=Str.ofString "times")=False:=eq_false (by decide +kernel)
@[simp] theorem ne_below_least:(Str.ofString "below"=Str.ofString "least")=False:=eq_false (by decide +kernel)
@[simp] theorem ne_below_most:(Str.ofString "below"=Str.ofString "most")=False:=eq_false (by decide +kernel)
@[simp] theorem ne_below_yes:(Str.ofString "below"=Str.ofString "yes")=False:=eq_false (by decide +kernel)
@[simp] theorem ne_below_lacks:(Str.ofString "below"=Str.ofString "lacks")=False:=eq_false (by decide +kernel)
@[simp] theorem ne_below_is:(Str.ofString "below"=Str.ofString "is")=False:=eq_false (by decide +kernel)
@[simp] theorem ne_below_not:(Str.ofString "below"=Str.ofString "not")=False:=eq_false (by decide +kernel)
@[simp] theorem ne_below_both:(Str.ofString "below"=Str.ofString "both")=False:=eq_false (by decide +kernel)
@[simp] theorem ne_below_either:(Str.ofString "below"=Str.ofString "either")=False:=eq_false (by decide +kernel)
@[simp] theorem ne_below_none:(Str.ofString "below"=Str.ofString "none")=False:=eq_false (by decide +kernel)
@[simp] theorem ne_below_TooGreat:(Str.ofString "below"=Str.ofString "TooGreat")=False:=eq_false (by decide +kernel)
@[simp] theorem ne_not_cell:(Str.ofString "not"=Str.ofString "cell")=False:=eq_false (by decide +kernel)
@[simp] theorem ne_not_old:(Str.ofString "not"=Str.ofString "old")=False:=eq_false (by decide +kernel)
@[simp] theorem ne_not_new:(Str.ofString "not"=Str.ofString "new")=False:=eq_false (by decide +kernel)
@[simp] theorem ne_not_choose:(Str.ofString "not"=Str.ofString "choose")=False:=eq_false (by decide +kernel)
@[simp] theorem ne_not_plus:(Str.ofString "not"=Str.ofString "plus")=False:=eq_false (by decide +kernel)
@[simp] theorem ne_not_minus:(Str.ofString "not"=Str.ofString "minus")=False:=eq_false (by decide +kernel)
@[simp] theorem ne_not_times:(Str.ofString "not"=Str.ofString "times")=False:=eq_false (by decide +kernel)
@[simp] theorem ne_not_least:(Str.ofString "not"=Str.ofString "least")=False:=eq_false (by decide +kernel)
@[simp] theorem ne_not_most:(Str.ofString "not"=Str.ofString "most")=False:=eq_false (by decide +kernel)
@[simp] theorem ne_not_yes:(Str.ofString "not"=Str.ofString "yes")=False:=eq_false (by decide +kernel)
@[simp] theorem ne_not_lacks:(Str.ofString "not"=Str.ofString "lacks")=False:=eq_false (by decide +kernel)
@[simp] theorem ne_not_is:(Str.ofString "not"=Str.ofString "is")=False:=eq_false (by decide +kernel)
@[simp] theorem ne_not_below:(Str.ofString "not"=Str.ofString "below")=False:=eq_false (by decide +kernel)
@[simp] theorem ne_not_both:(Str.ofString "not"=Str.ofString "both")=False:=eq_false (by decide +kernel)
@[simp] theorem ne_not_either:(Str.ofString "not"=Str.ofString "either")=False:=eq_false (by decide +kernel)
@[simp] theorem ne_not_none:(Str.ofString "not"=Str.ofString "none")=False:=eq_false (by decide +kernel)
@[simp] theorem ne_not_TooGreat:(Str.ofString "not"=Str.ofString "TooGreat")=False:=eq_false (by decide +kernel)
@[simp] theorem ne_both_cell:(Str.ofString "both"=Str.ofString "cell")=False:=eq_false (by decide +kernel)
@[simp] theorem ne_both_old:(Str.ofString "both"=Str.ofString "old")=False:=eq_false (by decide +kernel)
@[simp] theorem ne_both_new:(Str.ofString "both"=Str.ofString "new")=False:=eq_false (by decide +kernel)
@[simp] theorem ne_both_choose:(Str.ofString "both"=Str.ofString "choose")=False:=eq_false (by decide +kernel)
@[simp] theorem ne_both_plus:(Str.ofString "both"=Str.ofString "plus")=False:=eq_false (by decide +kernel)
@[simp] theorem ne_both_minus:(Str.ofString "both"=Str.ofString "minus")=False:=eq_false (by decide +kernel)
@[simp] theorem ne_both_times:(Str.ofString "both"=Str.ofString "times")=False:=eq_false (by decide +kernel)
@[simp] theorem ne_both_least:(Str.ofString "both"=Str.ofString "least")=False:=eq_false (by decide +kernel)
@[simp] theorem ne_both_most:(Str.ofString "both"=Str.ofString "most")=False:=eq_false (by decide +kernel)
@[simp] theorem ne_both_yes:(Str.ofString "both"=Str.ofString "yes")=False:=eq_false (by decide +kernel)
@[simp] theorem ne_both_lacks:(Str.ofString "both"=Str.ofString "lacks")=False:=eq_false (by decide +kernel)
@[simp] theorem ne_both_is:(Str.ofString "both"=Str.ofString "is")=False:=eq_false (by decide +kernel)
@[simp] theorem ne_both_below:(Str.ofString "both"=Str.ofString "below")=False:=eq_false (by decide +kernel)
@[simp] theorem ne_both_not:(Str.ofString "both"=Str.ofString "not")=False:=eq_false (by decide +kernel)
@[simp] theorem ne_both_either:(Str.ofString "both"=Str.ofString "either")=False:=eq_false (by decide +kernel)
@[simp] theorem ne_both_none:(Str.ofString "both"=Str.ofString "none")=False:=eq_false (by decide +kernel)
@[simp] theorem ne_both_TooGreat:(Str.ofString "both"=Str.ofString "TooGreat")=False:=eq_false (by decide +kernel)
@[simp] theorem ne_either_cell:(Str.ofString "either"=Str.ofString "cell")=False:=eq_false (by decide +kernel)
@[simp] theorem ne_either_old:(Str.ofString "either"=Str.ofString "old")=False:=eq_false (by decide +kernel)
@[simp] theorem ne_either_new:(Str.ofString "either"=Str.ofString "new")=False:=eq_false (by decide +kernel)
@[simp] theorem ne_either_choose:(Str.ofString "either"=Str.ofString "choose")=False:=eq_false (by decide +kernel)
@[simp] theorem ne_either_plus:(Str.ofString "either"=Str.ofString "plus")=False:=eq_false (by decide +kernel)
@[simp] theorem ne_either_minus:(Str.ofString "either"=Str.ofString "minus")=False:=eq_false (by decide +kernel)
@[simp] theorem ne_either_times:(Str.ofString "either"=Str.ofString "times")=False:=eq_false (by decide +kernel)
@[simp] theorem ne_either_least:(Str.ofString "either"=Str.ofString "least")=False:=eq_false (by decide +kernel)
@[simp] theorem ne_either_most:(Str.ofString "either"=Str.ofString "most")=False:=eq_false (by decide +kernel)
@[simp] theorem ne_either_yes:(Str.ofString "either"=Str.ofString "yes")=False:=eq_false (by decide +kernel)
@[simp] theorem ne_either_lacks:(Str.ofString "either"=Str.ofString "lacks")=False:=eq_false (by decide +kernel)
@[simp] theorem ne_either_is:(Str.ofString "either"=Str.ofString "is")=False:=eq_false (by decide +kernel)
@[simp] theorem ne_either_below:(Str.ofString "either"=Str.ofString "below")=False:=eq_false (by decide +kernel)
@[simp] theorem ne_either_not:(Str.ofString "either"=Str.ofString "not")=False:=eq_false (by decide +kernel)
@[simp] theorem ne_either_both:(Str.ofString "either"=Str.ofString "both")=False:=eq_false (by decide +kernel)
@[simp] theorem ne_either_none:(Str.ofString "either"=Str.ofString "none")=False:=eq_false (by decide +kernel)
@[simp] theorem ne_either_TooGreat:(Str.ofString "either"=Str.ofString "TooGreat")=False:=eq_false (by decide +kernel)
@[simp] theorem ne_none_cell:(Str.ofString "none"=Str.ofString "cell")=False:=eq_false (by decide +kernel)
@[simp] theorem ne_none_old:(Str.ofString "none"=Str.ofString "old")=False:=eq_false (by decide +kernel)
@[simp] theorem ne_none_new:(Str.ofString "none"=Str.ofString "new")=False:=eq_false (by decide +kernel)
@[simp] theorem ne_none_choose:(Str.ofString "none"=Str.ofString "choose")=False:=eq_false (by decide +kernel)
@[simp] theorem ne_none_plus:(Str.ofString "none"=Str.ofString "plus")=False:=eq_false (by decide +kernel)
@[simp] theorem ne_none_minus:(Str.ofString "none"=Str.ofString "minus")=False:=eq_false (by decide +kernel)
@[simp] theorem ne_none_times:(Str.ofString "none"=Str.ofString "times")=False:=eq_false (by decide +kernel)
@[simp] theorem ne_none_least:(Str.ofString "none"=Str.ofString "least")=False:=eq_false (by decide +kernel)
@[simp] theorem ne_none_most:(Str.ofString "none"=Str.ofString "most")=False:=eq_false (by decide +kernel)
@[simp] theorem ne_none_yes:(Str.ofString "none"=Str.ofString "yes")=False:=eq_false (by decide +kernel)
@[simp] theorem ne_none_lacks:(Str.ofString "none"=Str.ofString "lacks")=False:=eq_false (by decide +kernel)
@[simp] theorem ne_none_is:(Str.ofString "none"=Str.ofString "is")=False:=eq_false (by decide +kernel)
@[simp] theorem ne_none_below:(Str.ofString "none"=Str.ofString "below")=False:=eq_false (by decide +kernel)
@[simp] theorem ne_none_not:(Str.ofString "none"=Str.ofString "not")=False:=eq_false (by decide +kernel)
@[simp] theorem ne_none_both:(Str.ofString "none"=Str.ofString "both")=False:=eq_false (by decide +kernel)
@[simp] theorem ne_none_either:(Str.ofString "none"=Str.ofString "either")=False:=eq_false (by decide +kernel)
@[simp] theorem ne_none_TooGreat:(Str.ofString "none"=Str.ofString "TooGreat")=False:=eq_false (by decide +kernel)
@[simp] theorem ne_TooGreat_cell:(Str.ofString "TooGreat"=Str.ofString "cell")=False:=eq_false (by decide +kernel)
@[simp] theorem ne_TooGreat_old:(Str.ofString "TooGreat"=Str.ofString "old")=False:=eq_false (by decide +kernel)
@[simp] theorem ne_TooGreat_new:(Str.ofString "TooGreat"=Str.ofString "new")=False:=eq_false (by decide +kernel)
@[simp] theorem ne_TooGreat_choose:(Str.ofString "TooGreat"=Str.ofString "choose")=False:=eq_false (by decide +kernel)
@[simp] theorem ne_TooGreat_plus:(Str.ofString "TooGreat"=Str.ofString "plus")=False:=eq_false (by decide +kernel)
@[simp] theorem ne_TooGreat_minus:(Str.ofString "TooGreat"=Str.ofString "minus")=False:=eq_false (by decide +kernel)
@[simp] theorem ne_TooGreat_times:(Str.ofString "TooGreat"=Str.ofString "times")=False:=eq_false (by decide +kernel)
@[simp] theorem ne_TooGreat_least:(Str.ofString "TooGreat"=Str.ofString "least")=False:=eq_false (by decide +kernel)
@[simp] theorem ne_TooGreat_most:(Str.ofString "TooGreat"=Str.ofString "most")=False:=eq_false (by decide +kernel)
@[simp] theorem ne_TooGreat_yes:(Str.ofString "TooGreat"=Str.ofString "yes")=False:=eq_false (by decide +kernel)
@[simp] theorem ne_TooGreat_lacks:(Str.ofString "TooGreat"=Str.ofString "lacks")=False:=eq_false (by decide +kernel)
@[simp] theorem ne_TooGreat_is:(Str.ofString "TooGreat"=Str.ofString "is")=False:=eq_false (by decide +kernel)
@[simp] theorem ne_TooGreat_below:(Str.ofString "TooGreat"=Str.ofString "below")=False:=eq_false (by decide +kernel)
@[simp] theorem ne_TooGreat_not:(Str.ofString "TooGreat"=Str.ofString "not")=False:=eq_false (by decide +kernel)
@[simp] theorem ne_TooGreat_both:(Str.ofString "TooGreat"=Str.ofString "both")=False:=eq_false (by decide +kernel)
@[simp] theorem ne_TooGreat_either:(Str.ofString "TooGreat"=Str.ofString "either")=False:=eq_false (by decide +kernel)
@[simp] theorem ne_TooGreat_none:(Str.ofString "TooGreat"=Str.ofString "none")=False:=eq_false (by decide +kernel)
@[simp] theorem be_cell_plus:(Str.ofString "cell"==Str.ofString "plus")=false:=by decide +kernel
@[simp] theorem be_cell_minus:(Str.ofString "cell"==Str.ofString "minus")=false:=by decide +kernel
@[simp] theorem be_cell_times:(Str.ofString "cell"==Str.ofString "times")=false:=by decide +kernel
@[simp] theorem be_cell_least:(Str.ofString "cell"==Str.ofString "least")=false:=by decide +kernel
@[simp] theorem be_cell_most:(Str.ofString "cell"==Str.ofString "most")=false:=by decide +kernel
@[simp] theorem be_cell_is:(Str.ofString "cell"==Str.ofString "is")=false:=by decide +kernel
@[simp] theorem be_cell_below:(Str.ofString "cell"==Str.ofString "below")=false:=by decide +kernel
@[simp] theorem be_cell_both:(Str.ofString "cell"==Str.ofString "both")=false:=by decide +kernel
@[simp] theorem be_cell_either:(Str.ofString "cell"==Str.ofString "either")=false:=by decide +kernel
@[simp] theorem be_old_plus:(Str.ofString "old"==Str.ofString "plus")=false:=by decide +kernel
@[simp] theorem be_old_minus:(Str.ofString "old"==Str.ofString "minus")=false:=by decide +kernel
@[simp] theorem be_old_times:(Str.ofString "old"==Str.ofString "times")=false:=by decide +kernel
@[simp] theorem be_old_least:(Str.ofString "old"==Str.ofString "least")=false:=by decide +kernel
@[simp] theorem be_old_most:(Str.ofString "old"==Str.ofString "most")=false:=by decide +kernel
@[simp] theorem be_old_is:(Str.ofString "old"==Str.ofString "is")=false:=by decide +kernel
@[simp] theorem be_old_below:(Str.ofString "old"==Str.ofString "below")=false:=by decide +kernel
@[simp] theorem be_old_both:(Str.ofString "old"==Str.ofString "both")=false:=by decide +kernel
@[simp] theorem be_old_either:(Str.ofString "old"==Str.ofString "either")=false:=by decide +kernel
@[simp] theorem be_new_plus:(Str.ofString "new"==Str.ofString "plus")=false:=by decide +kernel
@[simp] theorem be_new_minus:(Str.ofString "new"==Str.ofString "minus")=false:=by decide +kernel
@[simp] theorem be_new_times:(Str.ofString "new"==Str.ofString "times")=false:=by decide +kernel
@[simp] theorem be_new_least:(Str.ofString "new"==Str.ofString "least")=false:=by decide +kernel
@[simp] theorem be_new_most:(Str.ofString "new"==Str.ofString "most")=false:=by decide +kernel
@[simp] theorem be_new_is:(Str.ofString "new"==Str.ofString "is")=false:=by decide +kernel
@[simp] theorem be_new_below:(Str.ofString "new"==Str.ofString "below")=false:=by decide +kernel
@[simp] theorem be_new_both:(Str.ofString "new"==Str.ofString "both")=false:=by decide +kernel
@[simp] theorem be_new_either:(Str.ofString "new"==Str.ofString "either")=false:=by decide +kernel
@[simp] theorem be_choose_plus:(Str.ofString "choose"==Str.ofString "plus")=false:=by decide +kernel
@[simp] theorem be_choose_minus:(Str.ofString "choose"==Str.ofString "minus")=false:=by decide +kernel
@[simp] theorem be_choose_times:(Str.ofString "choose"==Str.ofString "times")=false:=by decide +kernel
@[simp] theorem be_choose_least:(Str.ofString "choose"==Str.ofString "least")=false:=by decide +kernel
@[simp] theorem be_choose_most:(Str.ofString "choose"==Str.ofString "most")=false:=by decide +kernel
@[simp] theorem be_choose_is:(Str.ofString "choose"==Str.ofString "is")=false:=by decide +kernel
@[simp] theorem be_choose_below:(Str.ofString "choose"==Str.ofString "below")=false:=by decide +kernel
@[simp] theorem be_choose_both:(Str.ofString "choose"==Str.ofString "both")=false:=by decide +kernel
@[simp] theorem be_choose_either:(Str.ofString "choose"==Str.ofString "either")=false:=by decide +kernel
@[simp] theorem be_plus_plus:(Str.ofString "plus"==Str.ofString "plus")=true:=by decide +kernel
@[simp] theorem be_plus_minus:(Str.ofString "plus"==Str.ofString "minus")=false:=by decide +kernel
@[simp] theorem be_plus_times:(Str.ofString "plus"==Str.ofString "times")=false:=by decide +kernel
@[simp] theorem be_plus_least:(Str.ofString "plus"==Str.ofString "least")=false:=by decide +kernel
@[simp] theorem be_plus_most:(Str.ofString "plus"==Str.ofString "most")=false:=by decide +kernel
@[simp] theorem be_plus_is:(Str.ofString "plus"==Str.ofString "is")=false:=by decide +kernel
@[simp] theorem be_plus_below:(Str.ofString "plus"==Str.ofString "below")=false:=by decide +kernel
@[simp] theorem be_plus_both:(Str.ofString "plus"==Str.ofString "both")=false:=by decide +kernel
@[simp] theorem be_plus_either:(Str.ofString "plus"==Str.ofString "either")=false:=by decide +kernel
@[simp] theorem be_minus_plus:(Str.ofString "minus"==Str.ofString "plus")=false:=by decide +kernel
@[simp] theorem be_minus_minus:(Str.ofString "minus"==Str.ofString "minus")=true:=by decide +kernel
@[simp] theorem be_minus_times:(Str.ofString "minus"==Str.ofString "times")=false:=by decide +kernel
@[simp] theorem be_minus_least:(Str.ofString "minus"==Str.ofString "least")=false:=by decide +kernel
@[simp] theorem be_minus_most:(Str.ofString "minus"==Str.ofString "most")=false:=by decide +kernel
@[simp] theorem be_minus_is:(Str.ofString "minus"==Str.ofString "is")=false:=by decide +kernel
@[simp] theorem be_minus_below:(Str.ofString "minus"==Str.ofString "below")=false:=by decide +kernel
@[simp] theorem be_minus_both:(Str.ofString "minus"==Str.ofString "both")=false:=by decide +kernel
@[simp] theorem be_minus_either:(Str.ofString "minus"==Str.ofString "either")=false:=by decide +kernel
@[simp] theorem be_times_plus:(Str.ofString "times"==Str.ofString "plus")=false:=by decide +kernel
@[simp] theorem be_times_minus:(Str.ofString "times"==Str.ofString "minus")=false:=by decide +kernel
@[simp] theorem be_times_times:(Str.ofString "times"==Str.ofString "times")=true:=by decide +kernel
@[simp] theorem be_times_least:(Str.ofString "times"==Str.ofString "least")=false:=by decide +kernel
@[simp] theorem be_times_most:(Str.ofString "times"==Str.ofString "most")=false:=by decide +kernel
@[simp] theorem be_times_is:(Str.ofString "times"==Str.ofString "is")=false:=by decide +kernel
@[simp] theorem be_times_below:(Str.ofString "times"==Str.ofString "below")=false:=by decide +kernel
@[simp] theorem be_times_both:(Str.ofString "times"==Str.ofString "both")=false:=by decide +kernel
@[simp] theorem be_times_either:(Str.ofString "times"==Str.ofString "either")=false:=by decide +kernel
@[simp] theorem be_least_plus:(Str.ofString "least"==Str.ofString "plus")=false:=by decide +kernel
@[simp] theorem be_least_minus:(Str.ofString "least"==Str.ofString "minus")=false:=by decide +kernel
@[simp] theorem be_least_times:(Str.ofString "least"==Str.ofString "times")=false:=by decide +kernel
@[simp] theorem be_least_least:(Str.ofString "least"==Str.ofString "least")=true:=by decide +kernel
@[simp] theorem be_least_most:(Str.ofString "least"==Str.ofString "most")=false:=by decide +kernel
@[simp] theorem be_least_is:(Str.ofString "least"==Str.ofString "is")=false:=by decide +kernel
@[simp] theorem be_least_below:(Str.ofString "least"==Str.ofString "below")=false:=by decide +kernel
@[simp] theorem be_least_both:(Str.ofString "least"==Str.ofString "both")=false:=by decide +kernel
@[simp] theorem be_least_either:(Str.ofString "least"==Str.ofString "either")=false:=by decide +kernel
@[simp] theorem be_most_plus:(Str.ofString "most"==Str.ofString "plus")=false:=by decide +kernel
@[simp] theorem be_most_minus:(Str.ofString "most"==Str.ofString "minus")=false:=by decide +kernel
@[simp] theorem be_most_times:(Str.ofString "most"==Str.ofString "times")=false:=by decide +kernel
@[simp] theorem be_most_least:(Str.ofString "most"==Str.ofString "least")=false:=by decide +kernel
@[simp] theorem be_most_most:(Str.ofString "most"==Str.ofString "most")=true:=by decide +kernel
@[simp] theorem be_most_is:(Str.ofString "most"==Str.ofString "is")=false:=by decide +kernel
@[simp] theorem be_most_below:(Str.ofString "most"==Str.ofString "below")=false:=by decide +kernel
@[simp] theorem be_most_both:(Str.ofString "most"==Str.ofString "both")=false:=by decide +kernel
@[simp] theorem be_most_either:(Str.ofString "most"==Str.ofString "either")=false:=by decide +kernel
@[simp] theorem be_yes_plus:(Str.ofString "yes"==Str.ofString "plus")=false:=by decide +kernel
@[simp] theorem be_yes_minus:(Str.ofString "yes"==Str.ofString "minus")=false:=by decide +kernel
@[simp] theorem be_yes_times:(Str.ofString "yes"==Str.ofString "times")=false:=by decide +kernel
@[simp] theorem be_yes_least:(Str.ofString "yes"==Str.ofString "least")=false:=by decide +kernel
@[simp] theorem be_yes_most:(Str.ofString "yes"==Str.ofString "most")=false:=by decide +kernel
@[simp] theorem be_yes_is:(Str.ofString "yes"==Str.ofString "is")=false:=by decide +kernel
@[simp] theorem be_yes_below:(Str.ofString "yes"==Str.ofString "below")=false:=by decide +kernel
@[simp] theorem be_yes_both:(Str.ofString "yes"==Str.ofString "both")=false:=by decide +kernel
@[simp] theorem be_yes_either:(Str.ofString "yes"==Str.ofString "either")=false:=by decide +kernel
@[simp] theorem be_lacks_plus:(Str.ofString "lacks"==Str.ofString "plus")=false:=by decide +kernel
@[simp] theorem be_lacks_minus:(Str.ofString "lacks"==Str.ofString "minus")=false:=by decide +kernel
@[simp] theorem be_lacks_times:(Str.ofString "lacks"==Str.ofString "times")=false:=by decide +kernel
@[simp] theorem be_lacks_least:(Str.ofString "lacks"==Str.ofString "least")=false:=by decide +kernel
@[simp] theorem be_lacks_most:(Str.ofString "lacks"==Str.ofString "most")=false:=by decide +kernel
@[simp] theorem be_lacks_is:(Str.ofString "lacks"==Str.ofString "is")=false:=by decide +kernel
@[simp] theorem be_lacks_below:(Str.ofString "lacks"==Str.ofString "below")=false:=by decide +kernel
@[simp] theorem be_lacks_both:(Str.ofString "lacks"==Str.ofString "both")=false:=by decide +kernel
@[simp] theorem be_lacks_either:(Str.ofString "lacks"==Str.ofString "either")=false:=by decide +kernel
@[simp] theorem be_is_plus:(Str.ofString "is"==Str.ofString "plus")=false:=by decide +kernel
@[simp] theorem be_is_minus:(Str.ofString "is"==Str.ofString "minus")=false:=by decide +kernel
@[simp] theorem be_is_times:(Str.ofString "is"==Str.ofString "times")=false:=by decide +kernel
@[simp] theorem be_is_least:(Str.ofString "is"==Str.ofString "least")=false:=by decide +kernel
@[simp] theorem be_is_most:(Str.ofString "is"==Str.ofString "most")=false:=by decide +kernel
@[simp] theorem be_is_is:(Str.ofString "is"==Str.ofString "is")=true:=by decide +kernel
@[simp] theorem be_is_below:(Str.ofString "is"==Str.ofString "below")=false:=by decide +kernel
@[simp] theorem be_is_both:(Str.ofString "is"==Str.ofString "both")=false:=by decide +kernel
@[simp] theorem be_is_either:(Str.ofString "is"==Str.ofString "either")=false:=by decide +kernel
@[simp] theorem be_below_plus:(Str.ofString "below"==Str.ofString "plus")=false:=by decide +kernel
@[simp] theorem be_below_minus:(Str.ofString "below"==Str.ofString "minus")=false:=by decide +kernel
@[simp] theorem be_below_times:(Str.ofString "below"==Str.ofString "times")=false:=by decide +kernel
@[simp] theorem be_below_least:(Str.ofString "below"==Str.ofString "least")=false:=by decide +kernel
@[simp] theorem be_below_most:(Str.ofString "below"==Str.ofString "most")=false:=by decide +kernel
@[simp] theorem be_below_is:(Str.ofString "below"==Str.ofString "is")=false:=by decide +kernel
@[simp] theorem be_below_below:(Str.ofString "below"==Str.ofString "below")=true:=by decide +kernel
@[simp] theorem be_below_both:(Str.ofString "below"==Str.ofString "both")=false:=by decide +kernel
@[simp] theorem be_below_either:(Str.ofString "below"==Str.ofString "either")=false:=by decide +kernel
@[simp] theorem be_not_plus:(Str.ofString "not"==Str.ofString "plus")=false:=by decide +kernel
@[simp] theorem be_not_minus:(Str.ofString "not"==Str.ofString "minus")=false:=by decide +kernel
@[simp] theorem be_not_times:(Str.ofString "not"==Str.ofString "times")=false:=by decide +kernel
@[simp] theorem be_not_least:(Str.ofString "not"==Str.ofString "least")=false:=by decide +kernel
@[simp] theorem be_not_most:(Str.ofString "not"==Str.ofString "most")=false:=by decide +kernel
@[simp] theorem be_not_is:(Str.ofString "not"==Str.ofString "is")=false:=by decide +kernel
@[simp] theorem be_not_below:(Str.ofString "not"==Str.ofString "below")=false:=by decide +kernel
@[simp] theorem be_not_both:(Str.ofString "not"==Str.ofString "both")=false:=by decide +kernel
@[simp] theorem be_not_either:(Str.ofString "not"==Str.ofString "either")=false:=by decide +kernel
@[simp] theorem be_both_plus:(Str.ofString "both"==Str.ofString "plus")=false:=by decide +kernel
@[simp] theorem be_both_minus:(Str.ofString "both"==Str.ofString "minus")=false:=by decide +kernel
@[simp] theorem be_both_times:(Str.ofString "both"==Str.ofString "times")=false:=by decide +kernel
@[simp] theorem be_both_least:(Str.ofString "both"==Str.ofString "least")=false:=by decide +kernel
@[simp] theorem be_both_most:(Str.ofString "both"==Str.ofString "most")=false:=by decide +kernel
@[simp] theorem be_both_is:(Str.ofString "both"==Str.ofString "is")=false:=by decide +kernel
@[simp] theorem be_both_below:(Str.ofString "both"==Str.ofString "below")=false:=by decide +kernel
@[simp] theorem be_both_both:(Str.ofString "both"==Str.ofString "both")=true:=by decide +kernel
@[simp] theorem be_both_either:(Str.ofString "both"==Str.ofString "either")=false:=by decide +kernel
@[simp] theorem be_either_plus:(Str.ofString "either"==Str.ofString "plus")=false:=by decide +kernel
@[simp] theorem be_either_minus:(Str.ofString "either"==Str.ofString "minus")=false:=by decide +kernel
@[simp] theorem be_either_times:(Str.ofString "either"==Str.ofString "times")=false:=by decide +kernel
@[simp] theorem be_either_least:(Str.ofString "either"==Str.ofString "least")=false:=by decide +kernel
@[simp] theorem be_either_most:(Str.ofString "either"==Str.ofString "most")=false:=by decide +kernel
@[simp] theorem be_either_is:(Str.ofString "either"==Str.ofString "is")=false:=by decide +kernel
@[simp] theorem be_either_below:(Str.ofString "either"==Str.ofString "below")=false:=by decide +kernel
@[simp] theorem be_either_both:(Str.ofString "either"==Str.ofString "both")=false:=by decide +kernel
@[simp] theorem be_either_either:(Str.ofString "either"==Str.ofString "either")=true:=by decide +kernel
@[simp] theorem be_none_plus:(Str.ofString "none"==Str.ofString "plus")=false:=by decide +kernel
@[simp] theorem be_none_minus:(Str.ofString "none"==Str.ofString "minus")=false:=by decide +kernel
@[simp] theorem be_none_times:(Str.ofString "none"==Str.ofString "times")=false:=by decide +kernel
@[simp] theorem be_none_least:(Str.ofString "none"==Str.ofString "least")=false:=by decide +kernel
@[simp] theorem be_none_most:(Str.ofString "none"==Str.ofString "most")=false:=by decide +kernel
@[simp] theorem be_none_is:(Str.ofString "none"==Str.ofString "is")=false:=by decide +kernel
@[simp] theorem be_none_below:(Str.ofString "none"==Str.ofString "below")=false:=by decide +kernel
@[simp] theorem be_none_both:(Str.ofString "none"==Str.ofString "both")=false:=by decide +kernel
@[simp] theorem be_none_either:(Str.ofString "none"==Str.ofString "either")=false:=by decide +kernel
@[simp] theorem be_TooGreat_plus:(Str.ofString "TooGreat"==Str.ofString "plus")=false:=by decide +kernel
@[simp] theorem be_TooGreat_minus:(Str.ofString "TooGreat"==Str.ofString "minus")=false:=by decide +kernel
@[simp] theorem be_TooGreat_times:(Str.ofString "TooGreat"==Str.ofString "times")=false:=by decide +kernel
@[simp] theorem be_TooGreat_least:(Str.ofString "TooGreat"==Str.ofString "least")=false:=by decide +kernel
@[simp] theorem be_TooGreat_most:(Str.ofString "TooGreat"==Str.ofString "most")=false:=by decide +kernel
@[simp] theorem be_TooGreat_is:(Str.ofString "TooGreat"==Str.ofString "is")=false:=by decide +kernel
@[simp] theorem be_TooGreat_below:(Str.ofString "TooGreat"==Str.ofString "below")=false:=by decide +kernel
@[simp] theorem be_TooGreat_both:(Str.ofString "TooGreat"==Str.ofString "both")=false:=by decide +kernel
@[simp] theorem be_TooGreat_either:(Str.ofString "TooGreat"==Str.ofString "either")=false:=by decide +kernel
inductive Sop | plus | minus | times | least | most
inductive Wd:Bool→Type
 | cell (c:Option Int):Wd false
 | col (s:Bool) (x:Str):Wd false
 | ch (t:Wd true) (a b:Wd false):Wd false
 | sum (o:Sop) (a b:Wd false):Wd false
 | yes:Wd true
 | lacks (a:Wd false):Wd true
 | cmp (lt:Bool) (a b:Wd false):Wd true
 | no (a:Wd true):Wd true
 | jn (e:Bool) (a b:Wd true):Wd true
def Sop.nm:Sop→Str
 | .plus=>"plus" | .minus=>"minus" | .times=>"times" | .least=>"least" | .most=>"most"
def Wd.tr:{b:Bool}→Wd b→T
 | _,.cell c=>.tup [.str "cell",ofC c]
 | _,.col s x=>.tup [.str (if s then "new" else "old"),.str x]
 | _,.ch t a b=>.tup [.str "choose",t.tr,a.tr,b.tr]
 | _,.sum o a b=>.tup [.str o.nm,a.tr,b.tr]
 | _,.yes=>.tup [.str "yes"]
 | _,.lacks a=>.tup [.str "lacks",a.tr]
 | _,.cmp lt a b=>.tup [.str (if lt then "below" else "is"),a.tr,b.tr]
 | _,.no a=>.tup [.str "not",a.tr]
 | _,.jn e a b=>.tup [.str (if e then "either" else "both"),a.tr,b.tr]
def Wd.dp:{b:Bool}→Wd b→Nat
 | _,.cell _=>1
 | _,.col _ _=>1
 | _,.ch t a b=>max t.dp (max a.dp b.dp)+1
 | _,.sum _ a b=>max a.dp b.dp+1
 | _,.yes=>1
 | _,.lacks a=>a.dp+1
 | _,.cmp _ a b=>max a.dp b.dp+1
 | _,.no a=>a.dp+1
 | _,.jn _ a b=>max a.dp b.dp+1
def bnd (c:Option Int):Prop:=∀i,c=some i→ -MOSTi≤i∧i≤MOSTi
def Wd.ok (os ns:List Str):{b:Bool}→Wd b→Prop
 | _,.cell c=>bnd c
 | _,.col s x=>x∈(if s then ns else os)
 | _,.ch t a b=>t.ok os ns∧a.ok os ns∧b.ok os ns
 | _,.sum _ a b=>a.ok os ns∧b.ok os ns
 | _,.yes=>True
 | _,.lacks a=>a.ok os ns
 | _,.cmp _ a b=>a.ok os ns∧b.ok os ns
 | _,.no a=>a.ok os ns
 | _,.jn _ a b=>a.ok os ns∧b.ok os ns
def fit:Bool→Option Int→Prop
 | false,c=>bnd c
 | true,c=>c=none∨c=some 0∨c=some 1
theorem dp_pos {b:Bool} (w:Wd b):1≤w.dp:=by cases w<;>simp [Wd.dp]
end Law
set_option maxHeartbeats 400000
namespace Law
open PySem L2 M3
theorem sl8:8≤sizeLine:=by decide
abbrev abc:Str:="abcdefghijklmnopqrstuvwxyz"
theorem sl_small {n:Nat} (h:n≤100000):n≤sizeLine:=Nat.le_trans h (by decide)
theorem sl6:6≤sizeLine:=by decide
abbrev lts (x:Str):Prop:=∀c∈x.cps.toList,97≤c∧c≤122
def nm (b:Str) (a c d:Int) (k:Int):Str:=cutS b none (some a)++⟨#[97+((c+d * k) % 26).toNat]⟩++cutS b (some a) none
def strides:List Int:=[1,3,5,7,9,11]
theorem at_abc {r:Int} (h0:0≤r) (h1:r<26):atI (Str.cps "abcdefghijklmnopqrstuvwxyz").toList r=some (97+r.toNat):=by
 obtain ⟨j,rfl⟩:∃j:Nat,r=j:=⟨r.toNat,by omega⟩
 have hj:j<26:=by omega
 have:∀i:Fin 26,atI (Str.cps "abcdefghijklmnopqrstuvwxyz").toList ((i.val:Nat):Int)=some (97+((i.val:Nat):Int).toNat):=by decide +kernel
 exact this ⟨j,hj⟩
theorem names_ok (C:Cs) (p:Addr) (Q:T→Prop) (X:X3) (h:∀(b:Str) (a c d:Int),b.length≤7→lts b→d∈strides→Q (.lst ([0,1,2].map fun k=>T.str (nm b a c d k)))):Lnames C [.ref p,.int 3] Q X:=by
 rw [Lnames_def]
 show LnamesB C p _ [.val (.ref p),.val (.int 3),.no,.no,.no,.no,.no,.no]
 unfold LnamesB
 refine seq_by (fun σ'=>σ'=[.val (.ref p),.val (.int 3),.val (.str abc),.no,.no,.no,.no,.no]) (fun nx hn=>hn _ rfl) ?_
 rintro σ' rfl
 refine seq_by (fun σ'=>∃b:Str,(b.length≤7∧lts b)∧σ'=[.val (.ref p),.val (.int 3),.val (.str abc),.val (.str b),.no,.no,.no,.no]) (fun nx hn=> ?_) ?_
 · simp [seq3,next3,ret3,retN3,ifs3,drop3,asg3,name3,tst3,and3,or3,not3,andV3,orV3,notV3,if3,v3,k3,op3,un3,nil3,cons3,call3,tup3,lst3,chain3,fn30,fn3,fnN30,fnN3,fnP30,i2,i2c,i1,isN3,notN3,eqS3,neS3,ixL3,ixT3,len3,all3,any3,abs3,max23,min23,isi3,isB3,truth3,start3,slot,flatT,scal,tyn,M3.isNon,lenT,truT,isiB,Option.bind,take3,kbs,addP,mulP,ixP,slP,eqP,neP,isSeq,iterP,itemsP,no3,part3,sl3,raise3,brk3,cont3,M3.ltP,M3.leP,M3.gtP,M3.geP,sl8]
   refine draw_all (by rfl) ?_
   intro x hx
   simp at hx
   rcases hx with rfl | rfl | rfl | rfl | rfl | rfl | rfl | rfl
   all_goals exact hn _ ⟨_,by decide +kernel,rfl⟩
 rintro σ' ⟨b,⟨hb,gb⟩,rfl⟩
 have hb':b.length≤sizeLine:=sl_small (by omega)
 refine seq_by (fun σ'=>∃a:Int,σ'=[.val (.ref p),.val (.int 3),.val (.str abc),.val (.str b),.val (.int a),.no,.no,.no]) (fun nx hn=> ?_) ?_
 · simp [seq3,next3,ret3,retN3,ifs3,drop3,asg3,name3,tst3,and3,or3,not3,andV3,orV3,notV3,if3,v3,k3,op3,un3,nil3,cons3,call3,tup3,lst3,chain3,fn30,fn3,fnN30,fnN3,fnP30,i2,i2c,i1,isN3,notN3,eqS3,neS3,ixL3,ixT3,len3,all3,any3,abs3,max23,min23,isi3,isB3,truth3,start3,slot,flatT,scal,tyn,M3.isNon,lenT,truT,isiB,Option.bind,take3,kbs,addP,mulP,ixP,slP,eqP,neP,isSeq,iterP,itemsP,no3,part3,sl3,raise3,brk3,cont3,M3.ltP,M3.leP,M3.gtP,M3.geP,hb']
   refine ⟨by omega, ?_⟩
   first | exact fun r _ _=>hn _ ⟨_,rfl⟩ | exact ⟨by omega,fun r _ _=>hn _ ⟨_,rfl⟩⟩
 rintro σ' ⟨a,rfl⟩
 refine seq_by (fun σ'=>∃c:Int,σ'=[.val (.ref p),.val (.int 3),.val (.str abc),.val (.str b),.val (.int a),.val (.int c),.no,.no]) (fun nx hn=> ?_) ?_
 · simp [seq3,next3,ret3,retN3,ifs3,drop3,asg3,name3,tst3,and3,or3,not3,andV3,orV3,notV3,if3,v3,k3,op3,un3,nil3,cons3,call3,tup3,lst3,chain3,fn30,fn3,fnN30,fnN3,fnP30,i2,i2c,i1,isN3,notN3,eqS3,neS3,ixL3,ixT3,len3,all3,any3,abs3,max23,min23,isi3,isB3,truth3,start3,slot,flatT,scal,tyn,M3.isNon,lenT,truT,isiB,Option.bind,take3,kbs,addP,mulP,ixP,slP,eqP,neP,isSeq,iterP,itemsP,no3,part3,sl3,raise3,brk3,cont3,M3.ltP,M3.leP,M3.gtP,M3.geP]
   exact fun r _ _=>hn _ ⟨_,rfl⟩
 rintro σ' ⟨c,rfl⟩
 refine seq_by (fun σ'=>∃d:Int,d∈strides∧σ'=[.val (.ref p),.val (.int 3),.val (.str abc),.val (.str b),.val (.int a),.val (.int c),.val (.int d),.no]) (fun nx hn=> ?_) ?_
 · simp [seq3,next3,ret3,retN3,ifs3,drop3,asg3,name3,tst3,and3,or3,not3,andV3,orV3,notV3,if3,v3,k3,op3,un3,nil3,cons3,call3,tup3,lst3,chain3,fn30,fn3,fnN30,fnN3,fnP30,i2,i2c,i1,isN3,notN3,eqS3,neS3,ixL3,ixT3,len3,all3,any3,abs3,max23,min23,isi3,isB3,truth3,start3,slot,flatT,scal,tyn,M3.isNon,lenT,truT,isiB,Option.bind,take3,kbs,addP,mulP,ixP,slP,eqP,neP,isSeq,iterP,itemsP,no3,part3,sl3,raise3,brk3,cont3,M3.ltP,M3.leP,M3.gtP,M3.geP,sl6]
   refine draw_all (by rfl) ?_
   intro x hx
   simp at hx
   rcases hx with rfl | rfl | rfl | rfl | rfl | rfl
   all_goals exact hn _ ⟨_,by decide,rfl⟩
 rintro σ' ⟨d,hd,rfl⟩
 have hd':0≤d∧d≤11:=by
  simp only [strides,List.mem_cons,List.not_mem_nil,or_false] at hd
  omega
 refine ⟨by simp [noOwn],by decide,by decide, ?_⟩
 show comp3 _ _ _ [.val (.ref p),.val (.int 3),.val (.str abc),.val (.str b),.val (.int a),.val (.int c),.val (.int d),.no] _ _ (rangeT 0 3) []
 rw [comp_map (h:=fun y=>match y with | .int k=>.str (nm b a c d k) | _=>.non) (rangeT 0 3) []]
 · exact h b a c d hb gb hd
 · intro y hy Q'
   obtain ⟨k,hk,k0,k6⟩:∃k:Int,y= .int k∧0≤k∧k<3:=by
    simp [rangeT] at hy
    obtain ⟨k,hk6,rfl⟩:=hy
    exact ⟨_,rfl,by omega,by omega⟩
   subst hk
   have l1:=cutS_length b none (some a)
   have l2:=cutS_length b (some a) none
   have z0:0≤(c+d * k) % 26:=Int.emod_nonneg _ (by decide)
   have z1:(c+d * k) % 26<26:=Int.emod_lt_of_pos _ (by decide)
   have z2:∀c:Nat,(Str.length ⟨#[c]⟩)=1:=fun _=>rfl
   have cm:CMulW d k:=by
    unfold CMulW
    have z1:=Nat.log2_le_self d.natAbs
    have z2:=Nat.log2_le_self k.natAbs
    omega
   simp [seq3,next3,ret3,retN3,ifs3,drop3,asg3,name3,tst3,and3,or3,not3,andV3,orV3,notV3,if3,v3,k3,op3,un3,nil3,cons3,call3,tup3,lst3,chain3,fn30,fn3,fnN30,fnN3,fnP30,i2,i2c,i1,isN3,notN3,eqS3,neS3,ixL3,ixT3,len3,all3,any3,abs3,max23,min23,isi3,isB3,truth3,start3,slot,flatT,scal,tyn,M3.isNon,lenT,truT,isiB,Option.bind,take3,kbs,addP,mulP,ixP,slP,eqP,neP,isSeq,iterP,itemsP,no3,part3,sl3,raise3,brk3,cont3,M3.ltP,M3.leP,M3.gtP,M3.geP,hb',at_abc z0 z1,cm]
   have q1:(cutS b none (some a)).length+(Str.length ⟨#[97+((c+d * k) % 26).toNat]⟩)≤sizeLine:=by
    refine sl_small ?_
    simp only [z2];omega
   have q2:(cutS b none (some a)++⟨#[97+((c+d * k) % 26).toNat]⟩:Str).length+(cutS b (some a) none).length≤sizeLine:=by
    refine sl_small ?_
    simp only [Str.length_append,z2];omega
   exact ⟨fun h=>h.2.2.2,fun h=>⟨by decide,q1,q2,h⟩⟩
 · simp [rangeT]
theorem sl1:1≤sizeLine:=by decide
theorem sl2:2≤sizeLine:=by decide
theorem sl_big {n:Nat} (h:n≤100000):n≤sizeLine:=Nat.le_trans h (by decide)
theorem eqP_seqL {xs:List T} {y:T} {Q:T→Prop}:eqP (.lst xs) y Q=eqD3 (.lst xs) y Q:=by simp [eqP,isSeq]
abbrev VD (C:Cs) (p:Addr) (olds news:List Str) (f n:Nat):Prop:=∀(room:Int) (Q:T→Prop) (X:X3),room≤(n:Int)→(∀w:Wd false,w.ok olds news→w.dp≤n→Q w.tr)→Lvalue C f [.ref p,.int room,.lst (texts olds),.lst (texts news)] Q X
abbrev TD (C:Cs) (p:Addr) (olds news:List Str) (f n:Nat):Prop:=∀(room:Int) (Q:T→Prop) (X:X3),room≤(n:Int)→(∀w:Wd true,w.ok olds news→w.dp≤n→Q w.tr)→Ltruth C f [.ref p,.int room,.lst (texts olds),.lst (texts news)] Q X
def nms (xs:List Str):Prop:=xs.length≤12∧∀x∈xs,x.length≤1000∧sg x
def somes (s:Str) (xs:List Str):List T:=xs.map fun x=>.tup [.str s,.str x]
theorem somes_ok {s:Str} {xs:List Str} (hs:sg s∧s.length≤1000) (hx:nms xs):∀t∈somes s xs,gd 4 t=true∧dep t=1:=by
 intro t ht
 obtain ⟨x,hm,rfl⟩:=List.mem_map.mp ht
 have:=hx.2 x hm
 refine ⟨?_,by simp⟩
 simp only [gd_tup,gdL_cons,gd_str,gdL_nil,List.length_cons,List.length_nil,Bool.and_eq_true,decide_eq_true_eq]
 exact ⟨by decide,⟨hs.1,hs.2⟩,⟨this.2,this.1⟩,trivial⟩
theorem some_comp {i:Nat} {s:Str} {σ:List Sl} {X:X3} {Q:List T→Prop} {xs:List Str} (hx:xs.length≤12) (hi:i<σ.length):comp3 (name3 i) yes3 (tup3 (cons3 (k3 (.str s)) (cons3 (v3 i) nil3))) σ X Q (texts xs) []=Q (somes s xs):=by
 rw [comp_map (h:=fun d=>.tup [.str s,d]) (texts xs) []]
 · simp [texts,somes,List.map_map,Function.comp_def]
 · intro d hd Q'
   simp [tup3,cons3,k3,v3,nil3,slot,List.getElem?_set_self hi,sl2]
 · simp only [texts,List.length_nil,List.length_map];omega
theorem szl3:3≤sizeLine:=by decide
theorem sl4:4≤sizeLine:=by decide
theorem sl5:5≤sizeLine:=by decide
theorem value_step {C:Cs} {p:Addr} {olds news:List Str} (ho:nms olds) (hn:nms news) {f n:Nat} (h:1≤n→VD C p olds news f n∧TD C p olds news f n):VD C p olds news (f+1) (n+1):=by
 intro room Q X hr hq
 rw [Lvalue_succ]
 show LvalueB C p _ _ _ [.val (.ref p),.val (.int room),.val (.lst (texts olds)),.val (.lst (texts news)),.no,.no,.no,.no,.no]
 unfold VD TD at h
 generalize Lvalue C f=r1 at h ⊢
 generalize Ltruth C f=r2 at h ⊢
 unfold LvalueB
 refine seq_by (fun σ'=>∃k:Int,0≤k∧k<10∧σ'=[.val (.ref p),.val (.int room),.val (.lst (texts olds)),.val (.lst (texts news)),.val (.int k),.no,.no,.no,.no]) (fun nx hx=> ?_) ?_
 · simp [seq3,next3,ret3,retN3,ifs3,drop3,asg3,name3,tst3,and3,or3,not3,andV3,orV3,notV3,if3,v3,k3,op3,un3,nil3,cons3,call3,tup3,lst3,chain3,fn30,fn3,fnN30,fnN3,fnP30,i2,i2c,i1,isN3,notN3,eqS3,neS3,ixL3,ixT3,len3,all3,any3,abs3,max23,min23,isi3,isB3,truth3,start3,slot,flatT,scal,tyn,M3.isNon,lenT,truT,isiB,Option.bind,take3,kbs,addP,mulP,ixP,slP,eqP,neP,isSeq,iterP,itemsP,no3,part3,sl3,raise3,brk3,cont3,M3.ltP,M3.leP,M3.gtP,M3.geP]
   exact fun r h0 h1=>hx _ ⟨r,h0,h1,rfl⟩
 rintro σ' ⟨k,k0,k1,rfl⟩
 refine seq_by (fun σ'=>2≤room∧5≤k∧σ'=[.val (.ref p),.val (.int room),.val (.lst (texts olds)),.val (.lst (texts news)),.val (.int k),.no,.no,.no,.no]) (fun nx hx=> ?_) ?_
 · by_cases c:room<2∨k<5
   · have go:∀N:N3,N.rt=Q→seq3 (asg3 (op3 addP (lc3 (iterP (v3 2)) (name3 8) yes3 (tup3 (cons3 (k3 (.str "old")) (cons3 (v3 8) nil3))) [8]) (lc3 (iterP (v3 3)) (name3 8) yes3 (tup3 (cons3 (k3 (.str "new")) (cons3 (v3 8) nil3))) [8])) (name3 5)) (seq3 (ifs3 (or3 (tst3 (op3 eqP (v3 5) (lst3 nil3))) (tst3 (op3 eqP (fnP30 p 2 take3 (cons3 (v3 0) (cons3 (k3 (.int 4)) nil3)) []) (k3 (.int 0))))) (ret3 (tup3 (cons3 (k3 (.str "cell")) (cons3 (fnP3 p 1 (Lcell C) (cons3 (v3 0) nil3) []) nil3)))) next3) (ret3 (op3 ixP (v3 5) (fnP30 p 2 take3 (cons3 (v3 0) (cons3 (call3 len3 (cons3 (v3 5) nil3)) nil3)) [])))) N [.val (.ref p),.val (.int room),.val (.lst (texts olds)),.val (.lst (texts news)),.val (.int k),.no,.no,.no,.no]:=by
      intro N hN
      have s1:=somes_ok (s:="old") (by exact ⟨by decide +kernel,by decide⟩) ho
      have s2:=somes_ok (s:="new") (by exact ⟨by decide +kernel,by decide⟩) hn
      have cs:=fun (s:Str) (X:X3) (Q:List T→Prop) (xs:List Str) hl=>some_comp (i:=8) (s:=s) (σ:=[.val (.ref p),.val (.int room),.val (.lst (texts olds)),.val (.lst (texts news)),.val (.int k),.no,.no,.no,.no]) (X:=X) (Q:=Q) (xs:=xs) hl (by simp)
      refine seq_by (fun σ'=>σ'=[.val (.ref p),.val (.int room),.val (.lst (texts olds)),.val (.lst (texts news)),.val (.int k),.val (.lst (somes "old" olds++somes "new" news)),.no,.no,.no]) (fun nx hx=> ?_) ?_
      · have l1:(somes "old" olds).length+(somes "new" news).length≤sizeLine:=by
         apply sl_big
         have:=ho.1
         have:=hn.1
         simp only [somes,List.length_map];omega
        have:=hx _ rfl
        simpa [seq3,next3,ret3,retN3,ifs3,drop3,asg3,name3,tst3,and3,or3,not3,andV3,orV3,notV3,if3,v3,k3,op3,un3,nil3,cons3,call3,tup3,lst3,chain3,fn30,fn3,fnN30,fnN3,fnP30,i2,i2c,i1,isN3,notN3,eqS3,neS3,ixL3,ixT3,len3,all3,any3,abs3,max23,min23,isi3,isB3,truth3,start3,slot,flatT,scal,tyn,M3.isNon,lenT,truT,isiB,Option.bind,take3,kbs,addP,mulP,ixP,slP,eqP,neP,isSeq,iterP,itemsP,no3,part3,sl3,raise3,brk3,cont3,M3.ltP,M3.leP,M3.gtP,M3.geP,lc3,noOwn,wipe3,cs _ _ _ _ ho.1,cs _ _ _ _ hn.1,l1] using this
      rintro σ' rfl
      have sm:∀t∈somes "old" olds++somes "new" news,gd 4 t=true∧dep t=1:=fun t ht=>(List.mem_append.mp ht).elim (s1 t) (s2 t)
      have sw:∀t∈somes "old" olds++somes "new" news,∃w:Wd false,t=w.tr∧w.ok olds news∧w.dp=1:=fun t ht=>by
       rcases List.mem_append.mp ht with ht | ht
       · obtain ⟨x,hm,rfl⟩:=List.mem_map.mp ht
         exact ⟨.col false x,rfl,hm,rfl⟩
       · obtain ⟨x,hm,rfl⟩:=List.mem_map.mp ht
         exact ⟨.col true x,rfl,hm,rfl⟩
      have l20:(somes "old" olds++somes "new" news).length≤24:=by
       have:=ho.1
       have:=hn.1
       simp only [somes,List.length_map,List.length_append];omega
      generalize somes "old" olds++somes "new" news=sm0 at sm sw l20 ⊢
      have en:=fun (Q:T→Prop)=>(eqP_seqL (Q:=Q)).symm.trans (eq_nilL (gdL_of fun t ht=>(sm t ht).1) (Nat.lt_of_le_of_lt (depL_of (k:=1) fun t ht=>Nat.le_of_eq (sm t ht).2) (by decide)) Q)
      have hc:∀t,isCellTree t→N.rt (.tup [.str "cell",t]):=fun t ht=>by
       obtain ⟨a,rfl,ha⟩:=cell_ofC ht
       rw [hN]
       exact hq (.cell a) ha (by simp [Wd.dp])
      refine seq_by (fun σ'=>sm0≠[]∧σ'=[.val (.ref p),.val (.int room),.val (.lst (texts olds)),.val (.lst (texts news)),.val (.int k),.val (.lst sm0),.no,.no,.no]) (fun nx hx=> ?_) ?_
      · cases sm0 with
        | nil=>
          simp [seq3,next3,ret3,retN3,ifs3,drop3,asg3,name3,tst3,and3,or3,not3,andV3,orV3,notV3,if3,v3,k3,op3,un3,nil3,cons3,call3,tup3,lst3,chain3,fn30,fn3,fnN30,fnN3,fnP30,i2,i2c,i1,isN3,notN3,eqS3,neS3,ixL3,ixT3,len3,all3,any3,abs3,max23,min23,isi3,isB3,truth3,start3,slot,flatT,scal,tyn,M3.isNon,lenT,truT,isiB,Option.bind,take3,kbs,addP,mulP,ixP,slP,eqP,neP,isSeq,iterP,itemsP,no3,part3,sl3,raise3,brk3,cont3,M3.ltP,M3.leP,M3.gtP,M3.geP,en,fnP3]
          exact cell_of C fun t ht=>⟨sl2,hc t ht⟩
        | cons a sm0=>
          have:=hx _ ⟨by simp,rfl⟩
          simp [seq3,next3,ret3,retN3,ifs3,drop3,asg3,name3,tst3,and3,or3,not3,andV3,orV3,notV3,if3,v3,k3,op3,un3,nil3,cons3,call3,tup3,lst3,chain3,fn30,fn3,fnN30,fnN3,fnP30,i2,i2c,i1,isN3,notN3,eqS3,neS3,ixL3,ixT3,len3,all3,any3,abs3,max23,min23,isi3,isB3,truth3,start3,slot,flatT,scal,tyn,M3.isNon,lenT,truT,isiB,Option.bind,take3,kbs,addP,mulP,ixP,slP,eqP,neP,isSeq,iterP,itemsP,no3,part3,sl3,raise3,brk3,cont3,M3.ltP,M3.leP,M3.gtP,M3.geP,en,fnP3]
          intro r r0 r1
          by_cases z:r=0
          · simp [z]
            exact cell_of C fun t ht=>⟨sl2,hc t ht⟩
          · simpa [z] using this
      rintro σ' ⟨ne,rfl⟩
      have l1:1≤sm0.length:=by cases sm0 with | nil=>exact absurd rfl ne | cons a b=>simp
      simp [seq3,next3,ret3,retN3,ifs3,drop3,asg3,name3,tst3,and3,or3,not3,andV3,orV3,notV3,if3,v3,k3,op3,un3,nil3,cons3,call3,tup3,lst3,chain3,fn30,fn3,fnN30,fnN3,fnP30,i2,i2c,i1,isN3,notN3,eqS3,neS3,ixL3,ixT3,len3,all3,any3,abs3,max23,min23,isi3,isB3,truth3,start3,slot,flatT,scal,tyn,M3.isNon,lenT,truT,isiB,Option.bind,take3,kbs,addP,mulP,ixP,slP,eqP,neP,isSeq,iterP,itemsP,no3,part3,sl3,raise3,brk3,cont3,M3.ltP,M3.leP,M3.gtP,M3.geP]
      refine ⟨by omega, ?_⟩
      first
       | exact fun r r0 r1=>ob_atI r0 (by omega) fun t ht=>by
          rw [hN]
          obtain ⟨w,rfl,w1,w2⟩:=sw t ht
          exact hq w w1 (by omega)
       | exact ⟨by omega,fun r r0 r1=>ob_atI r0 (by omega) fun t ht=>by
          rw [hN]
          obtain ⟨w,rfl,w1,w2⟩:=sw t ht
          exact hq w w1 (by omega)⟩
     have g1:=go {nx:=nx,rt:=Q,xn:=fun _=>X} rfl
     by_cases c1:room<2
     · simpa [ifs3,or3,tst3,op3,v3,k3,slot,M3.ltP,c1] using g1
     · have c2:=c.resolve_left c1
       simpa [ifs3,or3,tst3,op3,v3,k3,slot,M3.ltP,c1,c2] using g1
   · have:=hx _ ⟨by omega,by omega,rfl⟩
     have c1:¬room<2:=fun z=>c (.inl z)
     have c2:¬k<5:=fun z=>c (.inr z)
     simpa [seq3,next3,ret3,retN3,ifs3,drop3,asg3,name3,tst3,and3,or3,not3,andV3,orV3,notV3,if3,v3,k3,op3,un3,nil3,cons3,call3,tup3,lst3,chain3,fn30,fn3,fnN30,fnN3,fnP30,i2,i2c,i1,isN3,notN3,eqS3,neS3,ixL3,ixT3,len3,all3,any3,abs3,max23,min23,isi3,isB3,truth3,start3,slot,flatT,scal,tyn,M3.isNon,lenT,truT,isiB,Option.bind,take3,kbs,addP,mulP,ixP,slP,eqP,neP,isSeq,iterP,itemsP,no3,part3,sl3,raise3,brk3,cont3,M3.ltP,M3.leP,M3.gtP,M3.geP,c1,c2] using this
 rintro σ' ⟨r2',k5,rfl⟩
 have h:=h (by omega)
 refine seq_by (fun σ'=>σ'=[.val (.ref p),.val (.int room),.val (.lst (texts olds)),.val (.lst (texts news)),.val (.int k),.no,.no,.no,.no]) (fun nx hx=> ?_) ?_
 · by_cases c:k=9
   · subst c
     simp [seq3,next3,ret3,retN3,ifs3,drop3,asg3,name3,tst3,and3,or3,not3,andV3,orV3,notV3,if3,v3,k3,op3,un3,nil3,cons3,call3,tup3,lst3,chain3,fn30,fn3,fnN30,fnN3,fnP30,i2,i2c,i1,isN3,notN3,eqS3,neS3,ixL3,ixT3,len3,all3,any3,abs3,max23,min23,isi3,isB3,truth3,start3,slot,flatT,scal,tyn,M3.isNon,lenT,truT,isiB,Option.bind,take3,kbs,addP,mulP,ixP,slP,eqP,neP,isSeq,iterP,itemsP,no3,part3,sl3,raise3,brk3,cont3,M3.ltP,M3.leP,M3.gtP,M3.geP,fnP3]
     refine h.2 _ _ _ (by omega) fun t1 g1 d1=> ?_
     refine h.1 _ _ _ (by omega) fun t2 g2 d2=> ?_
     refine h.1 _ _ _ (by omega) fun t3 g3 d3=> ?_
     exact ⟨sl4,hq (.ch t1 t2 t3) ⟨g1,g2,g3⟩ (by simp only [Wd.dp];omega)⟩
   · simpa [seq3,next3,ret3,retN3,ifs3,drop3,asg3,name3,tst3,and3,or3,not3,andV3,orV3,notV3,if3,v3,k3,op3,un3,nil3,cons3,call3,tup3,lst3,chain3,fn30,fn3,fnN30,fnN3,fnP30,i2,i2c,i1,isN3,notN3,eqS3,neS3,ixL3,ixT3,len3,all3,any3,abs3,max23,min23,isi3,isB3,truth3,start3,slot,flatT,scal,tyn,M3.isNon,lenT,truT,isiB,Option.bind,take3,kbs,addP,mulP,ixP,slP,eqP,neP,isSeq,iterP,itemsP,no3,part3,sl3,raise3,brk3,cont3,M3.ltP,M3.leP,M3.gtP,M3.geP,c] using hx _ rfl
 rintro σ' rfl
 refine seq_by (fun σ'=>∃s:Sop,σ'=[.val (.ref p),.val (.int room),.val (.lst (texts olds)),.val (.lst (texts news)),.val (.int k),.no,.no,.val (.str s.nm),.no]) (fun nx hx=> ?_) ?_
 · simp [seq3,next3,ret3,retN3,ifs3,drop3,asg3,name3,tst3,and3,or3,not3,andV3,orV3,notV3,if3,v3,k3,op3,un3,nil3,cons3,call3,tup3,lst3,chain3,fn30,fn3,fnN30,fnN3,fnP30,i2,i2c,i1,isN3,notN3,eqS3,neS3,ixL3,ixT3,len3,all3,any3,abs3,max23,min23,isi3,isB3,truth3,start3,slot,flatT,scal,tyn,M3.isNon,lenT,truT,isiB,Option.bind,take3,kbs,addP,mulP,ixP,slP,eqP,neP,isSeq,iterP,itemsP,no3,part3,sl3,raise3,brk3,cont3,M3.ltP,M3.leP,M3.gtP,M3.geP,sl5]
   intro r r0 r1
   refine ob_atI (Int.emod_nonneg _ (by decide)) (Int.lt_of_lt_of_le (Int.emod_lt_of_pos _ (by decide)) (by decide)) fun t ht=> ?_
   simp at ht
   rcases ht with rfl | rfl | rfl | rfl | rfl
   · exact hx _ ⟨.plus,rfl⟩
   · exact hx _ ⟨.minus,rfl⟩
   · exact hx _ ⟨.times,rfl⟩
   · exact hx _ ⟨.least,rfl⟩
   · exact hx _ ⟨.most,rfl⟩
 rintro σ' ⟨s,rfl⟩
 simp [seq3,next3,ret3,retN3,ifs3,drop3,asg3,name3,tst3,and3,or3,not3,andV3,orV3,notV3,if3,v3,k3,op3,un3,nil3,cons3,call3,tup3,lst3,chain3,fn30,fn3,fnN30,fnN3,fnP30,i2,i2c,i1,isN3,notN3,eqS3,neS3,ixL3,ixT3,len3,all3,any3,abs3,max23,min23,isi3,isB3,truth3,start3,slot,flatT,scal,tyn,M3.isNon,lenT,truT,isiB,Option.bind,take3,kbs,addP,mulP,ixP,slP,eqP,neP,isSeq,iterP,itemsP,no3,part3,sl3,raise3,brk3,cont3,M3.ltP,M3.leP,M3.gtP,M3.geP,fnP3]
 refine h.1 _ _ _ (by omega) fun t2 g2 d2=> ?_
 refine h.1 _ _ _ (by omega) fun t3 g3 d3=> ?_
 exact ⟨szl3,hq (.sum s t2 t3) ⟨g2,g3⟩ (by simp only [Wd.dp];omega)⟩
theorem truth_step {C:Cs} {p:Addr} {olds news:List Str} {f n:Nat} (h:1≤n→VD C p olds news f n∧TD C p olds news f n):TD C p olds news (f+1) (n+1):=by
 intro room Q X hr hq
 rw [Ltruth_succ]
 show LtruthB C p _ _ _ [.val (.ref p),.val (.int room),.val (.lst (texts olds)),.val (.lst (texts news)),.no,.no,.no]
 unfold VD TD at h
 generalize Lvalue C f=r1 at h ⊢
 generalize Ltruth C f=r2 at h ⊢
 unfold LtruthB
 refine seq_by (fun σ'=>∃k:Int,0≤k∧k<10∧σ'=[.val (.ref p),.val (.int room),.val (.lst (texts olds)),.val (.lst (texts news)),.val (.int k),.no,.no]) (fun nx hx=> ?_) ?_
 · simp [seq3,next3,ret3,retN3,ifs3,drop3,asg3,name3,tst3,and3,or3,not3,andV3,orV3,notV3,if3,v3,k3,op3,un3,nil3,cons3,call3,tup3,lst3,chain3,fn30,fn3,fnN30,fnN3,fnP30,i2,i2c,i1,isN3,notN3,eqS3,neS3,ixL3,ixT3,len3,all3,any3,abs3,max23,min23,isi3,isB3,truth3,start3,slot,flatT,scal,tyn,M3.isNon,lenT,truT,isiB,Option.bind,take3,kbs,addP,mulP,ixP,slP,eqP,neP,isSeq,iterP,itemsP,no3,part3,sl3,raise3,brk3,cont3,M3.ltP,M3.leP,M3.gtP,M3.geP]
   exact fun r h0 h1=>hx _ ⟨r,h0,h1,rfl⟩
 rintro σ' ⟨k,k0,k1,rfl⟩
 refine seq_by (fun σ'=>2≤room∧1≤k∧σ'=[.val (.ref p),.val (.int room),.val (.lst (texts olds)),.val (.lst (texts news)),.val (.int k),.no,.no]) (fun nx hx=> ?_) ?_
 · have y:Q (.tup [.str "yes"]):=hq .yes trivial (by simp [Wd.dp])
   by_cases c1:room<2
   · simpa [seq3,next3,ret3,retN3,ifs3,drop3,asg3,name3,tst3,and3,or3,not3,andV3,orV3,notV3,if3,v3,k3,op3,un3,nil3,cons3,call3,tup3,lst3,chain3,fn30,fn3,fnN30,fnN3,fnP30,i2,i2c,i1,isN3,notN3,eqS3,neS3,ixL3,ixT3,len3,all3,any3,abs3,max23,min23,isi3,isB3,truth3,start3,slot,flatT,scal,tyn,M3.isNon,lenT,truT,isiB,Option.bind,take3,kbs,addP,mulP,ixP,slP,eqP,neP,isSeq,iterP,itemsP,no3,part3,sl3,raise3,brk3,cont3,M3.ltP,M3.leP,M3.gtP,M3.geP,sl1,c1] using y
   · by_cases c2:k=0
     · simpa [seq3,next3,ret3,retN3,ifs3,drop3,asg3,name3,tst3,and3,or3,not3,andV3,orV3,notV3,if3,v3,k3,op3,un3,nil3,cons3,call3,tup3,lst3,chain3,fn30,fn3,fnN30,fnN3,fnP30,i2,i2c,i1,isN3,notN3,eqS3,neS3,ixL3,ixT3,len3,all3,any3,abs3,max23,min23,isi3,isB3,truth3,start3,slot,flatT,scal,tyn,M3.isNon,lenT,truT,isiB,Option.bind,take3,kbs,addP,mulP,ixP,slP,eqP,neP,isSeq,iterP,itemsP,no3,part3,sl3,raise3,brk3,cont3,M3.ltP,M3.leP,M3.gtP,M3.geP,sl1,c1,c2] using y
     · simpa [seq3,next3,ret3,retN3,ifs3,drop3,asg3,name3,tst3,and3,or3,not3,andV3,orV3,notV3,if3,v3,k3,op3,un3,nil3,cons3,call3,tup3,lst3,chain3,fn30,fn3,fnN30,fnN3,fnP30,i2,i2c,i1,isN3,notN3,eqS3,neS3,ixL3,ixT3,len3,all3,any3,abs3,max23,min23,isi3,isB3,truth3,start3,slot,flatT,scal,tyn,M3.isNon,lenT,truT,isiB,Option.bind,take3,kbs,addP,mulP,ixP,slP,eqP,neP,isSeq,iterP,itemsP,no3,part3,sl3,raise3,brk3,cont3,M3.ltP,M3.leP,M3.gtP,M3.geP,sl1,c1,c2] using hx _ ⟨by omega,by omega,rfl⟩
 rintro σ' ⟨r2',k1',rfl⟩
 have h:=h (by omega)
 refine seq_by (fun σ'=>σ'=[.val (.ref p),.val (.int room),.val (.lst (texts olds)),.val (.lst (texts news)),.val (.int k),.no,.no]) (fun nx hx=> ?_) ?_
 · by_cases c:k<6
   · simp [seq3,next3,ret3,retN3,ifs3,drop3,asg3,name3,tst3,and3,or3,not3,andV3,orV3,notV3,if3,v3,k3,op3,un3,nil3,cons3,call3,tup3,lst3,chain3,fn30,fn3,fnN30,fnN3,fnP30,i2,i2c,i1,isN3,notN3,eqS3,neS3,ixL3,ixT3,len3,all3,any3,abs3,max23,min23,isi3,isB3,truth3,start3,slot,flatT,scal,tyn,M3.isNon,lenT,truT,isiB,Option.bind,take3,kbs,addP,mulP,ixP,slP,eqP,neP,isSeq,iterP,itemsP,no3,part3,sl3,raise3,brk3,cont3,M3.ltP,M3.leP,M3.gtP,M3.geP,fnP3,c]
     refine h.1 _ _ _ (by split<;>omega) fun t1 g1 d1=> ?_
     by_cases c5:k=5
     · subst c5
       simp [sl2]
       exact hq (.lacks t1) g1 (by simp only [Wd.dp];omega)
     · simp [c5,sl2]
       have q0:0≤k / 4:=by omega
       have q1:k / 4<2:=by omega
       refine ⟨?_,ob_atI (r:=k / 4) q0 (Int.lt_of_lt_of_le q1 (by decide)) fun t ht=> ?_⟩
       · exact ⟨by decide,by decide⟩
       have gt:∃lt:Bool,t= .str (if lt then "below" else "is"):=by
        simp at ht
        rcases ht with rfl | rfl
        · exact ⟨false,rfl⟩
        · exact ⟨true,rfl⟩
       obtain ⟨lt,rfl⟩:=gt
       refine h.1 _ _ _ (by split<;>omega) fun t2 g2 d2=> ?_
       exact ⟨szl3,hq (.cmp lt t1 t2) ⟨g1,g2⟩ (by simp only [Wd.dp];omega)⟩
   · simpa [seq3,next3,ret3,retN3,ifs3,drop3,asg3,name3,tst3,and3,or3,not3,andV3,orV3,notV3,if3,v3,k3,op3,un3,nil3,cons3,call3,tup3,lst3,chain3,fn30,fn3,fnN30,fnN3,fnP30,i2,i2c,i1,isN3,notN3,eqS3,neS3,ixL3,ixT3,len3,all3,any3,abs3,max23,min23,isi3,isB3,truth3,start3,slot,flatT,scal,tyn,M3.isNon,lenT,truT,isiB,Option.bind,take3,kbs,addP,mulP,ixP,slP,eqP,neP,isSeq,iterP,itemsP,no3,part3,sl3,raise3,brk3,cont3,M3.ltP,M3.leP,M3.gtP,M3.geP,c] using hx _ rfl
 rintro σ' rfl
 refine seq_by (fun σ'=>σ'=[.val (.ref p),.val (.int room),.val (.lst (texts olds)),.val (.lst (texts news)),.val (.int k),.no,.no]) (fun nx hx=> ?_) ?_
 · by_cases c:k=6
   · subst c
     simp [seq3,next3,ret3,retN3,ifs3,drop3,asg3,name3,tst3,and3,or3,not3,andV3,orV3,notV3,if3,v3,k3,op3,un3,nil3,cons3,call3,tup3,lst3,chain3,fn30,fn3,fnN30,fnN3,fnP30,i2,i2c,i1,isN3,notN3,eqS3,neS3,ixL3,ixT3,len3,all3,any3,abs3,max23,min23,isi3,isB3,truth3,start3,slot,flatT,scal,tyn,M3.isNon,lenT,truT,isiB,Option.bind,take3,kbs,addP,mulP,ixP,slP,eqP,neP,isSeq,iterP,itemsP,no3,part3,sl3,raise3,brk3,cont3,M3.ltP,M3.leP,M3.gtP,M3.geP,fnP3]
     refine h.2 _ _ _ (by omega) fun t1 g1 d1=> ?_
     exact ⟨sl2,hq (.no t1) g1 (by simp only [Wd.dp];omega)⟩
   · simpa [seq3,next3,ret3,retN3,ifs3,drop3,asg3,name3,tst3,and3,or3,not3,andV3,orV3,notV3,if3,v3,k3,op3,un3,nil3,cons3,call3,tup3,lst3,chain3,fn30,fn3,fnN30,fnN3,fnP30,i2,i2c,i1,isN3,notN3,eqS3,neS3,ixL3,ixT3,len3,all3,any3,abs3,max23,min23,isi3,isB3,truth3,start3,slot,flatT,scal,tyn,M3.isNon,lenT,truT,isiB,Option.bind,take3,kbs,addP,mulP,ixP,slP,eqP,neP,isSeq,iterP,itemsP,no3,part3,sl3,raise3,brk3,cont3,M3.ltP,M3.leP,M3.gtP,M3.geP,c] using hx _ rfl
 rintro σ' rfl
 refine seq_by (fun σ'=>∃e:Bool,σ'=[.val (.ref p),.val (.int room),.val (.lst (texts olds)),.val (.lst (texts news)),.val (.int k),.no,.val (.str (if e then "either" else "both"))]) (fun nx hx=> ?_) ?_
 · simp [seq3,next3,ret3,retN3,ifs3,drop3,asg3,name3,tst3,and3,or3,not3,andV3,orV3,notV3,if3,v3,k3,op3,un3,nil3,cons3,call3,tup3,lst3,chain3,fn30,fn3,fnN30,fnN3,fnP30,i2,i2c,i1,isN3,notN3,eqS3,neS3,ixL3,ixT3,len3,all3,any3,abs3,max23,min23,isi3,isB3,truth3,start3,slot,flatT,scal,tyn,M3.isNon,lenT,truT,isiB,Option.bind,take3,kbs,addP,mulP,ixP,slP,eqP,neP,isSeq,iterP,itemsP,no3,part3,sl3,raise3,brk3,cont3,M3.ltP,M3.leP,M3.gtP,M3.geP,sl2]
   refine ob_atI (Int.emod_nonneg _ (by decide)) (Int.lt_of_lt_of_le (Int.emod_lt_of_pos _ (by decide)) (by decide)) fun t ht=> ?_
   simp at ht
   rcases ht with rfl | rfl
   · exact hx _ ⟨false,rfl⟩
   · exact hx _ ⟨true,rfl⟩
 rintro σ' ⟨e,rfl⟩
 simp [seq3,next3,ret3,retN3,ifs3,drop3,asg3,name3,tst3,and3,or3,not3,andV3,orV3,notV3,if3,v3,k3,op3,un3,nil3,cons3,call3,tup3,lst3,chain3,fn30,fn3,fnN30,fnN3,fnP30,i2,i2c,i1,isN3,notN3,eqS3,neS3,ixL3,ixT3,len3,all3,any3,abs3,max23,min23,isi3,isB3,truth3,start3,slot,flatT,scal,tyn,M3.isNon,lenT,truT,isiB,Option.bind,take3,kbs,addP,mulP,ixP,slP,eqP,neP,isSeq,iterP,itemsP,no3,part3,sl3,raise3,brk3,cont3,M3.ltP,M3.leP,M3.gtP,M3.geP,fnP3]
 refine h.2 _ _ _ (by omega) fun t2 g2 d2=> ?_
 refine h.2 _ _ _ (by omega) fun t3 g3 d3=> ?_
 exact ⟨szl3,hq (.jn e t2 t3) ⟨g2,g3⟩ (by simp only [Wd.dp];omega)⟩
theorem draws_ok {C:Cs} {p:Addr} {olds news:List Str} (ho:nms olds) (hn:nms news):∀n f:Nat,n+1≤f→VD C p olds news f (n+1)∧TD C p olds news f (n+1)
 | 0,f,h=>by
   obtain ⟨g,rfl⟩:∃g,f=g+1:=⟨f-1,by omega⟩
   exact ⟨value_step ho hn fun z=>absurd z (by decide),truth_step fun z=>absurd z (by decide)⟩
 | n+1,f,h=>by
   obtain ⟨g,rfl⟩:∃g,f=g+1:=⟨f-1,by omega⟩
   have ih:=draws_ok (C:=C) (p:=p) ho hn n g (by omega)
   exact ⟨value_step ho hn fun _=>ih,truth_step fun _=>ih⟩
end Law
namespace Law
open PySem L2 M3
abbrev KW:=Σ b,Wd b
def Wd.kids:{b:Bool}→Wd b→List KW
 | _,.cell _=>[]
 | _,.col _ _=>[]
 | _,.yes=>[]
 | _,.ch t a b=>[⟨_,t⟩,⟨_,a⟩,⟨_,b⟩]
 | _,.sum _ a b=>[⟨_,a⟩,⟨_,b⟩]
 | _,.lacks a=>[⟨_,a⟩]
 | _,.cmp _ a b=>[⟨_,a⟩,⟨_,b⟩]
 | _,.no a=>[⟨_,a⟩]
 | _,.jn _ a b=>[⟨_,a⟩,⟨_,b⟩]
def Wd.sides:{b:Bool}→Wd b→List (Bool×Str)
 | _,.cell _=>[]
 | _,.col s x=>[(s,x)]
 | _,.yes=>[]
 | _,.ch t a b=>t.sides++(a.sides++b.sides)
 | _,.sum _ a b=>a.sides++b.sides
 | _,.lacks a=>a.sides
 | _,.cmp _ a b=>a.sides++b.sides
 | _,.no a=>a.sides
 | _,.jn _ a b=>a.sides++b.sides
def sideS (s:Bool):Str:=if s then "new" else "old"
def ktr (k:KW):T:=k.2.tr
structure Node {b:Bool} (w:Wd b) (hd:Str):Prop where
 tr:w.tr= .tup (.str hd::w.kids.map ktr)
 h1:hd≠"cell"
 h2:hd≠"old"
 h3:hd≠"new"
 len:w.kids.length≤3
 sd:w.sides=w.kids.flatMap fun k=>k.2.sides
 dp:(w.kids.map fun k=>k.2.dp).foldl max 0+1=w.dp
 lt:∀k∈w.kids,k.2.dp<w.dp
 ok:∀os ns,w.ok os ns→∀k∈w.kids,k.2.ok os ns
inductive View {b:Bool} (w:Wd b):Prop
 | cell (c:Option Int) (tr:w.tr= .tup [.str "cell",ofC c]) (sd:w.sides=[]) (dp:w.dp=1)
 | col (s:Bool) (x:Str) (tr:w.tr= .tup [.str (sideS s),.str x]) (sd:w.sides=[(s,x)]) (dp:w.dp=1) (ok:∀os ns,w.ok os ns→x∈if s then ns else os)
 | node (hd:Str) (n:Node w hd)
theorem mx0 (a:Nat):max 0 a=a:=by omega
theorem view {b:Bool} (w:Wd b):View w:=by
 cases w with
 | cell c=>exact .cell c rfl rfl rfl
 | col s x=>exact .col s x rfl rfl rfl (fun os ns h=>h)
 | ch t a b=>exact .node "choose" ⟨rfl,by decide +kernel,by decide +kernel,by decide +kernel,by simp [Wd.kids],by simp [Wd.kids,Wd.sides],by simp [Wd.kids,Wd.dp,List.foldl,mx0]<;>omega,by simp [Wd.kids,Wd.dp]<;>omega,fun os ns h=>by simpa [Wd.kids,Wd.ok] using h⟩
 | sum o a b=>exact .node o.nm ⟨rfl,by cases o<;>decide +kernel,by cases o<;>decide +kernel,by cases o<;>decide +kernel,by simp [Wd.kids],by simp [Wd.kids,Wd.sides],by simp [Wd.kids,Wd.dp,List.foldl,mx0],by simp [Wd.kids,Wd.dp]<;>omega,fun os ns h=>by simpa [Wd.kids,Wd.ok] using h⟩
 | yes=>exact .node "yes" ⟨rfl,by decide +kernel,by decide +kernel,by decide +kernel,by simp [Wd.kids],by simp [Wd.kids,Wd.sides],by simp [Wd.kids,Wd.dp,List.foldl],by simp [Wd.kids],fun os ns h=>by simp [Wd.kids]⟩
 | lacks a=>exact .node "lacks" ⟨rfl,by decide +kernel,by decide +kernel,by decide +kernel,by simp [Wd.kids],by simp [Wd.kids,Wd.sides],by simp [Wd.kids,Wd.dp,List.foldl,mx0],by simp [Wd.kids,Wd.dp],fun os ns h=>by simpa [Wd.kids,Wd.ok] using h⟩
 | cmp lt a b=>exact .node (if lt then "below" else "is") ⟨rfl,by cases lt<;>decide +kernel,by cases lt<;>decide +kernel,by cases lt<;>decide +kernel,by simp [Wd.kids],by simp [Wd.kids,Wd.sides],by simp [Wd.kids,Wd.dp,List.foldl,mx0],by simp [Wd.kids,Wd.dp]<;>omega,fun os ns h=>by simpa [Wd.kids,Wd.ok] using h⟩
 | no a=>exact .node "not" ⟨rfl,by decide +kernel,by decide +kernel,by decide +kernel,by simp [Wd.kids],by simp [Wd.kids,Wd.sides],by simp [Wd.kids,Wd.dp,List.foldl,mx0],by simp [Wd.kids,Wd.dp],fun os ns h=>by simpa [Wd.kids,Wd.ok] using h⟩
 | jn e a b=>exact .node (if e then "either" else "both") ⟨rfl,by cases e<;>decide +kernel,by cases e<;>decide +kernel,by cases e<;>decide +kernel,by simp [Wd.kids],by simp [Wd.kids,Wd.sides],by simp [Wd.kids,Wd.dp,List.foldl,mx0],by simp [Wd.kids,Wd.dp]<;>omega,fun os ns h=>by simpa [Wd.kids,Wd.ok] using h⟩
theorem comp_kids {α:Type} {i:Nat} {te:E3} {σ:List Sl} {X:X3} {f g:α→T} {Q:List T→Prop}:∀(ks:List α) (acc:List T),(∀k∈ks,∀Q':T→Prop,te (σ.set i (.val (f k))) Q' X=Q' (g k))→acc.length+ks.length≤100000→comp3 (name3 i) yes3 te σ X Q (ks.map f) acc=Q (acc++ks.map g)
 | [],acc,_,_=>by simp [comp3]
 | d::ds,acc,hd,hl=>by
   have e1:=hd d (List.mem_cons_self ..)
   have e2:=comp_kids (i:=i) (te:=te) (σ:=σ) (X:=X) (f:=f) (g:=g) (Q:=Q) ds (acc++[g d]) (fun x hx=>hd x (List.mem_cons_of_mem _ hx)) (by simp at hl ⊢;omega)
   have e3:acc.length<sizeLine:=by
    have:sizeLine=16777216:=by decide
    simp at hl;omega
   show (te (σ.set i (.val (f d))) (fun y=>acc.length<sizeLine∧comp3 (name3 i) yes3 te σ X Q (ds.map f) (acc++[y])) X)=_
   rw [e1,e2]
   simp [e3]
end Law
namespace Law
open PySem L2 M3
theorem lookup_strs (s:Str):∀l:List (Str×Str),(l.map fun p=>(p.1,T.str p.2)).lookup s=(l.lookup s).map T.str
 | []=>rfl
 | (a,b)::l=>by
   simp only [List.map_cons,List.lookup]
   cases s==a with
   | true=>rfl
   | false=>exact lookup_strs s l
def VPk:List (Str×Str):=[("plus","vv"),("minus","vv"),("times","vv"),("least","vv"),("most","vv"),("choose","tvv")]
def TPk:List (Str×Str):=[("yes",""),("is","vv"),("below","vv"),("lacks","v"),("not","t"),("both","tt"),("either","tt")]
theorem VP_lookup (s:Str):List.lookup s [("plus",(T.str "vv")),("minus",(.str "vv")),("times",(.str "vv")),("least",(.str "vv")),("most",(.str "vv")),("choose",(.str "tvv"))]=(VPk.lookup s).map T.str:=lookup_strs s VPk
theorem TP_lookup (s:Str):List.lookup s [("yes",(T.str "")),("is",(.str "vv")),("below",(.str "vv")),("lacks",(.str "v")),("not",(.str "t")),("both",(.str "tt")),("either",(.str "tt"))]=(TPk.lookup s).map T.str:=lookup_strs s TPk
def cellB:T→Bool
 | .non=>true
 | .int i=>decide (-MOSTi≤i∧i≤MOSTi)
 | _=>false
def strB:T→Bool
 | .str _=>true
 | _=>false
def all2 (r:Bool→T→Bool):List Nat→List T→Bool
 | [],[]=>true
 | k::ks,x::xs=>r (decide (k=118)) x&&all2 r ks xs
 | _,_=>false
def oneB (p:T→Bool):List T→Bool
 | [x]=>p x
 | _=>false
def fitSW (r:Bool→T→Bool) (v:Bool):T→Bool
 | .tup (.str s::xs)=>
   if v=true∧s="cell" then oneB cellB xs
   else if v=true∧(s="old"∨s="new") then oneB strB xs
   else match (if v=true then VPk else TPk).lookup s with
    | some ks=>all2 r ks.cps.toList xs
    | none=>false
 | _=>false
def fitW:Nat→Bool→T→Bool
 | 0,_,_=>false
 | n+1,v,w=>fitSW (fitW n) v w
theorem all2_len {r:Bool→T→Bool}:∀ {ks:List Nat} {xs:List T},all2 r ks xs=true→xs.length=ks.length
 | [],[],_=>rfl
 | k::ks,x::xs,h=>by
   simp only [all2,Bool.and_eq_true] at h
   simp [all2_len h.2]
 | [],_::_,h=>by simp [all2] at h
 | _::_,[],h=>by simp [all2] at h
theorem all2_ne {r:Bool→T→Bool} {ks:List Nat} {xs:List T} (h:xs.length≠ks.length):all2 r ks xs=false:=by
 cases z:all2 r ks xs with
 | false=>rfl
 | true=>exact absurd (all2_len z) h
theorem is_cell_eq (C:Cs) {m:Nat} {x:T} (hx:gd m x=true) (Q:T→Prop) (X:X3):is_cell C [x,.int 999999999999999999999999999999] Q X=Q (.bl (cellB x)):=by
 rw [is_cell_def]
 show is_cellB C _ [Sl.val x,Sl.val (.int 999999999999999999999999999999)]=_
 cases x with
 | non=>simp [is_cellB,seq3,next3,ret3,retN3,ifs3,drop3,asg3,name3,tst3,and3,or3,not3,andV3,orV3,notV3,if3,v3,k3,op3,un3,nil3,cons3,call3,tup3,lst3,chain3,fn30,fn3,fnN30,fnN3,fnP30,i2,i2c,i1,isN3,notN3,eqS3,neS3,ixL3,ixT3,len3,all3,any3,abs3,max23,min23,isi3,isB3,truth3,start3,slot,flatT,scal,tyn,M3.isNon,lenT,truT,isiB,Option.bind,take3,kbs,addP,mulP,ixP,slP,eqP,neP,isSeq,iterP,itemsP,no3,part3,sl3,raise3,brk3,cont3,M3.ltP,M3.leP,M3.gtP,M3.geP,cellB]
 | bl b=>simp [is_cellB,seq3,next3,ret3,retN3,ifs3,drop3,asg3,name3,tst3,and3,or3,not3,andV3,orV3,notV3,if3,v3,k3,op3,un3,nil3,cons3,call3,tup3,lst3,chain3,fn30,fn3,fnN30,fnN3,fnP30,i2,i2c,i1,isN3,notN3,eqS3,neS3,ixL3,ixT3,len3,all3,any3,abs3,max23,min23,isi3,isB3,truth3,start3,slot,flatT,scal,tyn,M3.isNon,lenT,truT,isiB,Option.bind,take3,kbs,addP,mulP,ixP,slP,eqP,neP,isSeq,iterP,itemsP,no3,part3,sl3,raise3,brk3,cont3,M3.ltP,M3.leP,M3.gtP,M3.geP,cellB]
 | int i=>
   by_cases h: -MOSTi≤i
   · simp [is_cellB,seq3,next3,ret3,retN3,ifs3,drop3,asg3,name3,tst3,and3,or3,not3,andV3,orV3,notV3,if3,v3,k3,op3,un3,nil3,cons3,call3,tup3,lst3,chain3,fn30,fn3,fnN30,fnN3,fnP30,i2,i2c,i1,isN3,notN3,eqS3,neS3,ixL3,ixT3,len3,all3,any3,abs3,max23,min23,isi3,isB3,truth3,start3,slot,flatT,scal,tyn,M3.isNon,lenT,truT,isiB,Option.bind,take3,kbs,addP,mulP,ixP,slP,eqP,neP,isSeq,iterP,itemsP,no3,part3,sl3,raise3,brk3,cont3,M3.ltP,M3.leP,M3.gtP,M3.geP,cellB,h]
   · simp [is_cellB,seq3,next3,ret3,retN3,ifs3,drop3,asg3,name3,tst3,and3,or3,not3,andV3,orV3,notV3,if3,v3,k3,op3,un3,nil3,cons3,call3,tup3,lst3,chain3,fn30,fn3,fnN30,fnN3,fnP30,i2,i2c,i1,isN3,notN3,eqS3,neS3,ixL3,ixT3,len3,all3,any3,abs3,max23,min23,isi3,isB3,truth3,start3,slot,flatT,scal,tyn,M3.isNon,lenT,truT,isiB,Option.bind,take3,kbs,addP,mulP,ixP,slP,eqP,neP,isSeq,iterP,itemsP,no3,part3,sl3,raise3,brk3,cont3,M3.ltP,M3.leP,M3.gtP,M3.geP,cellB,h]
 | str z=>simp [is_cellB,seq3,next3,ret3,retN3,ifs3,drop3,asg3,name3,tst3,and3,or3,not3,andV3,orV3,notV3,if3,v3,k3,op3,un3,nil3,cons3,call3,tup3,lst3,chain3,fn30,fn3,fnN30,fnN3,fnP30,i2,i2c,i1,isN3,notN3,eqS3,neS3,ixL3,ixT3,len3,all3,any3,abs3,max23,min23,isi3,isB3,truth3,start3,slot,flatT,scal,tyn,M3.isNon,lenT,truT,isiB,Option.bind,take3,kbs,addP,mulP,ixP,slP,eqP,neP,isSeq,iterP,itemsP,no3,part3,sl3,raise3,brk3,cont3,M3.ltP,M3.leP,M3.gtP,M3.geP,cellB]
 | tup z=>simp [is_cellB,seq3,next3,ret3,retN3,ifs3,drop3,asg3,name3,tst3,and3,or3,not3,andV3,orV3,notV3,if3,v3,k3,op3,un3,nil3,cons3,call3,tup3,lst3,chain3,fn30,fn3,fnN30,fnN3,fnP30,i2,i2c,i1,isN3,notN3,eqS3,neS3,ixL3,ixT3,len3,all3,any3,abs3,max23,min23,isi3,isB3,truth3,start3,slot,flatT,scal,tyn,M3.isNon,lenT,truT,isiB,Option.bind,take3,kbs,addP,mulP,ixP,slP,eqP,neP,isSeq,iterP,itemsP,no3,part3,sl3,raise3,brk3,cont3,M3.ltP,M3.leP,M3.gtP,M3.geP,cellB]
 | _=>simp [gd] at hx
theorem in_on (s:Str) (Q:T→Prop):inP false (.str s) (.tup [.str "old",.str "new"]) Q=Q (.bl (decide (s="old"∨s="new"))):=by
 have:=in_texts (neg:=false) s ["old","new"] Q
 simpa [texts] using this
theorem ch_v (c:Nat):decide ((⟨#[c]⟩:Str)="v")=decide (c=118):=by
 have e:("v":Str)=⟨#[118]⟩:=by rfl
 rw [e]
 simp
abbrev VOk (C:Cs) (f n:Nat):Prop:=∀(w:T) (Q:T→Prop) (X:X3),gd 1000002 w=true→is_value C f [w,.int (n:Int)] Q X=Q (.bl (fitW n true w))
abbrev TOk (C:Cs) (f n:Nat):Prop:=∀(w:T) (Q:T→Prop) (X:X3),gd 1000002 w=true→is_truth C f [w,.int (n:Int)] Q X=Q (.bl (fitW n false w))
abbrev POk (C:Cs) (f n:Nat):Prop:=∀(s ks:Str) (xs:List T) (Q:T→Prop) (X:X3),gdL 1000002 xs=true→ks.length≤1000→parts_fit C f [.tup (.str s::xs),.str ks,.int ((n+1:Nat):Int)] Q X=Q (.bl (all2 (fitW n) ks.cps.toList xs))
theorem vp_short {s ks:Str} (h:VPk.lookup s=some ks):1≤ks.length∧ks.length≤3:=by
 simp only [VPk,List.lookup] at h
 repeat' split at h
 all_goals first | (cases h;done) | (cases h;decide)
theorem tp_short {s ks:Str} (h:TPk.lookup s=some ks):ks.length≤2:=by
 simp only [TPk,List.lookup] at h
 repeat' split at h
 all_goals first | (cases h;done) | (cases h;decide)
theorem cps_len (z:Str):z.cps.toList.length=z.length:=by rw [Array.length_toList];rfl
theorem v_zero (C:Cs) (f:Nat):VOk C (f+1) 0:=by
 intro w Q X hw
 rw [is_value_succ]
 show is_valueB C _ _ _ _ [Sl.val w,Sl.val (.int 0)]=_
 simp [is_valueB,seq3,next3,ret3,retN3,ifs3,drop3,asg3,name3,tst3,and3,or3,not3,andV3,orV3,notV3,if3,v3,k3,op3,un3,nil3,cons3,call3,tup3,lst3,chain3,fn30,fn3,fnN30,fnN3,fnP30,i2,i2c,i1,isN3,notN3,eqS3,neS3,ixL3,ixT3,len3,all3,any3,abs3,max23,min23,isi3,isB3,truth3,start3,slot,flatT,scal,tyn,M3.isNon,lenT,truT,isiB,Option.bind,take3,kbs,addP,mulP,ixP,slP,eqP,neP,isSeq,iterP,itemsP,no3,part3,sl3,raise3,brk3,cont3,M3.ltP,M3.leP,M3.gtP,M3.geP,fitW]
theorem t_zero (C:Cs) (f:Nat):TOk C (f+1) 0:=by
 intro w Q X hw
 rw [is_truth_succ]
 show is_truthB C _ _ _ _ [Sl.val w,Sl.val (.int 0)]=_
 simp [is_truthB,seq3,next3,ret3,retN3,ifs3,drop3,asg3,name3,tst3,and3,or3,not3,andV3,orV3,notV3,if3,v3,k3,op3,un3,nil3,cons3,call3,tup3,lst3,chain3,fn30,fn3,fnN30,fnN3,fnP30,i2,i2c,i1,isN3,notN3,eqS3,neS3,ixL3,ixT3,len3,all3,any3,abs3,max23,min23,isi3,isB3,truth3,start3,slot,flatT,scal,tyn,M3.isNon,lenT,truT,isiB,Option.bind,take3,kbs,addP,mulP,ixP,slP,eqP,neP,isSeq,iterP,itemsP,no3,part3,sl3,raise3,brk3,cont3,M3.ltP,M3.leP,M3.gtP,M3.geP,fitW]
theorem v_step (C:Cs) {f n:Nat} (hP:POk C f n):VOk C (f+1) (n+1):=by
 intro w Q X hw
 rw [is_value_succ]
 show is_valueB C _ _ _ _ [Sl.val w,Sl.val (.int ((n+1:Nat):Int))]=_
 generalize is_value C f=r1
 generalize is_truth C f=r2
 unfold POk at hP
 generalize parts_fit C f=r3 at hP ⊢
 have h1:¬(((n+1:Nat):Int)<1):=by omega
 generalize hN:((n+1:Nat):Int)=N at h1 hP ⊢
 cases w with
 | non=>simp [is_valueB,seq3,next3,ret3,retN3,ifs3,drop3,asg3,name3,tst3,and3,or3,not3,andV3,orV3,notV3,if3,v3,k3,op3,un3,nil3,cons3,call3,tup3,lst3,chain3,fn30,fn3,fnN30,fnN3,fnP30,i2,i2c,i1,isN3,notN3,eqS3,neS3,ixL3,ixT3,len3,all3,any3,abs3,max23,min23,isi3,isB3,truth3,start3,slot,flatT,scal,tyn,M3.isNon,lenT,truT,isiB,Option.bind,take3,kbs,addP,mulP,ixP,slP,eqP,neP,isSeq,iterP,itemsP,no3,part3,sl3,raise3,brk3,cont3,M3.ltP,M3.leP,M3.gtP,M3.geP,sl2,h1,fitW,fitSW]
 | bl b=>simp [is_valueB,seq3,next3,ret3,retN3,ifs3,drop3,asg3,name3,tst3,and3,or3,not3,andV3,orV3,notV3,if3,v3,k3,op3,un3,nil3,cons3,call3,tup3,lst3,chain3,fn30,fn3,fnN30,fnN3,fnP30,i2,i2c,i1,isN3,notN3,eqS3,neS3,ixL3,ixT3,len3,all3,any3,abs3,max23,min23,isi3,isB3,truth3,start3,slot,flatT,scal,tyn,M3.isNon,lenT,truT,isiB,Option.bind,take3,kbs,addP,mulP,ixP,slP,eqP,neP,isSeq,iterP,itemsP,no3,part3,sl3,raise3,brk3,cont3,M3.ltP,M3.leP,M3.gtP,M3.geP,sl2,h1,fitW,fitSW]
 | int i=>simp [is_valueB,seq3,next3,ret3,retN3,ifs3,drop3,asg3,name3,tst3,and3,or3,not3,andV3,orV3,notV3,if3,v3,k3,op3,un3,nil3,cons3,call3,tup3,lst3,chain3,fn30,fn3,fnN30,fnN3,fnP30,i2,i2c,i1,isN3,notN3,eqS3,neS3,ixL3,ixT3,len3,all3,any3,abs3,max23,min23,isi3,isB3,truth3,start3,slot,flatT,scal,tyn,M3.isNon,lenT,truT,isiB,Option.bind,take3,kbs,addP,mulP,ixP,slP,eqP,neP,isSeq,iterP,itemsP,no3,part3,sl3,raise3,brk3,cont3,M3.ltP,M3.leP,M3.gtP,M3.geP,sl2,h1,fitW,fitSW]
 | str z=>simp [is_valueB,seq3,next3,ret3,retN3,ifs3,drop3,asg3,name3,tst3,and3,or3,not3,andV3,orV3,notV3,if3,v3,k3,op3,un3,nil3,cons3,call3,tup3,lst3,chain3,fn30,fn3,fnN30,fnN3,fnP30,i2,i2c,i1,isN3,notN3,eqS3,neS3,ixL3,ixT3,len3,all3,any3,abs3,max23,min23,isi3,isB3,truth3,start3,slot,flatT,scal,tyn,M3.isNon,lenT,truT,isiB,Option.bind,take3,kbs,addP,mulP,ixP,slP,eqP,neP,isSeq,iterP,itemsP,no3,part3,sl3,raise3,brk3,cont3,M3.ltP,M3.leP,M3.gtP,M3.geP,sl2,h1,fitW,fitSW]
 | tup xs=>
   rw [gd_tup] at hw
   simp only [Bool.and_eq_true,decide_eq_true_eq] at hw
   match xs,hw with
   | [],_=>simp [is_valueB,seq3,next3,ret3,retN3,ifs3,drop3,asg3,name3,tst3,and3,or3,not3,andV3,orV3,notV3,if3,v3,k3,op3,un3,nil3,cons3,call3,tup3,lst3,chain3,fn30,fn3,fnN30,fnN3,fnP30,i2,i2c,i1,isN3,notN3,eqS3,neS3,ixL3,ixT3,len3,all3,any3,abs3,max23,min23,isi3,isB3,truth3,start3,slot,flatT,scal,tyn,M3.isNon,lenT,truT,isiB,Option.bind,take3,kbs,addP,mulP,ixP,slP,eqP,neP,isSeq,iterP,itemsP,no3,part3,sl3,raise3,brk3,cont3,M3.ltP,M3.leP,M3.gtP,M3.geP,sl2,h1,fitW,fitSW]
   | [x],hw=>
     have hx:=(gdL_mem hw.2) x (List.mem_cons_self ..)
     cases x with
     | str s=>
       simp [is_valueB,seq3,next3,ret3,retN3,ifs3,drop3,asg3,name3,tst3,and3,or3,not3,andV3,orV3,notV3,if3,v3,k3,op3,un3,nil3,cons3,call3,tup3,lst3,chain3,fn30,fn3,fnN30,fnN3,fnP30,i2,i2c,i1,isN3,notN3,eqS3,neS3,ixL3,ixT3,len3,all3,any3,abs3,max23,min23,isi3,isB3,truth3,start3,slot,flatT,scal,tyn,M3.isNon,lenT,truT,isiB,Option.bind,take3,kbs,addP,mulP,ixP,slP,eqP,neP,isSeq,iterP,itemsP,no3,part3,sl3,raise3,brk3,cont3,M3.ltP,M3.leP,M3.gtP,M3.geP,sl2,h1,fitW,fitSW,oneB]
       cases hk:VPk.lookup s with
       | none=>simp
       | some ks=>
         have:=vp_short hk
         have z:all2 (fitW n) ks.cps.toList []=false:=all2_ne (by rw [cps_len];simp;omega)
         simp [z]
     | _=>simp [is_valueB,seq3,next3,ret3,retN3,ifs3,drop3,asg3,name3,tst3,and3,or3,not3,andV3,orV3,notV3,if3,v3,k3,op3,un3,nil3,cons3,call3,tup3,lst3,chain3,fn30,fn3,fnN30,fnN3,fnP30,i2,i2c,i1,isN3,notN3,eqS3,neS3,ixL3,ixT3,len3,all3,any3,abs3,max23,min23,isi3,isB3,truth3,start3,slot,flatT,scal,tyn,M3.isNon,lenT,truT,isiB,Option.bind,take3,kbs,addP,mulP,ixP,slP,eqP,neP,isSeq,iterP,itemsP,no3,part3,sl3,raise3,brk3,cont3,M3.ltP,M3.leP,M3.gtP,M3.geP,sl2,h1,fitW,fitSW]
   | x::y::r,hw=>
     have hx:=(gdL_mem hw.2) x (List.mem_cons_self ..)
     have hy:=(gdL_mem hw.2) y (List.mem_cons_of_mem _ (List.mem_cons_self ..))
     have hl:¬((r.length:Int)+1+1<2):=by omega
     have hyr:gdL 1000002 (y::r)=true:=by simp only [gdL_cons,Bool.and_eq_true] at hw ⊢;exact hw.2.2
     cases x with
     | str s=>
       by_cases c1:s="cell"
       · subst c1
         cases r with
         | nil=>simp [is_valueB,seq3,next3,ret3,retN3,ifs3,drop3,asg3,name3,tst3,and3,or3,not3,andV3,orV3,notV3,if3,v3,k3,op3,un3,nil3,cons3,call3,tup3,lst3,chain3,fn30,fn3,fnN30,fnN3,fnP30,i2,i2c,i1,isN3,notN3,eqS3,neS3,ixL3,ixT3,len3,all3,any3,abs3,max23,min23,isi3,isB3,truth3,start3,slot,flatT,scal,tyn,M3.isNon,lenT,truT,isiB,Option.bind,take3,kbs,addP,mulP,ixP,slP,eqP,neP,isSeq,iterP,itemsP,no3,part3,sl3,raise3,brk3,cont3,M3.ltP,M3.leP,M3.gtP,M3.geP,sl2,h1,hl,fitW,fitSW,oneB,is_cell_eq C hy]
         | cons z r=>
           have hl':¬((r.length:Int)+1+1+1=2):=by omega
           simp [is_valueB,seq3,next3,ret3,retN3,ifs3,drop3,asg3,name3,tst3,and3,or3,not3,andV3,orV3,notV3,if3,v3,k3,op3,un3,nil3,cons3,call3,tup3,lst3,chain3,fn30,fn3,fnN30,fnN3,fnP30,i2,i2c,i1,isN3,notN3,eqS3,neS3,ixL3,ixT3,len3,all3,any3,abs3,max23,min23,isi3,isB3,truth3,start3,slot,flatT,scal,tyn,M3.isNon,lenT,truT,isiB,Option.bind,take3,kbs,addP,mulP,ixP,slP,eqP,neP,isSeq,iterP,itemsP,no3,part3,sl3,raise3,brk3,cont3,M3.ltP,M3.leP,M3.gtP,M3.geP,sl2,h1,hl,fitW,fitSW,oneB,hl']
       · by_cases c2:s="old"∨s="new"
         · cases r with
           | nil=>cases y<;>simp [gd] at hy<;>simp [is_valueB,seq3,next3,ret3,retN3,ifs3,drop3,asg3,name3,tst3,and3,or3,not3,andV3,orV3,notV3,if3,v3,k3,op3,un3,nil3,cons3,call3,tup3,lst3,chain3,fn30,fn3,fnN30,fnN3,fnP30,i2,i2c,i1,isN3,notN3,eqS3,neS3,ixL3,ixT3,len3,all3,any3,abs3,max23,min23,isi3,isB3,truth3,start3,slot,flatT,scal,tyn,M3.isNon,lenT,truT,isiB,Option.bind,take3,kbs,addP,mulP,ixP,slP,eqP,neP,isSeq,iterP,itemsP,no3,part3,sl3,raise3,brk3,cont3,M3.ltP,M3.leP,M3.gtP,M3.geP,sl2,h1,hl,fitW,fitSW,oneB,in_on,c1,c2,strB]
           | cons z r=>
             have hl':¬((r.length:Int)+1+1+1=2):=by omega
             simp [is_valueB,seq3,next3,ret3,retN3,ifs3,drop3,asg3,name3,tst3,and3,or3,not3,andV3,orV3,notV3,if3,v3,k3,op3,un3,nil3,cons3,call3,tup3,lst3,chain3,fn30,fn3,fnN30,fnN3,fnP30,i2,i2c,i1,isN3,notN3,eqS3,neS3,ixL3,ixT3,len3,all3,any3,abs3,max23,min23,isi3,isB3,truth3,start3,slot,flatT,scal,tyn,M3.isNon,lenT,truT,isiB,Option.bind,take3,kbs,addP,mulP,ixP,slP,eqP,neP,isSeq,iterP,itemsP,no3,part3,sl3,raise3,brk3,cont3,M3.ltP,M3.leP,M3.gtP,M3.geP,sl2,h1,hl,fitW,fitSW,oneB,in_on,c1,c2,hl']
         · cases hk:VPk.lookup s with
           | none=>
             simp [is_valueB,seq3,next3,ret3,retN3,ifs3,drop3,asg3,name3,tst3,and3,or3,not3,andV3,orV3,notV3,if3,v3,k3,op3,un3,nil3,cons3,call3,tup3,lst3,chain3,fn30,fn3,fnN30,fnN3,fnP30,i2,i2c,i1,isN3,notN3,eqS3,neS3,ixL3,ixT3,len3,all3,any3,abs3,max23,min23,isi3,isB3,truth3,start3,slot,flatT,scal,tyn,M3.isNon,lenT,truT,isiB,Option.bind,take3,kbs,addP,mulP,ixP,slP,eqP,neP,isSeq,iterP,itemsP,no3,part3,sl3,raise3,brk3,cont3,M3.ltP,M3.leP,M3.gtP,M3.geP,sl2,h1,hl,fitW,fitSW,in_on,c1,c2,inK3,getK3,VP_lookup,hk,asS]
             intro _
             simpa using hk
           | some ks=>
             have h3:=vp_short hk
             have e:=hP s ks (y::r) Q X hyr (by omega)
             simp [is_valueB,seq3,next3,ret3,retN3,ifs3,drop3,asg3,name3,tst3,and3,or3,not3,andV3,orV3,notV3,if3,v3,k3,op3,un3,nil3,cons3,call3,tup3,lst3,chain3,fn30,fn3,fnN30,fnN3,fnP30,i2,i2c,i1,isN3,notN3,eqS3,neS3,ixL3,ixT3,len3,all3,any3,abs3,max23,min23,isi3,isB3,truth3,start3,slot,flatT,scal,tyn,M3.isNon,lenT,truT,isiB,Option.bind,take3,kbs,addP,mulP,ixP,slP,eqP,neP,isSeq,iterP,itemsP,no3,part3,sl3,raise3,brk3,cont3,M3.ltP,M3.leP,M3.gtP,M3.geP,sl2,h1,hl,fitW,fitSW,in_on,c1,c2,inK3,getK3,VP_lookup,hk,asS,e]
     | _=>simp [gd] at hx<;>simp [is_valueB,seq3,next3,ret3,retN3,ifs3,drop3,asg3,name3,tst3,and3,or3,not3,andV3,orV3,notV3,if3,v3,k3,op3,un3,nil3,cons3,call3,tup3,lst3,chain3,fn30,fn3,fnN30,fnN3,fnP30,i2,i2c,i1,isN3,notN3,eqS3,neS3,ixL3,ixT3,len3,all3,any3,abs3,max23,min23,isi3,isB3,truth3,start3,slot,flatT,scal,tyn,M3.isNon,lenT,truT,isiB,Option.bind,take3,kbs,addP,mulP,ixP,slP,eqP,neP,isSeq,iterP,itemsP,no3,part3,sl3,raise3,brk3,cont3,M3.ltP,M3.leP,M3.gtP,M3.geP,sl2,h1,hl,fitW,fitSW]
 | _=>simp [gd] at hw
theorem t_step (C:Cs) {f n:Nat} (hP:POk C f n):TOk C (f+1) (n+1):=by
 intro w Q X hw
 rw [is_truth_succ]
 show is_truthB C _ _ _ _ [Sl.val w,Sl.val (.int ((n+1:Nat):Int))]=_
 generalize is_value C f=r1
 generalize is_truth C f=r2
 unfold POk at hP
 generalize parts_fit C f=r3 at hP ⊢
 have h1:¬(((n+1:Nat):Int)<1):=by omega
 generalize hN:((n+1:Nat):Int)=N at h1 hP ⊢
 cases w with
 | non=>simp [is_truthB,seq3,next3,ret3,retN3,ifs3,drop3,asg3,name3,tst3,and3,or3,not3,andV3,orV3,notV3,if3,v3,k3,op3,un3,nil3,cons3,call3,tup3,lst3,chain3,fn30,fn3,fnN30,fnN3,fnP30,i2,i2c,i1,isN3,notN3,eqS3,neS3,ixL3,ixT3,len3,all3,any3,abs3,max23,min23,isi3,isB3,truth3,start3,slot,flatT,scal,tyn,M3.isNon,lenT,truT,isiB,Option.bind,take3,kbs,addP,mulP,ixP,slP,eqP,neP,isSeq,iterP,itemsP,no3,part3,sl3,raise3,brk3,cont3,M3.ltP,M3.leP,M3.gtP,M3.geP,h1,fitW,fitSW]
 | bl b=>simp [is_truthB,seq3,next3,ret3,retN3,ifs3,drop3,asg3,name3,tst3,and3,or3,not3,andV3,orV3,notV3,if3,v3,k3,op3,un3,nil3,cons3,call3,tup3,lst3,chain3,fn30,fn3,fnN30,fnN3,fnP30,i2,i2c,i1,isN3,notN3,eqS3,neS3,ixL3,ixT3,len3,all3,any3,abs3,max23,min23,isi3,isB3,truth3,start3,slot,flatT,scal,tyn,M3.isNon,lenT,truT,isiB,Option.bind,take3,kbs,addP,mulP,ixP,slP,eqP,neP,isSeq,iterP,itemsP,no3,part3,sl3,raise3,brk3,cont3,M3.ltP,M3.leP,M3.gtP,M3.geP,h1,fitW,fitSW]
 | int i=>simp [is_truthB,seq3,next3,ret3,retN3,ifs3,drop3,asg3,name3,tst3,and3,or3,not3,andV3,orV3,notV3,if3,v3,k3,op3,un3,nil3,cons3,call3,tup3,lst3,chain3,fn30,fn3,fnN30,fnN3,fnP30,i2,i2c,i1,isN3,notN3,eqS3,neS3,ixL3,ixT3,len3,all3,any3,abs3,max23,min23,isi3,isB3,truth3,start3,slot,flatT,scal,tyn,M3.isNon,lenT,truT,isiB,Option.bind,take3,kbs,addP,mulP,ixP,slP,eqP,neP,isSeq,iterP,itemsP,no3,part3,sl3,raise3,brk3,cont3,M3.ltP,M3.leP,M3.gtP,M3.geP,h1,fitW,fitSW]
 | str z=>simp [is_truthB,seq3,next3,ret3,retN3,ifs3,drop3,asg3,name3,tst3,and3,or3,not3,andV3,orV3,notV3,if3,v3,k3,op3,un3,nil3,cons3,call3,tup3,lst3,chain3,fn30,fn3,fnN30,fnN3,fnP30,i2,i2c,i1,isN3,notN3,eqS3,neS3,ixL3,ixT3,len3,all3,any3,abs3,max23,min23,isi3,isB3,truth3,start3,slot,flatT,scal,tyn,M3.isNon,lenT,truT,isiB,Option.bind,take3,kbs,addP,mulP,ixP,slP,eqP,neP,isSeq,iterP,itemsP,no3,part3,sl3,raise3,brk3,cont3,M3.ltP,M3.leP,M3.gtP,M3.geP,h1,fitW,fitSW]
 | tup xs=>
   rw [gd_tup] at hw
   simp only [Bool.and_eq_true,decide_eq_true_eq] at hw
   match xs,hw with
   | [],_=>simp [is_truthB,seq3,next3,ret3,retN3,ifs3,drop3,asg3,name3,tst3,and3,or3,not3,andV3,orV3,notV3,if3,v3,k3,op3,un3,nil3,cons3,call3,tup3,lst3,chain3,fn30,fn3,fnN30,fnN3,fnP30,i2,i2c,i1,isN3,notN3,eqS3,neS3,ixL3,ixT3,len3,all3,any3,abs3,max23,min23,isi3,isB3,truth3,start3,slot,flatT,scal,tyn,M3.isNon,lenT,truT,isiB,Option.bind,take3,kbs,addP,mulP,ixP,slP,eqP,neP,isSeq,iterP,itemsP,no3,part3,sl3,raise3,brk3,cont3,M3.ltP,M3.leP,M3.gtP,M3.geP,h1,fitW,fitSW]
   | x::r,hw=>
     have hx:=(gdL_mem hw.2) x (List.mem_cons_self ..)
     have hl:¬((r.length:Int)+1<1):=by omega
     have hyr:gdL 1000002 r=true:=by simp only [gdL_cons,Bool.and_eq_true] at hw ⊢;exact hw.2.2
     cases x with
     | str s=>
       cases hk:TPk.lookup s with
       | none=>
         simp [is_truthB,seq3,next3,ret3,retN3,ifs3,drop3,asg3,name3,tst3,and3,or3,not3,andV3,orV3,notV3,if3,v3,k3,op3,un3,nil3,cons3,call3,tup3,lst3,chain3,fn30,fn3,fnN30,fnN3,fnP30,i2,i2c,i1,isN3,notN3,eqS3,neS3,ixL3,ixT3,len3,all3,any3,abs3,max23,min23,isi3,isB3,truth3,start3,slot,flatT,scal,tyn,M3.isNon,lenT,truT,isiB,Option.bind,take3,kbs,addP,mulP,ixP,slP,eqP,neP,isSeq,iterP,itemsP,no3,part3,sl3,raise3,brk3,cont3,M3.ltP,M3.leP,M3.gtP,M3.geP,sl2,h1,hl,fitW,fitSW,inK3,getK3,TP_lookup,hk,asS]
         intro _
         simpa using hk
       | some ks=>
         have h3:=tp_short hk
         have e:=hP s ks r Q X hyr (by omega)
         simp [is_truthB,seq3,next3,ret3,retN3,ifs3,drop3,asg3,name3,tst3,and3,or3,not3,andV3,orV3,notV3,if3,v3,k3,op3,un3,nil3,cons3,call3,tup3,lst3,chain3,fn30,fn3,fnN30,fnN3,fnP30,i2,i2c,i1,isN3,notN3,eqS3,neS3,ixL3,ixT3,len3,all3,any3,abs3,max23,min23,isi3,isB3,truth3,start3,slot,flatT,scal,tyn,M3.isNon,lenT,truT,isiB,Option.bind,take3,kbs,addP,mulP,ixP,slP,eqP,neP,isSeq,iterP,itemsP,no3,part3,sl3,raise3,brk3,cont3,M3.ltP,M3.leP,M3.gtP,M3.geP,sl2,h1,hl,fitW,fitSW,inK3,getK3,TP_lookup,hk,asS,e]
     | _=>simp [gd] at hx<;>simp [is_truthB,seq3,next3,ret3,retN3,ifs3,drop3,asg3,name3,tst3,and3,or3,not3,andV3,orV3,notV3,if3,v3,k3,op3,un3,nil3,cons3,call3,tup3,lst3,chain3,fn30,fn3,fnN30,fnN3,fnP30,i2,i2c,i1,isN3,notN3,eqS3,neS3,ixL3,ixT3,len3,all3,any3,abs3,max23,min23,isi3,isB3,truth3,start3,slot,flatT,scal,tyn,M3.isNon,lenT,truT,isiB,Option.bind,take3,kbs,addP,mulP,ixP,slP,eqP,neP,isSeq,iterP,itemsP,no3,part3,sl3,raise3,brk3,cont3,M3.ltP,M3.leP,M3.gtP,M3.geP,sl2,h1,hl,fitW,fitSW]
 | _=>simp [gd] at hw
theorem p_body (C:Cs) {f n:Nat} (hV:VOk C f n) (hT:TOk C f n) {r3:F3} {w ks a l d:Sl} {N:N3} {x:T} (hx:gd 1000002 x=true) (k:Nat):
 parts_fit_3b C (is_value C f) (is_truth C f) r3 N [w,ks,.val (.int ((n+1:Nat):Int)),a,l,.val x,.val (chT k),d]=if fitW n (decide (k=118)) x=true then N.nx [w,ks,.val (.int ((n+1:Nat):Int)),a,l,.val x,.val (chT k),.val (.bl true)] else N.rt (.bl false):=by
 have hn:(((n+1:Nat):Int)-1)=(n:Int):=by omega
 have ev:=fun Q X=>hV x Q X hx
 have et:=fun Q X=>hT x Q X hx
 generalize hN:((n+1:Nat):Int)=M at hn ⊢
 by_cases hk:k=118
 · subst hk
   have e118:((⟨#[118]⟩:Str)="v"):=by rfl
   cases hf:fitW n true x with
   | true=>simp [parts_fit_3b,parts_fit_3b_1,parts_fit_3b_2,parts_fit_3b_2t_1,seq3,next3,ret3,retN3,ifs3,drop3,asg3,name3,tst3,and3,or3,not3,andV3,orV3,notV3,if3,v3,k3,op3,un3,nil3,cons3,call3,tup3,lst3,chain3,fn30,fn3,fnN30,fnN3,fnP30,i2,i2c,i1,isN3,notN3,eqS3,neS3,ixL3,ixT3,len3,all3,any3,abs3,max23,min23,isi3,isB3,truth3,start3,slot,flatT,scal,tyn,M3.isNon,lenT,truT,isiB,Option.bind,take3,kbs,addP,mulP,ixP,slP,eqP,neP,isSeq,iterP,itemsP,no3,part3,sl3,raise3,brk3,cont3,M3.ltP,M3.leP,M3.gtP,M3.geP,chT,e118,hn,ev,hf]
   | false=>simp [parts_fit_3b,parts_fit_3b_1,parts_fit_3b_2,parts_fit_3b_2t_1,seq3,next3,ret3,retN3,ifs3,drop3,asg3,name3,tst3,and3,or3,not3,andV3,orV3,notV3,if3,v3,k3,op3,un3,nil3,cons3,call3,tup3,lst3,chain3,fn30,fn3,fnN30,fnN3,fnP30,i2,i2c,i1,isN3,notN3,eqS3,neS3,ixL3,ixT3,len3,all3,any3,abs3,max23,min23,isi3,isB3,truth3,start3,slot,flatT,scal,tyn,M3.isNon,lenT,truT,isiB,Option.bind,take3,kbs,addP,mulP,ixP,slP,eqP,neP,isSeq,iterP,itemsP,no3,part3,sl3,raise3,brk3,cont3,M3.ltP,M3.leP,M3.gtP,M3.geP,chT,e118,hn,ev,hf]
 · have e118:¬((⟨#[k]⟩:Str)="v"):=fun h=>hk (of_decide_eq_true ((ch_v k).symm.trans (decide_eq_true h)))
   cases hf:fitW n false x with
   | true=>simp [parts_fit_3b,parts_fit_3b_1,parts_fit_3b_2,parts_fit_3b_2t_1,seq3,next3,ret3,retN3,ifs3,drop3,asg3,name3,tst3,and3,or3,not3,andV3,orV3,notV3,if3,v3,k3,op3,un3,nil3,cons3,call3,tup3,lst3,chain3,fn30,fn3,fnN30,fnN3,fnP30,i2,i2c,i1,isN3,notN3,eqS3,neS3,ixL3,ixT3,len3,all3,any3,abs3,max23,min23,isi3,isB3,truth3,start3,slot,flatT,scal,tyn,M3.isNon,lenT,truT,isiB,Option.bind,take3,kbs,addP,mulP,ixP,slP,eqP,neP,isSeq,iterP,itemsP,no3,part3,sl3,raise3,brk3,cont3,M3.ltP,M3.leP,M3.gtP,M3.geP,chT,e118,hn,et,hf,hk]
   | false=>simp [parts_fit_3b,parts_fit_3b_1,parts_fit_3b_2,parts_fit_3b_2t_1,seq3,next3,ret3,retN3,ifs3,drop3,asg3,name3,tst3,and3,or3,not3,andV3,orV3,notV3,if3,v3,k3,op3,un3,nil3,cons3,call3,tup3,lst3,chain3,fn30,fn3,fnN30,fnN3,fnP30,i2,i2c,i1,isN3,notN3,eqS3,neS3,ixL3,ixT3,len3,all3,any3,abs3,max23,min23,isi3,isB3,truth3,start3,slot,flatT,scal,tyn,M3.isNon,lenT,truT,isiB,Option.bind,take3,kbs,addP,mulP,ixP,slP,eqP,neP,isSeq,iterP,itemsP,no3,part3,sl3,raise3,brk3,cont3,M3.ltP,M3.leP,M3.gtP,M3.geP,chT,e118,hn,et,hf,hk]
theorem p_loop (C:Cs) {f n:Nat} (hV:VOk C f n) (hT:TOk C f n) {r3:F3} {w ks a l:Sl} {N:N3} {Q:T→Prop} (h1:N.rt=Q) (h2:∀σ,N.nx σ=Q (.bl true)):∀(cs:List Nat) (xs:List T) (b c d:Sl),gdL 1000002 xs=true→xs.length=cs.length→
 loop3 (gtup3 2 (gcons3 (name3 5) (gcons3 (name3 6) gnil3))) (parts_fit_3b C (is_value C f) (is_truth C f) r3) N (pairT xs (cs.map chT)) [w,ks,.val (.int ((n+1:Nat):Int)),a,l,b,c,d]=Q (.bl (all2 (fitW n) cs xs))
 | [],[],b,c,d,_,_=>by simp [pairT,loop3,h2,all2]
 | k::cs,x::xs,b,c,d,hx,hl=>by
   simp only [gdL_cons,Bool.and_eq_true] at hx
   have ih:=p_loop C hV hT (r3:=r3) (w:=w) (ks:=ks) (a:=a) (l:=l) h1 h2 cs xs (.val x) (.val (chT k)) (.val (.bl true)) hx.2 (by simpa using hl)
   have e:=p_body C hV hT (r3:=r3) (w:=w) (ks:=ks) (a:=a) (l:=l) (d:=d) (N:={nx:=loop3 (gtup3 2 (gcons3 (name3 5) (gcons3 (name3 6) gnil3))) (parts_fit_3b C (is_value C f) (is_truth C f) r3) N (pairT xs (cs.map chT)),ct:=loop3 (gtup3 2 (gcons3 (name3 5) (gcons3 (name3 6) gnil3))) (parts_fit_3b C (is_value C f) (is_truth C f) r3) N (pairT xs (cs.map chT)),bk:=N.nx,rt:=N.rt,xn:=N.xn}) hx.1 k
   have e2:loop3 (gtup3 2 (gcons3 (name3 5) (gcons3 (name3 6) gnil3))) (parts_fit_3b C (is_value C f) (is_truth C f) r3) N (pairT (x::xs) ((k::cs).map chT)) [w,ks,.val (.int ((n+1:Nat):Int)),a,l,b,c,d]=
    (parts_fit_3b C (is_value C f) (is_truth C f) r3 {nx:=loop3 (gtup3 2 (gcons3 (name3 5) (gcons3 (name3 6) gnil3))) (parts_fit_3b C (is_value C f) (is_truth C f) r3) N (pairT xs (cs.map chT)),ct:=loop3 (gtup3 2 (gcons3 (name3 5) (gcons3 (name3 6) gnil3))) (parts_fit_3b C (is_value C f) (is_truth C f) r3) N (pairT xs (cs.map chT)),bk:=N.nx,rt:=N.rt,xn:=N.xn} [w,ks,.val (.int ((n+1:Nat):Int)),a,l,.val x,.val (chT k),d]):=by
      simp [pairT,loop3,gtup3,gcons3,gnil3,name3,asT]
   rw [e2,e]
   simp only [ih,h1,all2]
   cases fitW n (decide (k=118)) x<;>simp
 | [],_::_,_,_,_,_,h=>by simp at h
 | _::_,[],_,_,_,_,h=>by simp at h
theorem p_step (C:Cs) {f n:Nat} (hV:VOk C f n) (hT:TOk C f n):POk C (f+1) n:=by
 intro s ks xs Q X hx hk
 rw [parts_fit_succ]
 show parts_fitB C _ _ _ _ [Sl.val (.tup (.str s::xs)),Sl.val (.str ks),Sl.val (.int ((n+1:Nat):Int)),.no,.no,.no,.no,.no]=_
 have hk':ks.length≤sizeLine:=Nat.le_trans hk (by decide)
 by_cases hl:xs.length=ks.length
 · have e:=p_loop C hV hT (r3:=parts_fit C f) (w:=.val (.tup (.str s::xs))) (ks:=.val (.str ks)) (a:=.val (.str s)) (l:=.val (.lst xs)) (N:={nx:=fun σ=>parts_fit_4 C (is_value C f) (is_truth C f) (parts_fit C f) {nx:=fun _=>Q .non,rt:=Q,xn:=fun _=>X} σ,rt:=Q,xn:=fun _=>X}) (Q:=Q) rfl (fun σ=>rfl) ks.cps.toList xs .no .no .no hx (by rw [cps_len];exact hl)
   generalize ((n+1:Nat):Int)=M at e ⊢
   have hl2:=hl.symm
   have hk2:xs.length≤sizeLine:=hl ▸ hk'
   have e3:itemsP (.str ks)=some (ks.cps.toList.map chT):=rfl
   simp [parts_fitB,parts_fit_1,parts_fit_2,parts_fit_2t_1,seq3,next3,ret3,retN3,ifs3,drop3,asg3,name3,tst3,and3,or3,not3,andV3,orV3,notV3,if3,v3,k3,op3,un3,nil3,cons3,call3,tup3,lst3,chain3,fn30,fn3,fnN30,fnN3,fnP30,i2,i2c,i1,isN3,notN3,eqS3,neS3,ixL3,ixT3,len3,all3,any3,abs3,max23,min23,isi3,isB3,truth3,start3,slot,flatT,scal,tyn,M3.isNon,lenT,truT,isiB,Option.bind,take3,kbs,addP,mulP,ixP,slP,eqP,neP,isSeq,iterP,itemsP,no3,part3,sl3,raise3,brk3,cont3,M3.ltP,M3.leP,M3.gtP,M3.geP,gstar3,gcons3,gnil3,asT,hk2,hl2,parts_fit_3,for3,iterZG3,two]
   simpa using e
 · have z:all2 (fitW n) ks.cps.toList xs=false:=all2_ne (by rw [cps_len];exact hl)
   generalize ((n+1:Nat):Int)=M
   have hl':¬((xs.length:Int)=(ks.length:Int)):=by omega
   simp [parts_fitB,parts_fit_1,parts_fit_2,parts_fit_2t_1,seq3,next3,ret3,retN3,ifs3,drop3,asg3,name3,tst3,and3,or3,not3,andV3,orV3,notV3,if3,v3,k3,op3,un3,nil3,cons3,call3,tup3,lst3,chain3,fn30,fn3,fnN30,fnN3,fnP30,i2,i2c,i1,isN3,notN3,eqS3,neS3,ixL3,ixT3,len3,all3,any3,abs3,max23,min23,isi3,isB3,truth3,start3,slot,flatT,scal,tyn,M3.isNon,lenT,truT,isiB,Option.bind,take3,kbs,addP,mulP,ixP,slP,eqP,neP,isSeq,iterP,itemsP,no3,part3,sl3,raise3,brk3,cont3,M3.ltP,M3.leP,M3.gtP,M3.geP,gstar3,gcons3,gnil3,asT,hk',hl,hl',z]
theorem fits_ok (C:Cs):∀n f:Nat,2 * n+1≤f→VOk C f n∧TOk C f n
 | 0,f,h=>by
   obtain ⟨g,rfl⟩:∃g,f=g+1:=⟨f-1,by omega⟩
   exact ⟨v_zero C g,t_zero C g⟩
 | n+1,f,h=>by
   obtain ⟨g,rfl⟩:∃g,f=g+1+1:=⟨f-2,by omega⟩
   have ih:=fits_ok C n g (by omega)
   exact ⟨v_step C (p_step C ih.1 ih.2),t_step C (p_step C ih.1 ih.2)⟩
theorem is_value_eq (C:Cs) {w:T} (h:gd 1000002 w=true) (Q:T→Prop) (X:X3):is_value C 20 [w,.int 8] Q X=Q (.bl (fitW 8 true w)):=(fits_ok C 8 20 (by decide)).1 w Q X h
theorem is_truth_eq (C:Cs) {w:T} (h:gd 1000002 w=true) (Q:T→Prop) (X:X3):is_truth C 20 [w,.int 8] Q X=Q (.bl (fitW 8 false w)):=(fits_ok C 8 20 (by decide)).2 w Q X h
end Law
set_option maxHeartbeats 400000
namespace Law
open PySem L2 M3
abbrev cs (x:Str):List Nat:=x.cps.toList
abbrev S (l:List Nat):Str:=⟨l.toArray⟩
theorem S_cs (x:Str):S (cs x)=x:=rfl
theorem cs_S (l:List Nat):cs (S l)=l:=rfl
theorem S_len (l:List Nat):(S l).length=l.length:=by simp [S,Str.length]
theorem cs_len (x:Str):(cs x).length=x.length:=Array.length_toList
theorem cs_app (x y:Str):cs (x++y)=cs x++cs y:=by
 show (x++y).cps.toList=_
 rw [Str.cps_append,Array.toList_append]
theorem ext_cs {x y:Str} (h:cs x=cs y):x=y:=by
 have:x.cps=y.cps:=Array.toList_inj.mp h
 cases x;cases y;cases this;rfl
theorem S_app (a b:List Nat):S a++S b=S (a++b):=ext_cs (by rw [cs_app])
theorem S_eq {a b:List Nat}:(S a=S b)=(a=b):=propext ⟨fun h=>congrArg cs h,fun h=>by rw [h]⟩
def cC:Option Int→List Nat
 | none=>[103,97,112]
 | some i=>if i<0 then 45::TL.numL i.natAbs else TL.numL i.natAbs
theorem cC_some (i:Int):cC (some i)=if i<0 then 45::TL.numL i.natAbs else TL.numL i.natAbs:=rfl
theorem str_codes (i:Int):cs (Str.ofString (toString i))=cC (some i):=by
 cases i with
 | ofNat m=>
   have e:cC (some (Int.ofNat m))=TL.numL m:=by
    have:¬(Int.ofNat m<0):=Int.not_lt.mpr (Int.natCast_nonneg m)
    simp [cC,this]
   rw [e]
   exact TL.tl_num m
 | negSucc m=>
   have e:cC (some (Int.negSucc m))=45::TL.numL (m+1):=by
    have h:Int.negSucc m<0:=Int.negSucc_lt_zero m
    have h2:(Int.negSucc m).natAbs=m+1:=rfl
    show (if Int.negSucc m<0 then 45::TL.numL (Int.negSucc m).natAbs else TL.numL (Int.negSucc m).natAbs)=_
    rw [if_pos h,h2]
   rw [e]
   have e2:toString (Int.negSucc m)="-"++toString (m+1):=rfl
   have e3:=TL.tl_num (m+1)
   have e4:(Str.ofString (toString (((m+1:Nat):Int)))).cps.toList=(toString (m+1)).toList.map Char.toNat:=by
    rw [Str.ofString_eq_toList]
    rfl
   have e3':(Str.ofString (toString (((m+1:Nat):Int)))).cps.toList=TL.numL (m+1):=e3
   rw [e4] at e3'
   rw [e2]
   show (Str.ofString ("-"++toString (m+1))).cps.toList=_
   rw [Str.ofString_eq_toList]
   show (("-"++toString (m+1)).toList.map Char.toNat)=_
   rw [String.toList_append,List.map_append,e3']
   rfl
theorem num_len {i:Int} (h: -MOSTi≤i∧i≤MOSTi):(TL.numL i.natAbs).length≤30:=TL.numL_len (by decide) (by
 have h: -999999999999999999999999999999≤i∧i≤999999999999999999999999999999:=h
 have:i.natAbs≤999999999999999999999999999999:=by omega
 have:(10:Nat) ^ 30=1000000000000000000000000000000:=by decide
 omega)
theorem cC_len {c:Option Int} (h:bnd c):(cC c).length≤31:=by
 cases c with
 | none=>decide
 | some i=>
   have:=num_len (h i rfl)
   rw [cC_some]
   split<;>simp<;>omega
def cutF:List Nat→List Nat→Int→List (List Nat)
 | [],cur,_=>[cur]
 | c::r,cur,d=>if c=44∧(if c=41 then (if c=40 then d+1 else d)-1 else (if c=40 then d+1 else d))=0 then cur::cutF r [] (if c=41 then (if c=40 then d+1 else d)-1 else (if c=40 then d+1 else d))
    else cutF r (cur++[c]) (if c=41 then (if c=40 then d+1 else d)-1 else (if c=40 then d+1 else d))
theorem cutF_plain {c:Nat} (h1:c≠40) (h2:c≠41) (h3:c≠44) (r cur:List Nat) (d:Int):cutF (c::r) cur d=cutF r (cur++[c]) d:=by simp [cutF,h1,h2,h3]
theorem cutF_in {d:Int} (h:d≠0) (r cur:List Nat):cutF (44::r) cur d=cutF r (cur++[44]) d:=by simp [cutF,h]
def Pass (k:Int) (l:List Nat):Prop:=∀(r cur:List Nat) (d:Int),k≤d→cutF (l++r) cur d=cutF r (cur++l) d
theorem Pass.app {k:Int} {l m:List Nat} (h:Pass k l) (h':Pass k m):Pass k (l++m):=fun r cur d hd=>by
 rw [List.append_assoc,h _ _ _ hd,h' _ _ _ hd,List.append_assoc]
theorem Pass.mono {k j:Int} {l:List Nat} (h:Pass k l) (hj:k≤j):Pass j l:=fun r cur d hd=>h r cur d (by omega)
theorem Pass.comma:Pass 1 [44,32]:=fun r cur d hd=>by
 show cutF (44::32::r) cur d=_
 rw [cutF_in (by omega),cutF_plain (by decide) (by decide) (by decide)]
 simp
theorem Pass.join:∀ {ks:List (List Nat)},(∀k∈ks,Pass 0 k)→Pass 1 (TL.joinL [44,32] ks)
 | [],_=>fun r cur d _=>by simp [TL.joinL]
 | [k],h=>(h k (List.mem_cons_self ..)).mono (by decide)
 | k::k2::ks,h=>((h k (List.mem_cons_self ..)).mono (by decide)).app (Pass.comma.app (Pass.join fun x hx=>h x (List.mem_cons_of_mem _ hx)))
def nodeC (hd:List Nat) (ks:List (List Nat)):List Nat:=hd++(40::(TL.joinL [44,32] ks++[41]))
def wC:{b:Bool}→Wd b→List Nat
 | _,.cell c=>cC c
 | _,.col s x=>cs (sideS s)++46::cs x
 | _,.yes=>cs "yes"
 | _,.ch t a b=>nodeC (cs "choose") [wC t,wC a,wC b]
 | _,.sum o a b=>nodeC (cs o.nm) [wC a,wC b]
 | _,.lacks a=>nodeC (cs "lacks") [wC a]
 | _,.cmp lt a b=>nodeC (cs (if lt then "below" else "is")) [wC a,wC b]
 | _,.no a=>nodeC (cs "not") [wC a]
 | _,.jn e a b=>nodeC (cs (if e then "either" else "both")) [wC a,wC b]
def kC (k:KW):List Nat:=wC k.2
def lows (l:List Nat):Bool:=l.all fun c=>decide (97≤c∧c≤122)
structure NodeT {b:Bool} (w:Wd b) (hd:Str):Prop extends Node w hd where
 tx:wC w=nodeC (cs hd) (w.kids.map kC)
 ne:w.kids≠[]
 low:lows (cs hd)=true
 ln:(cs hd).length≤6
 yes:hd≠"yes"
 known:(VPk.lookup hd).isSome=true∨(TPk.lookup hd).isSome=true
inductive ViewT {b:Bool} (w:Wd b):Prop
 | cell (c:Option Int) (tr:w.tr= .tup [.str "cell",ofC c]) (dp:w.dp=1) (tx:wC w=cC c) (ok:∀os ns,w.ok os ns→bnd c)
 | col (s:Bool) (x:Str) (tr:w.tr= .tup [.str (sideS s),.str x]) (dp:w.dp=1) (tx:wC w=cs (sideS s)++46::cs x) (ok:∀os ns,w.ok os ns→x∈if s then ns else os)
 | yes (tr:w.tr= .tup [.str "yes"]) (dp:w.dp=1) (tx:wC w=cs "yes")
 | node (hd:Str) (n:NodeT w hd)
theorem viewT {b:Bool} (w:Wd b):ViewT w:=by
 have v:=view w
 cases w with
 | cell c=>exact .cell c rfl rfl rfl fun os ns h=>h
 | col s x=>exact .col s x rfl rfl rfl (fun os ns h=>h)
 | yes=>exact .yes rfl rfl rfl
 | ch t a b=>exact .node "choose" ⟨⟨rfl,by decide +kernel,by decide +kernel,by decide +kernel,by simp [Wd.kids],by simp [Wd.kids,Wd.sides],by simp [Wd.kids,Wd.dp,List.foldl,mx0]<;>omega,by simp [Wd.kids,Wd.dp]<;>omega,fun os ns h=>by simpa [Wd.kids,Wd.ok] using h⟩,rfl,by simp [Wd.kids],by decide +kernel,by decide +kernel,by decide +kernel,by decide +kernel⟩
 | sum o a b=>exact .node o.nm ⟨⟨rfl,by cases o<;>decide +kernel,by cases o<;>decide +kernel,by cases o<;>decide +kernel,by simp [Wd.kids],by simp [Wd.kids,Wd.sides],by simp [Wd.kids,Wd.dp,List.foldl,mx0],by simp [Wd.kids,Wd.dp]<;>omega,fun os ns h=>by simpa [Wd.kids,Wd.ok] using h⟩,rfl,by simp [Wd.kids],by cases o<;>decide +kernel,by cases o<;>decide +kernel,by cases o<;>decide +kernel,by cases o<;>decide +kernel⟩
 | lacks a=>exact .node "lacks" ⟨⟨rfl,by decide +kernel,by decide +kernel,by decide +kernel,by simp [Wd.kids],by simp [Wd.kids,Wd.sides],by simp [Wd.kids,Wd.dp,List.foldl,mx0],by simp [Wd.kids,Wd.dp],fun os ns h=>by simpa [Wd.kids,Wd.ok] using h⟩,rfl,by simp [Wd.kids],by decide +kernel,by decide +kernel,by decide +kernel,by decide +kernel⟩
 | cmp lt a b=>exact .node (if lt then "below" else "is") ⟨⟨rfl,by cases lt<;>decide +kernel,by cases lt<;>decide +kernel,by cases lt<;>decide +kernel,by simp [Wd.kids],by simp [Wd.kids,Wd.sides],by simp [Wd.kids,Wd.dp,List.foldl,mx0],by simp [Wd.kids,Wd.dp]<;>omega,fun os ns h=>by simpa [Wd.kids,Wd.ok] using h⟩,rfl,by simp [Wd.kids],by cases lt<;>decide +kernel,by cases lt<;>decide +kernel,by cases lt<;>decide +kernel,by cases lt<;>decide +kernel⟩
 | no a=>exact .node "not" ⟨⟨rfl,by decide +kernel,by decide +kernel,by decide +kernel,by simp [Wd.kids],by simp [Wd.kids,Wd.sides],by simp [Wd.kids,Wd.dp,List.foldl,mx0],by simp [Wd.kids,Wd.dp],fun os ns h=>by simpa [Wd.kids,Wd.ok] using h⟩,rfl,by simp [Wd.kids],by decide +kernel,by decide +kernel,by decide +kernel,by decide +kernel⟩
 | jn e a b=>exact .node (if e then "either" else "both") ⟨⟨rfl,by cases e<;>decide +kernel,by cases e<;>decide +kernel,by cases e<;>decide +kernel,by simp [Wd.kids],by simp [Wd.kids,Wd.sides],by simp [Wd.kids,Wd.dp,List.foldl,mx0],by simp [Wd.kids,Wd.dp]<;>omega,fun os ns h=>by simpa [Wd.kids,Wd.ok] using h⟩,rfl,by simp [Wd.kids],by cases e<;>decide +kernel,by cases e<;>decide +kernel,by cases e<;>decide +kernel,by cases e<;>decide +kernel⟩
def fine (x:Str):Prop:=(∀c∈cs x,97≤c∧c≤122)∧1≤x.length∧x.length≤8
def fines (xs:List Str):Prop:=∀x∈xs,fine x
theorem sideS_codes (s:Bool):lows (cs (sideS s))=true∧(cs (sideS s)).length=3:=by cases s<;>decide +kernel
theorem join_len:∀(ks:List (List Nat)) (m:Nat),(∀k∈ks,k.length≤m)→(TL.joinL [44,32] ks).length≤ks.length * (m+2)
 | [],m,_=>by simp [TL.joinL]
 | [k],m,h=>by have:=h k (List.mem_cons_self ..);simp [TL.joinL];omega
 | k::k2::ks,m,h=>by
   have h1:=h k (List.mem_cons_self ..)
   have ih:=join_len (k2::ks) m fun x hx=>h x (List.mem_cons_of_mem _ hx)
   show (k++([44,32]++TL.joinL [44,32] (k2::ks))).length≤_
   simp only [List.length_append,List.length_cons,List.length_nil] at ih ⊢
   rw [Nat.add_mul]
   omega
theorem wC_len {os ns:List Str} (ho:fines os) (hn:fines ns):∀(n:Nat) {b:Bool} (w:Wd b),w.dp≤n→w.ok os ns→(wC w).length≤16 * 4 ^ n
 | 0,_,w,h,_=>by have:=dp_pos w;omega
 | n+1,_,w,h,hw=>by
   have p:1≤4 ^ n:=Nat.one_le_pow _ _ (by decide)
   rw [Nat.pow_succ]
   cases viewT w with
   | cell c tr dp tx ok=>
     have:=cC_len (ok _ _ hw)
     rw [tx];omega
   | col s x tr dp tx ok=>
     have h1:=(sideS_codes s).2
     have h2:fine x:=by
      have:=ok _ _ hw
      cases s
      · exact ho x this
      · exact hn x this
     have h3:=h2.2.2
     rw [←cs_len] at h3
     rw [tx]
     simp only [List.length_append,List.length_cons]
     omega
   | yes tr dp tx=>
     have:(cs "yes").length=3:=by decide +kernel
     rw [tx];omega
   | node hd z=>
     rw [z.tx]
     have l:=z.len
     have h6:=z.ln
     have j:=join_len (w.kids.map kC) (16 * 4 ^ n) fun k hk=>by
      obtain ⟨kk,hkk,rfl⟩:=List.mem_map.mp hk
      exact wC_len ho hn n kk.2 (by have:=z.lt kk hkk;omega) (z.ok _ _ hw kk hkk)
     rw [List.length_map] at j
     have j2:w.kids.length * (16 * 4 ^ n+2)≤3 * (16 * 4 ^ n+2):=Nat.mul_le_mul_right _ l
     simp only [nodeC,List.length_append,List.length_cons,List.length_nil]
     omega
end Law
set_option maxHeartbeats 400000
namespace Law
open PySem L2 M3
@[simp] theorem bls_dec {α:Type} {p:α→Bool} {l:List α}:bls (l.map fun c=>T.bl (p c))=some (l.map p):=by
 have:=bls_map (l.map p)
 rwa [List.map_map] at this
theorem cutS_S (l:List Nat) (lo hi:Option Int):cutS (S l) lo hi=S (cut l lo hi):=by
 unfold cutS M3.cut
 simp [S,Str.length]
theorem cut_between (a b c:List Nat):cut (a++b++c) (some (a.length:Int)) (some ((a.length+b.length:Nat):Int))=b:=by
 unfold M3.cut
 rw [HT.sIx_nat,HT.sIx_nat]
 have e1:min a.length (a++b++c).length=a.length:=by simp only [List.length_append];omega
 have e2:min (a.length+b.length) (a++b++c).length=a.length+b.length:=by simp only [List.length_append];omega
 rw [e1,e2,List.append_assoc,List.drop_left]
 have e3:a.length+b.length-a.length=b.length:=by omega
 rw [e3,List.take_left]
theorem cut_from' (a b:List Nat):cut (a++b) (some (a.length:Int)) none=b:=by
 unfold M3.cut
 rw [HT.sIx_nat]
 have e1:min a.length (a++b).length=a.length:=by simp only [List.length_append];omega
 rw [e1,List.drop_left]
 show b.take ((a++b).length-a.length)=b
 have:(a++b).length-a.length=b.length:=by simp
 rw [this,List.take_length]
theorem log2_small {n:Nat} (h:n≤999999999999999999999999999999):n.log2<1920:=by
 by_cases z:n=0
 · subst z;decide
 · refine (Nat.log2_lt z).mpr (Nat.lt_of_lt_of_le (Nat.lt_of_le_of_lt h (by decide:999999999999999999999999999999<2 ^ 100)) (Nat.pow_le_pow_right (by decide) (by decide)))
theorem S_gap:("gap":Str)=S (cC none):=by decide +kernel
theorem S_yes:("yes":Str)=S (cs "yes"):=rfl
theorem S_sep:(", ":Str)=S [44,32]:=by decide +kernel
theorem S_open:("(":Str)=S [40]:=by decide +kernel
theorem S_close:(")":Str)=S [41]:=by decide +kernel
theorem S_dot:(".":Str)=S [46]:=by decide +kernel
theorem join_eqS (ys:List (List Nat)):Txt.join ", " (ys.map S)=S (TL.joinL [44,32] ys):=by
 rw [S_sep]
 exact SX.join_S [44,32] ys
theorem sum_len:∀(ks:List (List Nat)) (m:Nat),(∀k∈ks,k.length≤m)→((ks.map S).map (·.length)).sum≤ks.length * m
 | [],_,_=>by simp
 | k::ks,m,h=>by
   have h1:=h k (List.mem_cons_self ..)
   have ih:=sum_len ks m fun x hx=>h x (List.mem_cons_of_mem _ hx)
   simp only [List.map_cons,List.sum_cons,S_len,List.length_cons]
   rw [Nat.add_mul]
   omega
theorem txs_S (ks:List (List Nat)):txs ((ks.map S).map T.str)=some (ks.map S):=strs_map _
theorem szBig {n:Nat} (h:n≤16000000):n≤sizeLine:=Nat.le_trans h (by decide)
structure Fit8 (os ns:List Str):Prop where
 o:fines os
 n:fines ns
theorem col_fine {os ns:List Str} (F:Fit8 os ns) {s:Bool} {x:Str} (h:x∈if s then ns else os):fine x:=by
 cases s
 · exact F.o x h
 · exact F.n x h
theorem wC_small {os ns:List Str} (F:Fit8 os ns) {b:Bool} (w:Wd b) (hd:w.dp≤8) (hw:w.ok os ns):(wC w).length≤1048576:=wC_len F.o F.n 8 w hd hw
theorem kids_small {os ns:List Str} (F:Fit8 os ns) {b:Bool} {w:Wd b} {hd:Str} (z:NodeT w hd) (h8:w.dp≤8) (hw:w.ok os ns):∀k∈w.kids.map kC,k.length≤262144:=fun k hk=>by
 obtain ⟨kk,hkk,rfl⟩:=List.mem_map.mp hk
 exact wC_len F.o F.n 7 kk.2 (by have:=z.lt kk hkk;omega) (z.ok _ _ hw kk hkk)
theorem node_cat (hd:List Nat) (J:List Nat):S hd++"("++S J++")"=S (hd++(40::(J++[41]))):=by
 rw [S_open,S_close,S_app,S_app,S_app]
 congr 1
 simp
theorem col_cat (s:Bool) (x:Str):sideS s++"."++x=S (cs (sideS s)++46::cs x):=by
 rw [S_dot, ←S_cs (sideS s), ←S_cs x,S_app,S_app]
 congr 1
 simp [cs_S]
theorem node_lens {os ns:List Str} (F:Fit8 os ns) {b:Bool} {w:Wd b} {hd:Str} (z:NodeT w hd) (h8:w.dp≤8) (hw:w.ok os ns):
 ((w.kids.map kC).map S).map (·.length) |>.sum |> fun n=>n+((w.kids.map kC).map S).length * (", ":Str).length≤16777216:=by
 have h1:=sum_len (w.kids.map kC) 262144 (kids_small F z h8 hw)
 have l:=z.len
 have e:(", ":Str).length=2:=by decide +kernel
 simp only [List.length_map] at h1 ⊢
 rw [e]
 omega
end Law
set_option maxHeartbeats 400000
namespace Law
open PySem L2 M3
theorem in_on' (s:Str) (Q:T→Prop):inP false (.str s) (.tup [.str "old",.str "new"]) Q=Q (.bl (decide (s="old"∨s="new"))):=by
 have:=in_texts (neg:=false) s ["old","new"] Q
 simpa [texts] using this
end Law
set_option maxHeartbeats 400000
namespace Law
open PySem L2 M3
theorem cut1 {α:Type} (x:α) (xs:List α):cut (x::xs) (some 1) none=xs:=by
 unfold cut
 have e1:HT.sIx (x::xs).length 0 (some 1)=1:=by simp [HT.sIx]
 have e2:HT.sIx (x::xs).length (x::xs).length none=(x::xs).length:=rfl
 rw [e1,e2]
 simp
theorem written_eq (C:Cs) {os ns:List Str} (F:Fit8 os ns):∀(f:Nat) {b:Bool} (w:Wd b) (Q:T→Prop) (X:X3),w.dp≤f→w.dp≤8→w.ok os ns→Lwritten C f [w.tr] Q X=Q (.str (S (wC w)))
 | 0,_,w,Q,X,h,_,_=>by have:=dp_pos w;omega
 | g+1,_,w,Q,X,hf,h8,hw=>by
   have ih:=fun {b:Bool} (k:Wd b) Q X (h1:k.dp≤g) (h2:k.dp≤8) (h3:k.ok os ns)=>written_eq C F g k Q X h1 h2 h3
   rw [Lwritten_succ]
   show LwrittenB C _ _ [Sl.val w.tr,.no]=_
   generalize Lwritten C g=r at ih
   cases viewT w with
   | cell c tr dp tx ok=>
     rw [tx]
     cases c with
     | none=>
       rw [←S_gap]
       simp [LwrittenB,seq3,next3,ret3,retN3,ifs3,drop3,asg3,name3,tst3,and3,or3,not3,andV3,orV3,notV3,if3,v3,k3,op3,un3,nil3,cons3,call3,tup3,lst3,chain3,fn30,fn3,fnN30,fnN3,fnP30,i2,i2c,i1,isN3,notN3,eqS3,neS3,ixL3,ixT3,len3,all3,any3,abs3,max23,min23,isi3,isB3,truth3,start3,slot,flatT,scal,tyn,M3.isNon,lenT,truT,isiB,Option.bind,take3,kbs,addP,mulP,ixP,slP,eqP,neP,isSeq,iterP,itemsP,no3,part3,sl3,raise3,brk3,cont3,M3.ltP,M3.leP,M3.gtP,M3.geP,tr]
     | some i=>
       have h: -999999999999999999999999999999≤i∧i≤999999999999999999999999999999:=ok _ _ hw i rfl
       have l2:i.natAbs.log2<1920:=log2_small (by omega)
       have e:Str.ofString (toString i)=S (cC (some i)):=ext_cs (str_codes i)
       have e':Str.ofString i.repr=S (cC (some i)):=e
       simp [LwrittenB,seq3,next3,ret3,retN3,ifs3,drop3,asg3,name3,tst3,and3,or3,not3,andV3,orV3,notV3,if3,v3,k3,op3,un3,nil3,cons3,call3,tup3,lst3,chain3,fn30,fn3,fnN30,fnN3,fnP30,i2,i2c,i1,isN3,notN3,eqS3,neS3,ixL3,ixT3,len3,all3,any3,abs3,max23,min23,isi3,isB3,truth3,start3,slot,flatT,scal,tyn,M3.isNon,lenT,truT,isiB,Option.bind,take3,kbs,addP,mulP,ixP,slP,eqP,neP,isSeq,iterP,itemsP,no3,part3,sl3,raise3,brk3,cont3,M3.ltP,M3.leP,M3.gtP,M3.geP,tr,strI3,l2,e,e']
   | col s x tr dp tx ok=>
     have fx:=col_fine F (ok _ _ hw)
     have l1:x.length≤8:=fx.2.2
     have l3:(sideS s).length=3:=by cases s<;>decide +kernel
     have ld:(".": Str).length=1:=by decide +kernel
     have a1:(sideS s).length+(".": Str).length≤sizeLine:=szBig (by omega)
     have a2:(sideS s++".":Str).length+x.length≤sizeLine:=szBig (by rw [Str.length_append];omega)
     have cc:=col_cat s x
     rw [tx, ←cc]
     have nc:¬sideS s="cell":=by cases s<;>decide +kernel
     have on:sideS s="old"∨sideS s="new":=by cases s<;>decide +kernel
     simp [LwrittenB,seq3,next3,ret3,retN3,ifs3,drop3,asg3,name3,tst3,and3,or3,not3,andV3,orV3,notV3,if3,v3,k3,op3,un3,nil3,cons3,call3,tup3,lst3,chain3,fn30,fn3,fnN30,fnN3,fnP30,i2,i2c,i1,isN3,notN3,eqS3,neS3,ixL3,ixT3,len3,all3,any3,abs3,max23,min23,isi3,isB3,truth3,start3,slot,flatT,scal,tyn,M3.isNon,lenT,truT,isiB,Option.bind,take3,kbs,addP,mulP,ixP,slP,eqP,neP,isSeq,iterP,itemsP,no3,part3,sl3,raise3,brk3,cont3,M3.ltP,M3.leP,M3.gtP,M3.geP,sl2,tr,nc,in_on',on,a1,a2]
   | yes tr dp tx=>
     rw [tx]
     have n1:¬("yes":Str)="cell":=by decide +kernel
     have n2:¬(("yes":Str)="old"∨("yes":Str)="new"):=by decide +kernel
     simp [LwrittenB,seq3,next3,ret3,retN3,ifs3,drop3,asg3,name3,tst3,and3,or3,not3,andV3,orV3,notV3,if3,v3,k3,op3,un3,nil3,cons3,call3,tup3,lst3,chain3,fn30,fn3,fnN30,fnN3,fnP30,i2,i2c,i1,isN3,notN3,eqS3,neS3,ixL3,ixT3,len3,all3,any3,abs3,max23,min23,isi3,isB3,truth3,start3,slot,flatT,scal,tyn,M3.isNon,lenT,truT,isiB,Option.bind,take3,kbs,addP,mulP,ixP,slP,eqP,neP,isSeq,iterP,itemsP,no3,part3,sl3,raise3,brk3,cont3,M3.ltP,M3.leP,M3.gtP,M3.geP,sl2,tr,n1,in_on',n2, ←S_yes]
   | node hd z=>
     have cm:=fun (Q:List T→Prop)=>comp_kids (i:=1) (te:=fn30 1 r (cons3 (v3 1) nil3) []) (σ:=[.val w.tr,.no]) (X:=X) (f:=ktr) (g:=fun k:KW=>T.str (S (kC k))) (Q:=Q) w.kids [] (fun k hk Q'=>by
      have:=z.lt k hk
      have e:=fun Q X=>ih k.2 Q X (by omega) (by omega) (z.ok _ _ hw k hk)
      simp [seq3,next3,ret3,retN3,ifs3,drop3,asg3,name3,tst3,and3,or3,not3,andV3,orV3,notV3,if3,v3,k3,op3,un3,nil3,cons3,call3,tup3,lst3,chain3,fn30,fn3,fnN30,fnN3,fnP30,i2,i2c,i1,isN3,notN3,eqS3,neS3,ixL3,ixT3,len3,all3,any3,abs3,max23,min23,isi3,isB3,truth3,start3,slot,flatT,scal,tyn,M3.isNon,lenT,truT,isiB,Option.bind,take3,kbs,addP,mulP,ixP,slP,eqP,neP,isSeq,iterP,itemsP,no3,part3,sl3,raise3,brk3,cont3,M3.ltP,M3.leP,M3.gtP,M3.geP,ktr,e,kC]) (by have:=z.len;simp only [List.length_nil];omega)
     have nl:=node_lens F z h8 hw
     have tl:=wC_small F w h8 hw
     have e1:(w.kids.map fun k=>T.str (S (kC k)))=((w.kids.map kC).map S).map T.str:=by simp
     have e2:=txs_S (w.kids.map kC)
     have e3:=join_eqS (w.kids.map kC)
     have e4:=node_cat (cs hd) (TL.joinL [44,32] (w.kids.map kC))
     rw [z.tx] at tl ⊢
     rw [S_cs] at e4
     have e5:S (nodeC (cs hd) (w.kids.map kC))=hd++"("++S (TL.joinL [44,32] (w.kids.map kC))++")":=e4.symm
     have ht:(hd++"("++S (TL.joinL [44,32] (w.kids.map kC))++")":Str).length≤1048576:=by rw [←e5,S_len];exact tl
     simp only [Str.length_append] at ht
     have b1:hd.length+("(":Str).length≤sizeLine:=szBig (by omega)
     have b2:(hd++"(":Str).length+(S (TL.joinL [44,32] (w.kids.map kC))).length≤sizeLine:=szBig (by rw [Str.length_append];omega)
     have b3:(hd++"("++S (TL.joinL [44,32] (w.kids.map kC)):Str).length+(")":Str).length≤sizeLine:=szBig (by rw [Str.length_append,Str.length_append];omega)
     rw [e5]
     generalize TL.joinL [44,32] (w.kids.map kC)=J at *
     generalize (w.kids.map kC).map S=ks at *
     rw [z.tr] at cm ⊢
     have h1:=z.h1
     have h2:=z.h2
     have h3:=z.h3
     have hy:=z.yes
     rw [e1] at cm
     generalize w.kids.map ktr=xs at cm ⊢
     simp [LwrittenB,seq3,next3,ret3,retN3,ifs3,drop3,asg3,name3,tst3,and3,or3,not3,andV3,orV3,notV3,if3,v3,k3,op3,un3,nil3,cons3,call3,tup3,lst3,chain3,fn30,fn3,fnN30,fnN3,fnP30,i2,i2c,i1,isN3,notN3,eqS3,neS3,ixL3,ixT3,len3,all3,any3,abs3,max23,min23,isi3,isB3,truth3,start3,slot,flatT,scal,tyn,M3.isNon,lenT,truT,isiB,Option.bind,take3,kbs,addP,mulP,ixP,slP,eqP,neP,isSeq,iterP,itemsP,no3,part3,sl3,raise3,brk3,cont3,M3.ltP,M3.leP,M3.gtP,M3.geP,sl2,asT,in_on',h1,h2,h3,hy,lc3,noOwn,wipe3,cm,m13,asS,joinM3,items,e2,cut1]
     rw [e3]
     exact ⟨fun h=>h.2.2.2.2,fun h=>⟨b1,by simpa using nl,b2,b3,h⟩⟩
def pcs (ks:List (List Nat)):List T:=ks.map fun k=>T.str (S k)
theorem cut_body {C:Cs} {N:N3} {l:List Nat} (hl:l.length≤1048576) (c:Nat) (r cur pre:List Nat) (done:List (List Nat)) (d:Int) (i:Nat) (el:l=pre++cur++(c::r)) (ei:i=pre.length+cur.length) (hd:done.length≤1048576):
 cut_parts_4b C N [.val (.str (S l)),.own (.lst (pcs done)),.val (.int d),.val (.int (pre.length:Int)),.val (.int (i:Int)),.val (.str (S [c]))]=
 if c=44∧(if c=41 then (if c=40 then d+1 else d)-1 else (if c=40 then d+1 else d))=0 then
  N.nx [.val (.str (S l)),.own (.lst (pcs (done++[cur]))),.val (.int (if c=41 then (if c=40 then d+1 else d)-1 else (if c=40 then d+1 else d))),.val (.int ((i:Int)+1)),.val (.int (i:Int)),.val (.str (S [c]))]
 else N.nx [.val (.str (S l)),.own (.lst (pcs done)),.val (.int (if c=41 then (if c=40 then d+1 else d)-1 else (if c=40 then d+1 else d))),.val (.int (pre.length:Int)),.val (.int (i:Int)),.val (.str (S [c]))]:=by
 have hs:(S l).length≤sizeLine:=by rw [S_len];exact szBig (by omega)
 have sl:cutS (S l) (some (pre.length:Int)) (some (i:Int))=S cur:=by
  rw [cutS_S,el,ei,cut_between]
 have q1:(S [c]=("(":Str))=(c=40):=by rw [show ("(":Str)=S [40] from by decide +kernel,S_eq];simp
 have q2:(S [c]=(")":Str))=(c=41):=by rw [show (")":Str)=S [41] from by decide +kernel,S_eq];simp
 have q3:(S [c]=(",":Str))=(c=44):=by rw [show (",":Str)=S [44] from by decide +kernel,S_eq];simp
 have ap:pcs done++[T.str (S cur)]=pcs (done++[cur]):=by simp [pcs]
 have dl:(pcs done).length<sizeLine:=by
  have:sizeLine=16777216:=by decide
  simp only [pcs,List.length_map];omega
 by_cases c1:c=40
 · subst c1
   simp [cut_parts_4b,cut_parts_4b_1,cut_parts_4b_1t_1,cut_parts_4b_2,cut_parts_4b_2t_1,cut_parts_4b_3,cut_parts_4b_3t_1,cut_parts_4b_3t_2,seq3,next3,ret3,retN3,ifs3,drop3,asg3,name3,tst3,and3,or3,not3,andV3,orV3,notV3,if3,v3,k3,op3,un3,nil3,cons3,call3,tup3,lst3,chain3,fn30,fn3,fnN30,fnN3,fnP30,i2,i2c,i1,isN3,notN3,eqS3,neS3,ixL3,ixT3,len3,all3,any3,abs3,max23,min23,isi3,isB3,truth3,start3,slot,flatT,scal,tyn,M3.isNon,lenT,truT,isiB,Option.bind,take3,kbs,addP,mulP,ixP,slP,eqP,neP,isSeq,iterP,itemsP,no3,part3,sl3,raise3,brk3,cont3,M3.ltP,M3.leP,M3.gtP,M3.geP,q1,q2,q3,augI3]
 · by_cases c2:c=41
   · subst c2
     simp [cut_parts_4b,cut_parts_4b_1,cut_parts_4b_1t_1,cut_parts_4b_2,cut_parts_4b_2t_1,cut_parts_4b_3,cut_parts_4b_3t_1,cut_parts_4b_3t_2,seq3,next3,ret3,retN3,ifs3,drop3,asg3,name3,tst3,and3,or3,not3,andV3,orV3,notV3,if3,v3,k3,op3,un3,nil3,cons3,call3,tup3,lst3,chain3,fn30,fn3,fnN30,fnN3,fnP30,i2,i2c,i1,isN3,notN3,eqS3,neS3,ixL3,ixT3,len3,all3,any3,abs3,max23,min23,isi3,isB3,truth3,start3,slot,flatT,scal,tyn,M3.isNon,lenT,truT,isiB,Option.bind,take3,kbs,addP,mulP,ixP,slP,eqP,neP,isSeq,iterP,itemsP,no3,part3,sl3,raise3,brk3,cont3,M3.ltP,M3.leP,M3.gtP,M3.geP,q1,q2,q3,augI3]
   · by_cases c3:c=44
     · subst c3
       by_cases d0:d=0
       · subst d0
         simp [cut_parts_4b,cut_parts_4b_1,cut_parts_4b_1t_1,cut_parts_4b_2,cut_parts_4b_2t_1,cut_parts_4b_3,cut_parts_4b_3t_1,cut_parts_4b_3t_2,seq3,next3,ret3,retN3,ifs3,drop3,asg3,name3,tst3,and3,or3,not3,andV3,orV3,notV3,if3,v3,k3,op3,un3,nil3,cons3,call3,tup3,lst3,chain3,fn30,fn3,fnN30,fnN3,fnP30,i2,i2c,i1,isN3,notN3,eqS3,neS3,ixL3,ixT3,len3,all3,any3,abs3,max23,min23,isi3,isB3,truth3,start3,slot,flatT,scal,tyn,M3.isNon,lenT,truT,isiB,Option.bind,take3,kbs,addP,mulP,ixP,slP,eqP,neP,isSeq,iterP,itemsP,no3,part3,sl3,raise3,brk3,cont3,M3.ltP,M3.leP,M3.gtP,M3.geP,q1,q2,q3,augI3,app3,ownL,hs,sl,ap,dl]
       · simp [cut_parts_4b,cut_parts_4b_1,cut_parts_4b_1t_1,cut_parts_4b_2,cut_parts_4b_2t_1,cut_parts_4b_3,cut_parts_4b_3t_1,cut_parts_4b_3t_2,seq3,next3,ret3,retN3,ifs3,drop3,asg3,name3,tst3,and3,or3,not3,andV3,orV3,notV3,if3,v3,k3,op3,un3,nil3,cons3,call3,tup3,lst3,chain3,fn30,fn3,fnN30,fnN3,fnP30,i2,i2c,i1,isN3,notN3,eqS3,neS3,ixL3,ixT3,len3,all3,any3,abs3,max23,min23,isi3,isB3,truth3,start3,slot,flatT,scal,tyn,M3.isNon,lenT,truT,isiB,Option.bind,take3,kbs,addP,mulP,ixP,slP,eqP,neP,isSeq,iterP,itemsP,no3,part3,sl3,raise3,brk3,cont3,M3.ltP,M3.leP,M3.gtP,M3.geP,q1,q2,q3,augI3,d0]
     · simp [cut_parts_4b,cut_parts_4b_1,cut_parts_4b_1t_1,cut_parts_4b_2,cut_parts_4b_2t_1,cut_parts_4b_3,cut_parts_4b_3t_1,cut_parts_4b_3t_2,seq3,next3,ret3,retN3,ifs3,drop3,asg3,name3,tst3,and3,or3,not3,andV3,orV3,notV3,if3,v3,k3,op3,un3,nil3,cons3,call3,tup3,lst3,chain3,fn30,fn3,fnN30,fnN3,fnP30,i2,i2c,i1,isN3,notN3,eqS3,neS3,ixL3,ixT3,len3,all3,any3,abs3,max23,min23,isi3,isB3,truth3,start3,slot,flatT,scal,tyn,M3.isNon,lenT,truT,isiB,Option.bind,take3,kbs,addP,mulP,ixP,slP,eqP,neP,isSeq,iterP,itemsP,no3,part3,sl3,raise3,brk3,cont3,M3.ltP,M3.leP,M3.gtP,M3.geP,q1,q2,q3,augI3,c1,c2,c3]
theorem cut_loop {C:Cs} {N:N3} {l:List Nat} (hl:l.length≤1048576):∀(r cur pre:List Nat) (done:List (List Nat)) (d:Int) (i:Nat) (x y:Sl),l=pre++cur++r→i=pre.length+cur.length→done.length≤i→
 (∀(pre' cur':List Nat) (done':List (List Nat)) (d':Int) (x y:Sl),l=pre'++cur'→done'++[cur']=done++cutF r cur d→done'.length≤1048576→N.nx [.val (.str (S l)),.own (.lst (pcs done')),.val (.int d'),.val (.int (pre'.length:Int)),x,y])→
 loop3 (gtup3 2 (gcons3 (name3 4) (gcons3 (name3 5) gnil3))) (cut_parts_4b C) N (numT i (r.map chT)) [.val (.str (S l)),.own (.lst (pcs done)),.val (.int d),.val (.int (pre.length:Int)),x,y]
 | [],cur,pre,done,d,i,x,y,el,ei,hd,h=>by
   have:i≤l.length:=by rw [el,ei];simp only [List.length_append];omega
   exact h pre cur done d x y (by simpa using el) rfl (by omega)
 | c::r,cur,pre,done,d,i,x,y,el,ei,hd,h=>by
   have hi:i<l.length:=by rw [el,ei];simp only [List.length_append,List.length_cons];omega
   have e0:loop3 (gtup3 2 (gcons3 (name3 4) (gcons3 (name3 5) gnil3))) (cut_parts_4b C) N (numT i ((c::r).map chT)) [.val (.str (S l)),.own (.lst (pcs done)),.val (.int d),.val (.int (pre.length:Int)),x,y]=
    cut_parts_4b C {nx:=loop3 (gtup3 2 (gcons3 (name3 4) (gcons3 (name3 5) gnil3))) (cut_parts_4b C) N (numT (i+1) (r.map chT)),ct:=loop3 (gtup3 2 (gcons3 (name3 4) (gcons3 (name3 5) gnil3))) (cut_parts_4b C) N (numT (i+1) (r.map chT)),bk:=N.nx,rt:=N.rt,xn:=N.xn}
     [.val (.str (S l)),.own (.lst (pcs done)),.val (.int d),.val (.int (pre.length:Int)),.val (.int (i:Int)),.val (.str (S [c]))]:=by
    simp [loop3,numT,gtup3,gcons3,gnil3,name3,asT,chT]
   rw [e0,cut_body hl c r cur pre done d i el ei (by omega)]
   generalize hd2:(if c=41 then (if c=40 then d+1 else d)-1 else (if c=40 then d+1 else d))=d2
   have ef:cutF (c::r) cur d=if c=44∧d2=0 then cur::cutF r [] d2 else cutF r (cur++[c]) d2:=by rw [←hd2];rfl
   rw [ef] at h
   split
   · rename_i cc
     rw [if_pos cc] at h
     have e1:((i:Int)+1)=(((pre++cur++[c]).length:Nat):Int):=by rw [ei];simp only [List.length_append,List.length_cons,List.length_nil];omega
     rw [e1]
     exact cut_loop hl r [] (pre++cur++[c]) (done++[cur]) d2 (i+1) _ _ (by rw [el];simp) (by rw [ei];simp only [List.length_append,List.length_cons,List.length_nil]<;>omega) (by simp only [List.length_append,List.length_cons,List.length_nil]<;>omega) fun pre' cur' done' d' x y a1 a2 a3=>h pre' cur' done' d' x y a1 (by rw [a2];simp) a3
   · rename_i cc
     rw [if_neg cc] at h
     exact cut_loop hl r (cur++[c]) pre done d2 (i+1) _ _ (by rw [el];simp) (by rw [ei];simp only [List.length_append,List.length_cons,List.length_nil]<;>omega) (by omega) h
theorem cut_parts_ok (C:Cs) {l:List Nat} (hl:l.length≤1048576) (Q:T→Prop) (X:X3) (h:Q (.lst (pcs (cutF l [] 0)))):cut_parts C [.str (S l)] Q X:=by
 rw [cut_parts_def]
 show cut_partsB C _ [Sl.val (.str (S l)),.no,.no,.no,.no,.no]
 have hs:(S l).length≤sizeLine:=by rw [S_len];exact szBig (by omega)
 have z0:0≤sizeLine:=Nat.zero_le _
 unfold cut_partsB
 refine seq_by (fun σ'=>σ'=[.val (.str (S l)),.own (.lst (pcs [])),.no,.no,.no,.no]) (fun nx hx=> ?_) ?_
 · have:=hx _ rfl
   simpa [cut_parts_1,ownset3,seq3,next3,ret3,retN3,ifs3,drop3,asg3,name3,tst3,and3,or3,not3,andV3,orV3,notV3,if3,v3,k3,op3,un3,nil3,cons3,call3,tup3,lst3,chain3,fn30,fn3,fnN30,fnN3,fnP30,i2,i2c,i1,isN3,notN3,eqS3,neS3,ixL3,ixT3,len3,all3,any3,abs3,max23,min23,isi3,isB3,truth3,start3,slot,flatT,scal,tyn,M3.isNon,lenT,truT,isiB,Option.bind,take3,kbs,addP,mulP,ixP,slP,eqP,neP,isSeq,iterP,itemsP,no3,part3,sl3,raise3,brk3,cont3,M3.ltP,M3.leP,M3.gtP,M3.geP,pcs] using this
 rintro σ' rfl
 refine seq_by (fun σ'=>σ'=[.val (.str (S l)),.own (.lst (pcs [])),.val (.int 0),.no,.no,.no]) (fun nx hx=> ?_) ?_
 · simpa [cut_parts_2,seq3,next3,ret3,retN3,ifs3,drop3,asg3,name3,tst3,and3,or3,not3,andV3,orV3,notV3,if3,v3,k3,op3,un3,nil3,cons3,call3,tup3,lst3,chain3,fn30,fn3,fnN30,fnN3,fnP30,i2,i2c,i1,isN3,notN3,eqS3,neS3,ixL3,ixT3,len3,all3,any3,abs3,max23,min23,isi3,isB3,truth3,start3,slot,flatT,scal,tyn,M3.isNon,lenT,truT,isiB,Option.bind,take3,kbs,addP,mulP,ixP,slP,eqP,neP,isSeq,iterP,itemsP,no3,part3,sl3,raise3,brk3,cont3,M3.ltP,M3.leP,M3.gtP,M3.geP] using hx _ rfl
 rintro σ' rfl
 refine seq_by (fun σ'=>σ'=[.val (.str (S l)),.own (.lst (pcs [])),.val (.int 0),.val (.int 0),.no,.no]) (fun nx hx=> ?_) ?_
 · simpa [cut_parts_3,seq3,next3,ret3,retN3,ifs3,drop3,asg3,name3,tst3,and3,or3,not3,andV3,orV3,notV3,if3,v3,k3,op3,un3,nil3,cons3,call3,tup3,lst3,chain3,fn30,fn3,fnN30,fnN3,fnP30,i2,i2c,i1,isN3,notN3,eqS3,neS3,ixL3,ixT3,len3,all3,any3,abs3,max23,min23,isi3,isB3,truth3,start3,slot,flatT,scal,tyn,M3.isNon,lenT,truT,isiB,Option.bind,take3,kbs,addP,mulP,ixP,slP,eqP,neP,isSeq,iterP,itemsP,no3,part3,sl3,raise3,brk3,cont3,M3.ltP,M3.leP,M3.gtP,M3.geP] using hx _ rfl
 rintro σ' rfl
 refine seq_by (fun σ'=>∃(pre' cur':List Nat) (done':List (List Nat)) (d':Int) (x y:Sl),l=pre'++cur'∧done'++[cur']=cutF l [] 0∧done'.length≤1048576∧σ'=[.val (.str (S l)),.own (.lst (pcs done')),.val (.int d'),.val (.int (pre'.length:Int)),x,y]) (fun nx hx=> ?_) ?_
 · unfold cut_parts_4
   refine for_by (fun ds=>ds=numT 0 (l.map chT)) (fun Q X hd=> ?_) ?_
   · have:=hd _ rfl
     simpa [iterEn3,seq3,next3,ret3,retN3,ifs3,drop3,asg3,name3,tst3,and3,or3,not3,andV3,orV3,notV3,if3,v3,k3,op3,un3,nil3,cons3,call3,tup3,lst3,chain3,fn30,fn3,fnN30,fnN3,fnP30,i2,i2c,i1,isN3,notN3,eqS3,neS3,ixL3,ixT3,len3,all3,any3,abs3,max23,min23,isi3,isB3,truth3,start3,slot,flatT,scal,tyn,M3.isNon,lenT,truT,isiB,Option.bind,take3,kbs,addP,mulP,ixP,slP,eqP,neP,isSeq,iterP,itemsP,no3,part3,sl3,raise3,brk3,cont3,M3.ltP,M3.leP,M3.gtP,M3.geP,isTp,one] using this
   rintro ds rfl
   exact cut_loop hl l [] [] [] 0 0 .no .no (by simp) (by simp) (by simp) fun pre' cur' done' d' x y a1 a2 a3=>hx _ ⟨pre',cur',done',d',x,y,a1,by simpa using a2,a3,rfl⟩
 rintro σ' ⟨pre',cur',done',d',x,y,a1,a2,a3,rfl⟩
 have sl:cutS (S l) (some (pre'.length:Int)) none=S cur':=by rw [cutS_S,a1,cut_from']
 have ap:pcs done'++[T.str (S cur')]=pcs (cutF l [] 0):=by rw [←a2];simp [pcs]
 have dl:(pcs done').length<sizeLine:=by
  have:sizeLine=16777216:=by decide
  simp only [pcs,List.length_map];omega
 refine seq_by (fun σ'=>σ'=[.val (.str (S l)),.own (.lst (pcs (cutF l [] 0))),.val (.int d'),.val (.int (pre'.length:Int)),x,y]) (fun nx hx=> ?_) ?_
 · have:=hx _ rfl
   simpa [cut_parts_5,app3,ownL,seq3,next3,ret3,retN3,ifs3,drop3,asg3,name3,tst3,and3,or3,not3,andV3,orV3,notV3,if3,v3,k3,op3,un3,nil3,cons3,call3,tup3,lst3,chain3,fn30,fn3,fnN30,fnN3,fnP30,i2,i2c,i1,isN3,notN3,eqS3,neS3,ixL3,ixT3,len3,all3,any3,abs3,max23,min23,isi3,isB3,truth3,start3,slot,flatT,scal,tyn,M3.isNon,lenT,truT,isiB,Option.bind,take3,kbs,addP,mulP,ixP,slP,eqP,neP,isSeq,iterP,itemsP,no3,part3,sl3,raise3,brk3,cont3,M3.ltP,M3.leP,M3.gtP,M3.geP,hs,sl,ap,dl] using this
 rintro σ' rfl
 simpa [cut_parts_6,frz3,M3.thaw,seq3,next3,ret3,retN3,ifs3,drop3,asg3,name3,tst3,and3,or3,not3,andV3,orV3,notV3,if3,v3,k3,op3,un3,nil3,cons3,call3,tup3,lst3,chain3,fn30,fn3,fnN30,fnN3,fnP30,i2,i2c,i1,isN3,notN3,eqS3,neS3,ixL3,ixT3,len3,all3,any3,abs3,max23,min23,isi3,isB3,truth3,start3,slot,flatT,scal,tyn,M3.isNon,lenT,truT,isiB,Option.bind,take3,kbs,addP,mulP,ixP,slP,eqP,neP,isSeq,iterP,itemsP,no3,part3,sl3,raise3,brk3,cont3,M3.ltP,M3.leP,M3.gtP,M3.geP] using h
end Law
set_option maxHeartbeats 400000
namespace Law
open PySem L2 M3
theorem ifs_t {t:B3} {x y:S3} {N:N3} {σ:List Sl} (ht:∀Q X,Q true→t σ Q X) (h:x N σ):ifs3 t x y N σ:=ht _ _ (by simpa using h)
theorem ifs_f {t:B3} {x y:S3} {N:N3} {σ:List Sl} (ht:∀Q X,Q false→t σ Q X) (h:y N σ):ifs3 t x y N σ:=ht _ _ (by simpa using h)
abbrev dgs:Str:="0123456789"
theorem digits_comp {i:Nat} {σ:List Sl} {X:X3} {Q:List T→Prop} (D:List Nat) (hz:D.length≤1000) (hi:i<σ.length):
 comp3 (name3 i) yes3 (op3 (inP false) (v3 i) (M3.k3 (.str dgs))) σ X Q (D.map chT) []=Q (D.map fun c=>.bl (decide (c∈dgs.cps.toList))):=by
 rw [comp_kids (g:=fun c=>.bl (decide (c∈dgs.cps.toList))) D []]
 · simp
 · intro c hc Q'
   simp [op3,v3,M3.k3,slot,inP,List.getElem?_set_self hi,chT]
 · simp only [List.length_nil];omega
theorem S_zero:("0":Str)=S [48]:=by decide +kernel
theorem S_minus:("-":Str)=S [45]:=by decide +kernel
theorem S_gap':("gap":Str)=S [103,97,112]:=by decide +kernel
end Law
set_option maxHeartbeats 400000
namespace Law
open PySem L2 M3
def figs (l:List Nat):List Nat:=if l.take 1=[45] then l.drop 1 else l
def dig (c:Nat):Bool:=decide (c∈dgs.cps.toList)
theorem dig_mem:∀c∈dgs.cps.toList,48≤c∧c≤57:=by decide +kernel
theorem dig_iff {c:Nat} (h:dig c=true):48≤c∧c≤57:=dig_mem c (of_decide_eq_true h)
def GAP:List Nat:=[103,97,112]
def okC (l:List Nat):Bool:=decide (l=GAP)||(decide (1≤(figs l).length)&&decide ((figs l).length≤30)&&((figs l).all dig&& !(decide ((figs l).head? =some 48)&& !decide (l=[48]))))
def valC (l:List Nat):T:=if l=GAP then .non else .int ((PySem.intText? (S l)).getD 0)
def BT (C:Cs):Xn:=⟨.ref (C.at_ "BadText"),[("at",.int 0)]⟩
theorem raise_bad {C:Cs} {N:N3} {σ:List Sl}:raiseD3 (.ref (C.at_ "BadText")) ["at"] [0] 0 [0] [(.int 0)] nil3 N σ=N.xn σ (BT C):=by
 have f:fmtB (some (.int 0))=true:=by decide +kernel
 simp [raiseD3,nil3,sel,f,BT]
theorem figs_sub {l:List Nat}:(figs l).length≤l.length:=by
 unfold figs
 split
 · rw [List.length_drop];omega
 · exact Nat.le_refl _
theorem figs_read {l:List Nat} (hl:l.length≤1000000) (b c:Sl) (Q:T→Prop) (X:X3) (a:List Sl) (ha:a=[Sl.val (.str (S l)),b,c]∨∃d,a=[Sl.val (.str (S l)),b,c,d]):
 if3 (tst3 (op3 eqP (sl3 slP (v3 0) no3 (part3 (M3.k3 (.int 1)))) (M3.k3 (.str "-")))) (sl3 slP (v3 0) (part3 (M3.k3 (.int 1))) no3) (v3 0) a Q X=Q (.str (S (figs l))):=by
 have hsz:(S l).length≤sizeLine:=by rw [S_len];exact szBig (by omega)
 have c1:cutS (S l) none (some 1)=S (l.take 1):=by
  rw [cutS_S]
  congr 1
  cases l with
  | nil=>rfl
  | cons x r=>simp [cut,HT.sIx]
 have c2:∀x r,l=x::r→cutS (S l) (some 1) none=S r:=fun x r e=>by rw [e,cutS_S,cut1]
 have s0:a[0]? =some (Sl.val (.str (S l))):=by rcases ha with rfl | ⟨d,rfl⟩<;>rfl
 unfold figs
 by_cases h:l.take 1=[45]
 · rw [if_pos h]
   obtain ⟨x,r,e⟩:∃x r,l=x::r:=by
    cases l with
    | nil=>cases h
    | cons x r=>exact ⟨x,r,rfl⟩
   have e2:=c2 x r e
   have e3:S (l.take 1)=("-":Str):=by rw [h,S_minus]
   have e4:l.drop 1=r:=by rw [e];rfl
   rw [e4]
   simp [seq3,next3,ret3,retN3,ifs3,drop3,asg3,name3,tst3,and3,or3,not3,andV3,orV3,notV3,if3,v3,k3,op3,un3,nil3,cons3,call3,tup3,lst3,chain3,fn30,fn3,fnN30,fnN3,fnP30,i2,i2c,i1,isN3,notN3,eqS3,neS3,ixL3,ixT3,len3,all3,any3,abs3,max23,min23,isi3,isB3,truth3,start3,slot,flatT,scal,tyn,M3.isNon,lenT,truT,isiB,Option.bind,take3,kbs,addP,mulP,ixP,slP,eqP,neP,isSeq,iterP,itemsP,no3,part3,sl3,raise3,brk3,cont3,M3.ltP,M3.leP,M3.gtP,M3.geP,s0,hsz,c1,e2,e3]
 · rw [if_neg h]
   have e3:¬S (l.take 1)=("-":Str):=by rw [S_minus,S_eq];exact h
   simp [seq3,next3,ret3,retN3,ifs3,drop3,asg3,name3,tst3,and3,or3,not3,andV3,orV3,notV3,if3,v3,k3,op3,un3,nil3,cons3,call3,tup3,lst3,chain3,fn30,fn3,fnN30,fnN3,fnP30,i2,i2c,i1,isN3,notN3,eqS3,neS3,ixL3,ixT3,len3,all3,any3,abs3,max23,min23,isi3,isB3,truth3,start3,slot,flatT,scal,tyn,M3.isNon,lenT,truT,isiB,Option.bind,take3,kbs,addP,mulP,ixP,slP,eqP,neP,isSeq,iterP,itemsP,no3,part3,sl3,raise3,brk3,cont3,M3.ltP,M3.leP,M3.gtP,M3.geP,s0,hsz,c1,e3]
end Law
set_option maxHeartbeats 400000
namespace Law
open PySem L2 M3
theorem digs_ok {i:Nat} {σ:List Sl} {D:List Nat} (h1:σ[1]? =some (.val (.str (S D)))) (hi:i<σ.length) (hn:noOwn σ [i]) (hz:D.length≤1000) (Q:T→Prop) (X:X3):
 call3 all3 (cons3 (lc3 (iterP (v3 1)) (name3 i) yes3 (op3 (inP false) (v3 i) (M3.k3 (.str "0123456789"))) [i]) nil3) σ Q X=Q (.bl (D.all dig)):=by
 have c:=digits_comp (i:=i) (σ:=σ.set i .no) (X:=X) (Q:=fun ys=>all3 [.lst ys] Q) D hz (by rw [List.length_set];exact hi)
 have e:call3 all3 (cons3 (lc3 (iterP (v3 1)) (name3 i) yes3 (op3 (inP false) (v3 i) (M3.k3 (.str "0123456789"))) [i]) nil3) σ Q X=(noOwn σ [i]∧comp3 (name3 i) yes3 (op3 (inP false) (v3 i) (M3.k3 (.str dgs))) (σ.set i .no) X (fun ys=>all3 [.lst ys] Q) (D.map chT) []):=by
  have hs:(S D).length≤sizeLine:=by rw [S_len];exact szBig (by omega)
  simp [call3,cons3,nil3,lc3,iterP,v3,slot,h1,itemsP,wipe3,hs]
 rw [e,c]
 have ea:all3 [.lst (D.map fun c=>.bl (decide (c∈dgs.cps.toList)))] Q=Q (.bl (D.all dig)):=by
  simp only [all3,one_1,ob_some,asL_lst,bls_dec]
  rw [List.all_map]
  rfl
 rw [ea]
 exact propext ⟨fun h=>h.2,fun h=>⟨hn,h⟩⟩
theorem head_read {D:List Nat} {Q:T→Prop} (h:1≤D.length) (hl:D.length≤1000):ixP (.str (S D)) (.int 0) (fun x=>eqP x (.str "0") Q)=Q (.bl (decide (D.head? =some 48))):=by
 obtain ⟨d,r,rfl⟩:∃d r,D=d::r:=by
  cases D with
  | nil=>simp at h
  | cons d r=>exact ⟨d,r,rfl⟩
 have at0:atI (S (d::r)).cps.toList 0=some d:=atI_nat (j:=0) rfl
 have hs:(S (d::r)).length≤sizeLine:=by rw [S_len];exact szBig (by omega)
 show ((S (d::r)).length≤sizeLine∧ob (atI (S (d::r)).cps.toList 0) fun c=>eqP (.str ⟨#[c]⟩) (.str "0") Q)=_
 rw [at0,ob_some]
 have e:decide ((⟨#[d]⟩:Str)="0")=decide ((d::r).head? =some 48):=by
  have:((⟨#[d]⟩:Str)="0")=((d::r).head? =some 48):=by
   rw [S_zero]
   show (S [d]=S [48])=_
   rw [S_eq]
   simp
  simp only [this]
 have e2:eqP (.str ⟨#[d]⟩) (.str "0") Q=Q (.bl (decide ((⟨#[d]⟩:Str)="0"))):=by
  simp [eqP,isSeq,eqS3,flatT,scal]
 rw [e2,e]
 simp [hs]
theorem gap_eq {l:List Nat}:(S l=("gap":Str))=(l=GAP):=by rw [S_gap',S_eq];rfl
theorem zero_eq {l:List Nat}:(S l=("0":Str))=(l=[48]):=by rw [S_zero,S_eq]
theorem emp_eq {l:List Nat}:(S l=("":Str))=(l=[]):=by
 have:("":Str)=S []:=by decide +kernel
 rw [this,S_eq]
theorem read_cell_eq (C:Cs) {l:List Nat} (hl:l.length≤1000000) (hv:okC l=true→l≠GAP→∃i:Int,PySem.intText? (S l)=some i∧ -999999999999999999999999999999≤i∧i≤999999999999999999999999999999) (hz:okC l=true→l.length≤31) (Q:T→Prop) (X:X3):
 read_cell C [.str (S l)] Q X=if okC l=true then Q (valC l) else X (BT C):=by
 rw [read_cell_def]
 show read_cellB C {nx:=fun _=>Q .non,rt:=Q,xn:=fun _=>X} [Sl.val (.str (S l)),.no,.no,.no]=_
 by_cases h0:l=GAP
 · have o:okC l=true:=by unfold okC;rw [decide_eq_true h0];rfl
   rw [if_pos o]
   have e:S l=("gap":Str):=by rw [gap_eq];exact h0
   have v:valC l= .non:=by unfold valC;rw [if_pos h0]
   rw [e,v]
   simp [read_cellB,seq3,next3,ret3,retN3,ifs3,drop3,asg3,name3,tst3,and3,or3,not3,andV3,orV3,notV3,if3,v3,k3,op3,un3,nil3,cons3,call3,tup3,lst3,chain3,fn30,fn3,fnN30,fnN3,fnP30,i2,i2c,i1,isN3,notN3,eqS3,neS3,ixL3,ixT3,len3,all3,any3,abs3,max23,min23,isi3,isB3,truth3,start3,slot,flatT,scal,tyn,M3.isNon,lenT,truT,isiB,Option.bind,take3,kbs,addP,mulP,ixP,slP,eqP,neP,isSeq,iterP,itemsP,no3,part3,sl3,raise3,brk3,cont3,M3.ltP,M3.leP,M3.gtP,M3.geP]
 · have e:¬S l=("gap":Str):=by rw [gap_eq];exact h0
   have v:valC l= .int ((PySem.intText? (S l)).getD 0):=by unfold valC;rw [if_neg h0]
   have fg:=fun (b c d:Sl) (Q:T→Prop) (X:X3)=>figs_read hl b c Q X [Sl.val (.str (S l)),b,c,d] (.inr ⟨d,rfl⟩)
   have dg:=fun (hz:(figs l).length≤1000) (Q:T→Prop) (X:X3)=>digs_ok (i:=3) (σ:=[Sl.val (.str (S l)),.val (.str (S (figs l))),.no,.no]) (D:=figs l) rfl (by simp) (by simp [noOwn]) hz Q X
   have fl:(S (figs l)).length≤sizeLine:=by rw [S_len];have:=figs_sub (l:=l);exact szBig (by omega)
   have hd:=fun (Q:T→Prop) (h:1≤(figs l).length) (hl:(figs l).length≤1000)=>head_read (D:=figs l) (Q:=Q) h hl
   have rb:=fun (N:N3) (σ:List Sl)=>raise_bad (C:=C) (N:=N) (σ:=σ)
   unfold read_cellB
   generalize raiseD3 (.ref (C.at_ "BadText")) ["at"] [0] 0 [0] [(.int 0)] nil3=RB at rb ⊢
   generalize (if3 (tst3 (op3 eqP (sl3 slP (v3 0) no3 (part3 (M3.k3 (.int 1)))) (M3.k3 (.str "-")))) (sl3 slP (v3 0) (part3 (M3.k3 (.int 1))) no3) (v3 0))=FG at fg ⊢
   generalize (call3 all3 (cons3 (lc3 (iterP (v3 1)) (name3 3) yes3 (op3 (inP false) (v3 3) (M3.k3 (.str "0123456789"))) [3]) nil3))=DG at dg ⊢
   by_cases h1:1≤(figs l).length
   · by_cases h2:(figs l).length≤30
     · have z1:(1:Int)≤((S (figs l)).length:Int):=by rw [S_len];omega
       have z2:((S (figs l)).length:Int)≤30:=by rw [S_len];omega
       have dg:=fun Q X=>dg (by omega) Q X
       have hd:=fun Q=>hd Q h1 (by omega)
       cases ha:(figs l).all dig with
       | false=>
         have o:okC l=false:=by simp [okC,h0,h1,h2,ha]
         rw [ha] at dg
         rw [o]
         simp [seq3,next3,ret3,retN3,ifs3,drop3,asg3,name3,tst3,and3,or3,not3,andV3,orV3,notV3,if3,v3,k3,op3,un3,nil3,cons3,call3,tup3,lst3,chain3,fn30,fn3,fnN30,fnN3,fnP30,i2,i2c,i1,isN3,notN3,eqS3,neS3,ixL3,ixT3,len3,all3,any3,abs3,max23,min23,isi3,isB3,truth3,start3,slot,flatT,scal,tyn,M3.isNon,lenT,truT,isiB,Option.bind,take3,kbs,addP,mulP,ixP,slP,eqP,neP,isSeq,iterP,itemsP,no3,part3,sl3,raise3,brk3,cont3,M3.ltP,M3.leP,M3.gtP,M3.geP,e,fg,dg,rb,z1,z2,fl]
       | true=>
         rw [ha] at dg
         have ht:∀(Q:Bool→Prop) (X:X3),tst3 (op3 eqP (op3 ixP (v3 1) (M3.k3 (.int 0))) (M3.k3 (.str "0"))) [Sl.val (.str (S l)),.val (.str (S (figs l))),.no,.no] Q X=Q (decide ((figs l).head? =some 48)):=fun Q X=>by
          have:=hd fun x=>ob (asB x) Q
          simpa [tst3,op3,v3,M3.k3,slot,asB] using this
         generalize (tst3 (op3 eqP (op3 ixP (v3 1) (M3.k3 (.int 0))) (M3.k3 (.str "0"))))=HT at ht ⊢
         by_cases h4:(figs l).head? =some 48∧¬l=[48]
         · have o:okC l=false:=by simp [okC,h0,h4.1,h4.2]
           have e4:¬S l=("0":Str):=by rw [zero_eq];exact h4.2
           rw [o]
           simp [seq3,next3,ret3,retN3,ifs3,drop3,asg3,name3,tst3,and3,or3,not3,andV3,orV3,notV3,if3,v3,k3,op3,un3,nil3,cons3,call3,tup3,lst3,chain3,fn30,fn3,fnN30,fnN3,fnP30,i2,i2c,i1,isN3,notN3,eqS3,neS3,ixL3,ixT3,len3,all3,any3,abs3,max23,min23,isi3,isB3,truth3,start3,slot,flatT,scal,tyn,M3.isNon,lenT,truT,isiB,Option.bind,take3,kbs,addP,mulP,ixP,slP,eqP,neP,isSeq,iterP,itemsP,no3,part3,sl3,raise3,brk3,cont3,M3.ltP,M3.leP,M3.gtP,M3.geP,e,fg,dg,rb,z1,z2,fl,ht,h4.1,e4]
         · have o:okC l=true:=by
            have:((figs l).head? =some 48→l=[48]):=fun h=>Classical.byContradiction fun z=>h4 ⟨h,z⟩
            simp [okC,h0,h1,h2,ha]
            by_cases h:(figs l).head? =some 48
            · exact .inr (this h)
            · exact .inl h
           obtain ⟨i,hi,b1,b2⟩:=hv o h0
           have l640:(S l).length≤640:=by rw [S_len];have:=hz o;omega
           rw [o,if_pos rfl,v,hi]
           by_cases h5:(figs l).head? =some 48
           · have h6:l=[48]:=Classical.byContradiction fun z=>h4 ⟨h5,z⟩
             have e4:S l=("0":Str):=by rw [zero_eq];exact h6
             have l640':("0":Str).length≤640:=by decide +kernel
             have hi':PySem.intText? ("0":Str)=some i:=by rw [←e4];exact hi
             have fg':=fg
             rw [e4] at fg dg ht ⊢
             have e':¬("0":Str)=("gap":Str):=by decide +kernel
             simp [seq3,next3,ret3,retN3,ifs3,drop3,asg3,name3,tst3,and3,or3,not3,andV3,orV3,notV3,if3,v3,k3,op3,un3,nil3,cons3,call3,tup3,lst3,chain3,fn30,fn3,fnN30,fnN3,fnP30,i2,i2c,i1,isN3,notN3,eqS3,neS3,ixL3,ixT3,len3,all3,any3,abs3,max23,min23,isi3,isB3,truth3,start3,slot,flatT,scal,tyn,M3.isNon,lenT,truT,isiB,Option.bind,take3,kbs,addP,mulP,ixP,slP,eqP,neP,isSeq,iterP,itemsP,no3,part3,sl3,raise3,brk3,cont3,M3.ltP,M3.leP,M3.gtP,M3.geP,e',fg,dg,rb,z1,z2,fl,ht,h5,intS3,asS,hi',l640',b1,b2]
           · simp [seq3,next3,ret3,retN3,ifs3,drop3,asg3,name3,tst3,and3,or3,not3,andV3,orV3,notV3,if3,v3,k3,op3,un3,nil3,cons3,call3,tup3,lst3,chain3,fn30,fn3,fnN30,fnN3,fnP30,i2,i2c,i1,isN3,notN3,eqS3,neS3,ixL3,ixT3,len3,all3,any3,abs3,max23,min23,isi3,isB3,truth3,start3,slot,flatT,scal,tyn,M3.isNon,lenT,truT,isiB,Option.bind,take3,kbs,addP,mulP,ixP,slP,eqP,neP,isSeq,iterP,itemsP,no3,part3,sl3,raise3,brk3,cont3,M3.ltP,M3.leP,M3.gtP,M3.geP,e,fg,dg,rb,z1,z2,fl,ht,h5,intS3,asS,hi,l640,b1,b2]
     · have z1:(1:Int)≤((S (figs l)).length:Int):=by rw [S_len];omega
       have z2:¬((S (figs l)).length:Int)≤30:=by rw [S_len];omega
       have o:okC l=false:=by simp [okC,h0,h2]
       rw [o]
       simp [seq3,next3,ret3,retN3,ifs3,drop3,asg3,name3,tst3,and3,or3,not3,andV3,orV3,notV3,if3,v3,k3,op3,un3,nil3,cons3,call3,tup3,lst3,chain3,fn30,fn3,fnN30,fnN3,fnP30,i2,i2c,i1,isN3,notN3,eqS3,neS3,ixL3,ixT3,len3,all3,any3,abs3,max23,min23,isi3,isB3,truth3,start3,slot,flatT,scal,tyn,M3.isNon,lenT,truT,isiB,Option.bind,take3,kbs,addP,mulP,ixP,slP,eqP,neP,isSeq,iterP,itemsP,no3,part3,sl3,raise3,brk3,cont3,M3.ltP,M3.leP,M3.gtP,M3.geP,e,fg,rb,z1,z2,fl]
   · have z1:¬(1:Int)≤((S (figs l)).length:Int):=by rw [S_len];omega
     have o:okC l=false:=by simp [okC,h0,h1]
     rw [o]
     simp [seq3,next3,ret3,retN3,ifs3,drop3,asg3,name3,tst3,and3,or3,not3,andV3,orV3,notV3,if3,v3,k3,op3,un3,nil3,cons3,call3,tup3,lst3,chain3,fn30,fn3,fnN30,fnN3,fnP30,i2,i2c,i1,isN3,notN3,eqS3,neS3,ixL3,ixT3,len3,all3,any3,abs3,max23,min23,isi3,isB3,truth3,start3,slot,flatT,scal,tyn,M3.isNon,lenT,truT,isiB,Option.bind,take3,kbs,addP,mulP,ixP,slP,eqP,neP,isSeq,iterP,itemsP,no3,part3,sl3,raise3,brk3,cont3,M3.ltP,M3.leP,M3.gtP,M3.geP,e,fg,rb,z1,fl]
end Law
set_option maxHeartbeats 400000
namespace Law
open PySem L2 M3
theorem digs_val:∀(cs:List Nat) (a:Nat),(∀c∈cs,48≤c∧c≤57)→cs.foldl (fun acc c=>acc * 10+(c-48)) a<(a+1) * 10 ^ cs.length
 | [],a,_=>by simp
 | c::cs,a,h=>by
   have hc:=h c (List.mem_cons_self ..)
   have ih:=digs_val cs (a * 10+(c-48)) (fun x hx=>h x (List.mem_cons_of_mem _ hx))
   have e:(a * 10+(c-48)+1) * 10 ^ cs.length≤(a+1) * 10 ^ (c::cs).length:=by
    rw [List.length_cons,Nat.pow_succ,Nat.mul_comm (10 ^ cs.length) 10, ←Nat.mul_assoc]
    exact Nat.mul_le_mul_right _ (by omega)
   exact Nat.lt_of_lt_of_le ih e
theorem okC_int {l:List Nat} (h:okC l=true) (h0:l≠GAP):(∃i:Int,PySem.intText? (S l)=some i∧ -999999999999999999999999999999≤i∧i≤999999999999999999999999999999)∧l.length≤31:=by
 simp only [okC,decide_eq_false h0,Bool.false_or,Bool.and_eq_true,decide_eq_true_eq] at h
 obtain ⟨⟨h1,h2⟩,h3,_⟩:=h
 have dg:∀c∈figs l,48≤c∧c≤57:=fun c hc=>dig_iff (List.all_eq_true.mp h3 c hc)
 have ne:figs l≠[]:=fun z=>by rw [z] at h1;simp at h1
 have bd:PySem.NumText.digitsVal (figs l)<1000000000000000000000000000000:=by
  have:=digs_val (figs l) 0 dg
  have e:(0+1) * 10 ^ (figs l).length≤10 ^ 30:=by
   rw [Nat.zero_add,Nat.one_mul]
   exact Nat.pow_le_pow_right (by decide) h2
  have e2:(10:Nat) ^ 30=1000000000000000000000000000000:=by decide +kernel
  rw [e2] at e
  exact Nat.lt_of_lt_of_le this e
 unfold figs at h1 h2 dg ne bd
 by_cases hm:l.take 1=[45]
 · rw [if_pos hm] at h1 h2 dg ne bd
   obtain ⟨x,r,e⟩:∃x r,l=x::r:=by
    cases l with
    | nil=>cases hm
    | cons x r=>exact ⟨x,r,rfl⟩
   subst e
   have hx:x=45:=by simpa using hm
   subst hx
   simp only [List.drop_succ_cons,List.drop_zero] at h1 h2 dg ne bd
   have hl:(S (45::r)).length≤4300:=by rw [S_len];simp only [List.length_cons];omega
   refine ⟨⟨_,PySem.intText_neg (x:=S (45::r)) (cs:=r) rfl dg ne hl,by omega,by omega⟩,by simp only [List.length_cons];omega⟩
 · rw [if_neg hm] at h1 h2 dg ne bd
   have hl:(S l).length≤4300:=by rw [S_len];omega
   have bd':PySem.NumText.digitsVal (S l).cps.toList<1000000000000000000000000000000:=bd
   exact ⟨⟨_,PySem.intText_digits (x:=S l) dg ne hl,by omega,by omega⟩,by omega⟩
theorem read_cell_ok (C:Cs) {l:List Nat} (hl:l.length≤1000000) (Q:T→Prop) (X:X3):read_cell C [.str (S l)] Q X=if okC l=true then Q (valC l) else X (BT C):=
 read_cell_eq C hl (fun h h0=>(okC_int h h0).1) (fun h=>by
  by_cases h0:l=GAP
  · rw [h0];decide
  · exact (okC_int h h0).2) Q X
theorem cell_read_ok (C:Cs) {l:List Nat} (hl:l.length≤1000000) (Q:T→Prop) (X:X3):Lcell_read C [.str (S l)] Q X=Q (if okC l=true then .tup [.str "cell",valC l] else .non):=by
 rw [Lcell_read_def]
 show Lcell_readB C {nx:=fun _=>Q .non,rt:=Q,xn:=fun _=>X} [Sl.val (.str (S l)),.no,.no]=_
 have f2:(2:Nat)≤sizeLine:=by decide
 by_cases h0:l=GAP
 · have o:okC l=true:=by unfold okC;rw [decide_eq_true h0];rfl
   rw [if_pos o]
   have e:S l=("gap":Str):=by rw [gap_eq];exact h0
   have v:valC l= .non:=by unfold valC;rw [if_pos h0]
   rw [e,v]
   simp [Lcell_readB,seq3,next3,ret3,retN3,ifs3,drop3,asg3,name3,tst3,and3,or3,not3,andV3,orV3,notV3,if3,v3,k3,op3,un3,nil3,cons3,call3,tup3,lst3,chain3,fn30,fn3,fnN30,fnN3,fnP30,i2,i2c,i1,isN3,notN3,eqS3,neS3,ixL3,ixT3,len3,all3,any3,abs3,max23,min23,isi3,isB3,truth3,start3,slot,flatT,scal,tyn,M3.isNon,lenT,truT,isiB,Option.bind,take3,kbs,addP,mulP,ixP,slP,eqP,neP,isSeq,iterP,itemsP,no3,part3,sl3,raise3,brk3,cont3,M3.ltP,M3.leP,M3.gtP,M3.geP,f2]
 · have e:¬S l=("gap":Str):=by rw [gap_eq];exact h0
   have v:valC l= .int ((PySem.intText? (S l)).getD 0):=by unfold valC;rw [if_neg h0]
   have fg:=fun (b c:Sl) (Q:T→Prop) (X:X3)=>figs_read hl b c Q X [Sl.val (.str (S l)),b,c] (.inl rfl)
   have dg:=fun (hz:(figs l).length≤1000) (Q:T→Prop) (X:X3)=>digs_ok (i:=2) (σ:=[Sl.val (.str (S l)),.val (.str (S (figs l))),.no]) (D:=figs l) rfl (by simp) (by simp [noOwn]) hz Q X
   have fl:(S (figs l)).length≤sizeLine:=by rw [S_len];have:=figs_sub (l:=l);exact szBig (by omega)
   have hd:=fun (Q:T→Prop) (h:1≤(figs l).length) (hl:(figs l).length≤1000)=>head_read (D:=figs l) (Q:=Q) h hl
   unfold Lcell_readB
   generalize (if3 (tst3 (op3 eqP (sl3 slP (v3 0) no3 (part3 (M3.k3 (.int 1)))) (M3.k3 (.str "-")))) (sl3 slP (v3 0) (part3 (M3.k3 (.int 1))) no3) (v3 0))=FG at fg ⊢
   generalize (call3 all3 (cons3 (lc3 (iterP (v3 1)) (name3 2) yes3 (op3 (inP false) (v3 2) (M3.k3 (.str "0123456789"))) [2]) nil3))=DG at dg ⊢
   by_cases h1:1≤(figs l).length
   · have ee:¬S (figs l)=("":Str):=by
      rw [emp_eq]
      intro z
      rw [z] at h1
      simp at h1
     by_cases h2:(figs l).length≤30
     · have z2:¬(30:Int)<((S (figs l)).length:Int):=by rw [S_len];omega
       have dg:=fun Q X=>dg (by omega) Q X
       have hd:=fun Q=>hd Q h1 (by omega)
       cases ha:(figs l).all dig with
       | false=>
         have o:okC l=false:=by simp [okC,h0,h1,h2,ha]
         rw [ha] at dg
         rw [o]
         simp [seq3,next3,ret3,retN3,ifs3,drop3,asg3,name3,tst3,and3,or3,not3,andV3,orV3,notV3,if3,v3,k3,op3,un3,nil3,cons3,call3,tup3,lst3,chain3,fn30,fn3,fnN30,fnN3,fnP30,i2,i2c,i1,isN3,notN3,eqS3,neS3,ixL3,ixT3,len3,all3,any3,abs3,max23,min23,isi3,isB3,truth3,start3,slot,flatT,scal,tyn,M3.isNon,lenT,truT,isiB,Option.bind,take3,kbs,addP,mulP,ixP,slP,eqP,neP,isSeq,iterP,itemsP,no3,part3,sl3,raise3,brk3,cont3,M3.ltP,M3.leP,M3.gtP,M3.geP,e,fg,dg,ee,z2,fl]
       | true=>
         rw [ha] at dg
         have ht:∀(Q:Bool→Prop) (X:X3),tst3 (op3 eqP (op3 ixP (v3 1) (M3.k3 (.int 0))) (M3.k3 (.str "0"))) [Sl.val (.str (S l)),.val (.str (S (figs l))),.no] Q X=Q (decide ((figs l).head? =some 48)):=fun Q X=>by
          have:=hd fun x=>ob (asB x) Q
          simpa [tst3,op3,v3,M3.k3,slot,asB] using this
         generalize (tst3 (op3 eqP (op3 ixP (v3 1) (M3.k3 (.int 0))) (M3.k3 (.str "0"))))=HT at ht ⊢
         by_cases h4:(figs l).head? =some 48∧¬l=[48]
         · have o:okC l=false:=by simp [okC,h0,h4.1,h4.2]
           have e4:¬S l=("0":Str):=by rw [zero_eq];exact h4.2
           rw [o]
           simp [seq3,next3,ret3,retN3,ifs3,drop3,asg3,name3,tst3,and3,or3,not3,andV3,orV3,notV3,if3,v3,k3,op3,un3,nil3,cons3,call3,tup3,lst3,chain3,fn30,fn3,fnN30,fnN3,fnP30,i2,i2c,i1,isN3,notN3,eqS3,neS3,ixL3,ixT3,len3,all3,any3,abs3,max23,min23,isi3,isB3,truth3,start3,slot,flatT,scal,tyn,M3.isNon,lenT,truT,isiB,Option.bind,take3,kbs,addP,mulP,ixP,slP,eqP,neP,isSeq,iterP,itemsP,no3,part3,sl3,raise3,brk3,cont3,M3.ltP,M3.leP,M3.gtP,M3.geP,e,fg,dg,ee,z2,fl,ht,h4.1,e4]
         · have o:okC l=true:=by
            have:((figs l).head? =some 48→l=[48]):=fun h=>Classical.byContradiction fun z=>h4 ⟨h,z⟩
            simp [okC,h0,h1,h2,ha]
            by_cases h:(figs l).head? =some 48
            · exact .inr (this h)
            · exact .inl h
           obtain ⟨⟨i,hi,b1,b2⟩,l31⟩:=okC_int o h0
           have l640:(S l).length≤640:=by rw [S_len];omega
           rw [o,if_pos rfl,v,hi]
           by_cases h5:(figs l).head? =some 48
           · have h6:l=[48]:=Classical.byContradiction fun z=>h4 ⟨h5,z⟩
             have e4:S l=("0":Str):=by rw [zero_eq];exact h6
             have l640':("0":Str).length≤640:=by decide +kernel
             have hi':PySem.intText? ("0":Str)=some i:=by rw [←e4];exact hi
             rw [e4] at fg dg ht ⊢
             have e':¬("0":Str)=("gap":Str):=by decide +kernel
             simp [seq3,next3,ret3,retN3,ifs3,drop3,asg3,name3,tst3,and3,or3,not3,andV3,orV3,notV3,if3,v3,k3,op3,un3,nil3,cons3,call3,tup3,lst3,chain3,fn30,fn3,fnN30,fnN3,fnP30,i2,i2c,i1,isN3,notN3,eqS3,neS3,ixL3,ixT3,len3,all3,any3,abs3,max23,min23,isi3,isB3,truth3,start3,slot,flatT,scal,tyn,M3.isNon,lenT,truT,isiB,Option.bind,take3,kbs,addP,mulP,ixP,slP,eqP,neP,isSeq,iterP,itemsP,no3,part3,sl3,raise3,brk3,cont3,M3.ltP,M3.leP,M3.gtP,M3.geP,e',fg,dg,ee,z2,fl,ht,h5,intS3,asS,hi',l640',f2]
           · simp [seq3,next3,ret3,retN3,ifs3,drop3,asg3,name3,tst3,and3,or3,not3,andV3,orV3,notV3,if3,v3,k3,op3,un3,nil3,cons3,call3,tup3,lst3,chain3,fn30,fn3,fnN30,fnN3,fnP30,i2,i2c,i1,isN3,notN3,eqS3,neS3,ixL3,ixT3,len3,all3,any3,abs3,max23,min23,isi3,isB3,truth3,start3,slot,flatT,scal,tyn,M3.isNon,lenT,truT,isiB,Option.bind,take3,kbs,addP,mulP,ixP,slP,eqP,neP,isSeq,iterP,itemsP,no3,part3,sl3,raise3,brk3,cont3,M3.ltP,M3.leP,M3.gtP,M3.geP,e,fg,dg,ee,z2,fl,ht,h5,intS3,asS,hi,l640,f2]
     · have z2:(30:Int)<((S (figs l)).length:Int):=by rw [S_len];omega
       have o:okC l=false:=by simp [okC,h0,h2]
       rw [o]
       simp [seq3,next3,ret3,retN3,ifs3,drop3,asg3,name3,tst3,and3,or3,not3,andV3,orV3,notV3,if3,v3,k3,op3,un3,nil3,cons3,call3,tup3,lst3,chain3,fn30,fn3,fnN30,fnN3,fnP30,i2,i2c,i1,isN3,notN3,eqS3,neS3,ixL3,ixT3,len3,all3,any3,abs3,max23,min23,isi3,isB3,truth3,start3,slot,flatT,scal,tyn,M3.isNon,lenT,truT,isiB,Option.bind,take3,kbs,addP,mulP,ixP,slP,eqP,neP,isSeq,iterP,itemsP,no3,part3,sl3,raise3,brk3,cont3,M3.ltP,M3.leP,M3.gtP,M3.geP,e,fg,ee,z2,fl]
   · have ee:S (figs l)=("":Str):=by
      rw [emp_eq]
      exact List.length_eq_zero_iff.mp (by omega)
     have o:okC l=false:=by simp [okC,h0,h1]
     rw [o]
     simp [seq3,next3,ret3,retN3,ifs3,drop3,asg3,name3,tst3,and3,or3,not3,andV3,orV3,notV3,if3,v3,k3,op3,un3,nil3,cons3,call3,tup3,lst3,chain3,fn30,fn3,fnN30,fnN3,fnP30,i2,i2c,i1,isN3,notN3,eqS3,neS3,ixL3,ixT3,len3,all3,any3,abs3,max23,min23,isi3,isB3,truth3,start3,slot,flatT,scal,tyn,M3.isNon,lenT,truT,isiB,Option.bind,take3,kbs,addP,mulP,ixP,slP,eqP,neP,isSeq,iterP,itemsP,no3,part3,sl3,raise3,brk3,cont3,M3.ltP,M3.leP,M3.gtP,M3.geP,e,fg,ee]
end Law
set_option maxHeartbeats 400000
namespace Law
open PySem L2 M3
theorem pre1 (c x:Nat) (r:List Nat):TL.pre [c] (x::r)=decide (x=c):=by
 unfold TL.pre
 by_cases h:x=c
 · subst h;simp
 · simp [h]
theorem par_dot {c:Nat}:∀(L acc a b:List Nat),TL.par [c] acc L=some (a,b)→∃a',a=acc++a'∧L=a'++c::b
 | [],acc,a,b,h=>by simp [TL.par] at h
 | x::r,acc,a,b,h=>by
   have h:(if TL.pre [c] (x::r)=true then some (acc,(x::r).drop [c].length) else TL.par [c] (acc++[x]) r)=some (a,b):=h
   rw [pre1] at h
   by_cases e:x=c
   · subst e
     simp at h
     exact ⟨[],by simp [h.1],by simp [h.2]⟩
   · simp [e] at h
     obtain ⟨a',e1,e2⟩:=par_dot r (acc++[x]) a b h
     exact ⟨x::a',by rw [e1];simp,by rw [e2];simp⟩
theorem cut_last {α:Type} (xs:List α) (x:α):cut (xs++[x]) none (some (-1))=xs:=by
 unfold M3.cut
 have e1:HT.sIx (xs++[x]).length 0 none=0:=rfl
 have e2:HT.sIx (xs++[x]).length (xs++[x]).length (some (-1))=xs.length:=by
  simp [HT.sIx]
  omega
 rw [e1,e2]
 simp
def YES:List Nat:=[121,101,115]
def OLDD:List Nat:=[111,108,100,46]
def NEWD:List Nat:=[110,101,119,46]
def nameOk (l:List Nat):Bool:=decide (1≤l.length)&&decide (l.length≤8)&&l.all fun c=>decide (97≤c∧c≤122)
def sortOf:Bool→Str→Option (List Bool)
 | false,x=>if x="plus"∨x="minus"∨x="times"∨x="least"∨x="most" then some [false,false] else if x="choose" then some [true,false,false] else none
 | true,x=>if x="is"∨x="below" then some [false,false] else if x="lacks" then some [false] else if x="not" then some [true] else if x="both"∨x="either" then some [true,true] else none
def strip:List (List Nat)→List (List Nat)
 | []=>[]
 | p::ps=>p::ps.map (·.drop 1)
def spaced (ps:List (List Nat)):Bool:=ps.tail.all fun p=>decide (p.take 1=[32])
def allS:List (Option T)→Option (List T)
 | []=>some []
 | none::_=>none
 | some t::r=>(allS r).map (t::·)
def colT (l:List Nat):Option T:=if nameOk (l.drop 4)=true then some (.tup [.str (S (l.take 3)),.str (S (l.drop 4))]) else none
def isCol (l:List Nat):Prop:=l.take 4=OLDD∨l.take 4=NEWD
instance (l:List Nat):Decidable (isCol l):=inferInstanceAs (Decidable (_∨_))
def cellT (l:List Nat):Option T:=if okC l=true then some (.tup [.str "cell",valC l]) else none
def rd:Nat→Bool→List Nat→Option T
 | 0,_,_=>none
 | n+1,b,l=>
   if b=true∧l=YES then some (.tup [.str "yes"])
   else if b=false∧isCol l then colT l
   else match TL.par [40] [] l with
    | none=>if b=true then none else cellT l
    | some (a,r)=>match sortOf b (S a) with
      | none=>none
      | some ks=>if r.getLast? =some 41∧(cutF r.dropLast [] 0).length=ks.length∧spaced (cutF r.dropLast [] 0)=true then
         (allS ((List.zip ks (strip (cutF r.dropLast [] 0))).map fun p=>rd n p.1 p.2)).map fun ts=>.tup (.str (S a)::ts) else none
def keyK (x:Str):Bool:=(sortOf false x).isSome||(decide (x="yes")||(sortOf true x).isSome)
def rw_:Nat→List Nat→Option T
 | 0,_=>none
 | n+1,l=>
   if l=YES then some (.tup [.str "yes"])
   else if isCol l then colT l
   else match TL.par [40] [] l with
    | none=>cellT l
    | some (a,r)=>if keyK (S a)=true∧r.getLast? =some 41∧spaced (cutF r.dropLast [] 0)=true then
       (allS ((strip (cutF r.dropLast [] 0)).map (rw_ n))).map fun ts=>.tup (.str (S a)::ts) else none
def isCellB:T→Bool
 | .non=>true
 | .int i=>decide (-999999999999999999999999999999≤i)&&decide (i≤999999999999999999999999999999)
 | _=>false
def isStrB:T→Bool
 | .str _=>true
 | _=>false
def fitB:Nat→Bool→T→Bool
 | 0,_,_=>false
 | n+1,b,.tup (.str x::ps)=>
   if b=false then
    (if x="cell" then (match ps with | [v]=>isCellB v | _=>false)
     else if x="old"∨x="new" then (match ps with | [v]=>isStrB v | _=>false)
     else match sortOf false x with
      | none=>false
      | some ks=>decide (ps.length=ks.length)&&(List.zip ks ps).all fun p=>fitB n p.1 p.2)
   else (if x="yes" then ps.isEmpty
    else match sortOf true x with
     | none=>false
     | some ks=>decide (ps.length=ks.length)&&(List.zip ks ps).all fun p=>fitB n p.1 p.2)
 | _,_,_=>false
theorem allS_zip {f:List Nat→Option T} {g:Bool→T→Bool} {h:Bool→List Nat→Option T} (e:∀b l,h b l=match f l with | none=>none | some t=>if g b t=true then some t else none):
 ∀(ks:List Bool) (ls:List (List Nat)),ks.length=ls.length→allS ((List.zip ks ls).map fun p=>h p.1 p.2)=match allS (ls.map f) with | none=>none | some ts=>if ((List.zip ks ts).all fun p=>g p.1 p.2)=true then some ts else none
 | [],[],_=>rfl
 | [],_::_,z=>by cases z
 | _::_,[],z=>by cases z
 | k::ks,l::ls,z=>by
   have ih:=allS_zip e ks ls (by simpa using z)
   simp only [List.zip_cons_cons,List.map_cons]
   rw [e k l]
   cases hf:f l with
   | none=>rfl
   | some t=>
     dsimp only
     by_cases hg:g k t=true
     · rw [if_pos hg]
       show (allS _).map _=match (allS (ls.map f)).map (t::·) with | none=>none | some ts=>_
       rw [ih]
       cases allS (ls.map f) with
       | none=>rfl
       | some ts=>
         dsimp only [Option.map]
         rw [List.zip_cons_cons,List.all_cons,hg,Bool.true_and]
         cases hz:((List.zip ks ts).all fun p=>g p.1 p.2)<;>rfl
     · rw [if_neg hg]
       show none=match (allS (ls.map f)).map (t::·) with | none=>none | some ts=>_
       cases allS (ls.map f) with
       | none=>rfl
       | some ts=>
         dsimp only [Option.map]
         rw [List.zip_cons_cons,List.all_cons,Bool.eq_false_iff.mpr hg,Bool.false_and]
         rfl
theorem allS_len:∀ {xs:List (Option T)} {ts:List T},allS xs=some ts→ts.length=xs.length
 | [],_,h=>by cases h;rfl
 | none::_,_,h=>by cases h
 | some t::r,ts,h=>by
   cases e:allS r with
   | none=>simp [allS,e] at h
   | some us=>
     simp [allS,e] at h
     rw [←h]
     simp [allS_len e]
theorem strip_len (ps:List (List Nat)):(strip ps).length=ps.length:=by cases ps<;>simp [strip]
theorem valC_cell {l:List Nat} (h:okC l=true):isCellB (valC l)=true:=by
 unfold valC
 by_cases h0:l=GAP
 · rw [if_pos h0];rfl
 · rw [if_neg h0]
   obtain ⟨⟨i,hi,b1,b2⟩,_⟩:=okC_int h h0
   rw [hi]
   simp [isCellB,b1,b2]
theorem sort_ne {b:Bool} {x:Str} {ks:List Bool} (h:sortOf b x=some ks):x≠"cell"∧x≠"old"∧x≠"new"∧x≠"yes":=by
 have z:∀y:Str,sortOf b y=none→x≠y:=fun y hy e=>by rw [e,hy] at h;cases h
 exact ⟨z _ (by cases b<;>decide +kernel),z _ (by cases b<;>decide +kernel),z _ (by cases b<;>decide +kernel),z _ (by cases b<;>decide +kernel)⟩
theorem key_ne {x:Str} (h:keyK x=true):x≠"cell"∧x≠"old"∧x≠"new":=by
 have z:∀y:Str,keyK y=false→x≠y:=fun y hy e=>by rw [e,hy] at h;cases h
 exact ⟨z _ (by decide +kernel),z _ (by decide +kernel),z _ (by decide +kernel)⟩
theorem sort_dot {b:Bool} {a:List Nat} (h:46∈a):sortOf b (S a)=none:=by
 have ne:∀y:Str,(46:Nat) ∉ cs y→¬S a=y:=fun y hy e=>hy (by rw [←e];exact h)
 have p1:=ne "plus" (by decide +kernel)
 have p2:=ne "minus" (by decide +kernel)
 have p3:=ne "times" (by decide +kernel)
 have p4:=ne "least" (by decide +kernel)
 have p5:=ne "most" (by decide +kernel)
 have p6:=ne "choose" (by decide +kernel)
 have p7:=ne "is" (by decide +kernel)
 have p8:=ne "below" (by decide +kernel)
 have p9:=ne "lacks" (by decide +kernel)
 have pa:=ne "not" (by decide +kernel)
 have pb:=ne "both" (by decide +kernel)
 have pc:=ne "either" (by decide +kernel)
 cases b<;>simp [sortOf,p1,p2,p3,p4,p5,p6,p7,p8,p9,pa,pb,pc]
theorem col_dot {l a r:List Nat} (hc:isCol l) (e:l=a++40::r):46∈a:=by
 have h4:46∈l.take 4∧40 ∉ l.take 4∧(l.take 4).length=4:=by rcases hc with hc | hc<;>rw [hc]<;>decide
 obtain ⟨d1,d2,d3⟩:=h4
 rw [e] at d1 d2 d3
 rw [List.take_append] at d1 d2
 by_cases hl:4≤a.length
 · have:4-a.length=0:=by omega
   rw [this,List.take_zero,List.append_nil] at d1
   exact List.mem_of_mem_take d1
 · obtain ⟨k,hk⟩:∃k,4-a.length=k+1:=⟨4-a.length-1,by omega⟩
   rw [hk,List.take_succ_cons] at d2
   exact absurd (List.mem_append.mpr (.inr (List.mem_cons_self ..))) d2
theorem len_ite {p:Prop} [Decidable p] {a b:List (List Nat)} (ha:1≤a.length) (hb:1≤b.length):1≤(if p then a else b).length:=by split<;>assumption
theorem cutF_ne:∀(l cur:List Nat) (d:Int),1≤(cutF l cur d).length
 | [],cur,d=>by simp [cutF]
 | c::r,cur,d=>by
   unfold cutF
   exact len_ite (by simp) (cutF_ne r _ _)
theorem yes_key:(S YES)=("yes":Str):=by decide +kernel
theorem rd_rw:∀(n:Nat) (b:Bool) (l:List Nat),rd n b l=match rw_ n l with | none=>none | some t=>if fitB n b t=true then some t else none
 | 0,_,_=>rfl
 | n+1,b,l=>by
   have ih:=rd_rw n
   unfold rd rw_
   by_cases hy:l=YES
   · rw [if_pos hy]
     dsimp only
     cases b with
     | true=>
       rw [if_pos ⟨rfl,hy⟩]
       rfl
     | false=>
       have c1:¬isCol l:=by rw [hy];decide
       have c2:TL.par [40] [] l=none:=by rw [hy];decide
       have c3:okC l=false:=by rw [hy];decide +kernel
       rw [if_neg (by simp),if_neg (by simp [c1]),c2]
       dsimp only
       rw [if_neg (by decide)]
       unfold cellT
       rw [c3]
       have:fitB (n+1) false (.tup [.str "yes"])=false:=by
        have e1:¬("yes":Str)="cell":=by decide +kernel
        have e2:¬(("yes":Str)="old"∨("yes":Str)="new"):=by decide +kernel
        have e3:sortOf false ("yes":Str)=none:=by decide +kernel
        simp [fitB,e1,e2,e3]
       rw [this]
       rfl
   · rw [if_neg hy,if_neg (by simp [hy])]
     by_cases hc:isCol l
     · rw [if_pos hc]
       cases b with
       | false=>
         rw [if_pos ⟨rfl,hc⟩]
         unfold colT
         split
         · have hx:(S (l.take 3):Str)="old"∨(S (l.take 3):Str)="new":=by
            have t3:l.take 3=(l.take 4).take 3:=by rw [List.take_take];rfl
            rw [t3]
            rcases hc with hc | hc<;>rw [hc]
            · left;decide +kernel
            · right;decide +kernel
           have hx2:¬(S (l.take 3):Str)="cell":=by rcases hx with hx | hx<;>rw [hx]<;>decide +kernel
           have:fitB (n+1) false (.tup [.str (S (l.take 3)),.str (S (l.drop 4))])=true:=by simp [fitB,hx,hx2,isStrB]
           dsimp only
           rw [this]
           rfl
         · rfl
       | true=>
         rw [if_neg (by simp)]
         have hx:(S (l.take 3):Str)="old"∨(S (l.take 3):Str)="new":=by
          have t3:l.take 3=(l.take 4).take 3:=by rw [List.take_take];rfl
          rw [t3]
          rcases hc with hc | hc<;>rw [hc]
          · left;decide +kernel
          · right;decide +kernel
         have hs:sortOf true (S (l.take 3))=none:=by rcases hx with hx | hx<;>rw [hx]<;>decide +kernel
         have hx2:¬(S (l.take 3):Str)="yes":=by rcases hx with hx | hx<;>rw [hx]<;>decide +kernel
         have right:(match colT l with | none=>none | some t=>if fitB (n+1) true t=true then some t else none)=none:=by
          unfold colT
          split
          · rename_i h;split at h
            · cases h
            · rfl
          · rename_i t h
            split at h
            · cases h
              have:fitB (n+1) true (.tup [.str (S (l.take 3)),.str (S (l.drop 4))])=false:=by simp [fitB,hs,hx2]
              rw [this]
              rfl
            · cases h
         rw [right]
         cases hp:TL.par [40] [] l with
         | none=>rfl
         | some ar=>
           obtain ⟨a,r⟩:=ar
           dsimp only
           have:sortOf true (S a)=none:=by
            obtain ⟨a',e1,e2⟩:=par_dot _ _ _ _ hp
            simp at e1
            subst e1
            exact sort_dot (col_dot hc e2)
           rw [this]
     · rw [if_neg hc,if_neg (by simp [hc])]
       cases hp:TL.par [40] [] l with
       | none=>
         dsimp only
         cases b with
         | true=>
           rw [if_pos rfl]
           unfold cellT
           split
           · rfl
           · rename_i t h
             split at h
             · cases h
               have e1:¬("cell":Str)="yes":=by decide +kernel
               have e3:sortOf true ("cell":Str)=none:=by decide +kernel
               have:fitB (n+1) true (.tup [.str "cell",valC l])=false:=by simp [fitB,e1,e3]
               rw [this]
               rfl
             · cases h
         | false=>
           rw [if_neg (by decide)]
           unfold cellT
           cases ho:okC l with
           | false=>rfl
           | true=>
             rw [if_pos rfl]
             dsimp only
             have:fitB (n+1) false (.tup [.str "cell",valC l])=true:=by simp [fitB,valC_cell ho]
             rw [this]
             rfl
       | some ar=>
         obtain ⟨a,r⟩:=ar
         dsimp only
         have hne:=cutF_ne r.dropLast [] 0
         generalize cutF r.dropLast [] 0=ps at hne ⊢
         cases hso:sortOf b (S a) with
         | none=>
           dsimp only
           split
           · rfl
           · rename_i t h
             split at h
             · rename_i hk
               cases hal:allS ((strip ps).map (rw_ n)) with
               | none=>rw [hal] at h;cases h
               | some ts=>
                 rw [hal] at h
                 cases h
                 have hlen:=allS_len hal
                 rw [List.length_map,strip_len] at hlen
                 obtain ⟨k1,k2,k3⟩:=key_ne hk.1
                 have:fitB (n+1) b (.tup (.str (S a)::ts))=false:=by
                  cases b with
                  | false=>simp [fitB,k1,k2,k3,hso]
                  | true=>
                    by_cases hyx:S a=("yes":Str)
                    · have:ts.isEmpty=false:=by
                       cases ts with
                       | nil=>simp at hlen;omega
                       | cons=>rfl
                      simp [fitB,hyx,this]
                    · simp [fitB,hyx,hso]
                 rw [this]
                 rfl
             · cases h
         | some ks=>
           dsimp only
           obtain ⟨k1,k2,k3,k4⟩:=sort_ne hso
           have hk:keyK (S a)=true:=by
            unfold keyK
            cases b with
            | false=>rw [hso];rfl
            | true=>rw [hso];simp
           by_cases hl:r.getLast? =some 41
           · by_cases hs:spaced ps=true
             · rw [if_pos (show keyK (S a)=true∧r.getLast? =some 41∧spaced ps=true from ⟨hk,hl,hs⟩)]
               have fv:∀ts:List T,fitB (n+1) b (.tup (.str (S a)::ts))=(decide (ts.length=ks.length)&&(List.zip ks ts).all fun p=>fitB n p.1 p.2):=fun ts=>by
                cases b with
                | false=>simp [fitB,k1,k2,k3,hso]
                | true=>simp [fitB,k4,hso]
               by_cases hn:ps.length=ks.length
               · rw [if_pos ⟨hl,hn,hs⟩,allS_zip (f:=rw_ n) (g:=fitB n) (h:=rd n) ih ks (strip ps) (by rw [strip_len];exact hn.symm)]
                 cases hal:allS ((strip ps).map (rw_ n)) with
                 | none=>rfl
                 | some ts=>
                   have hlen:=allS_len hal
                   rw [List.length_map,strip_len] at hlen
                   dsimp only [Option.map]
                   rw [fv ts,decide_eq_true (hlen.trans hn),Bool.true_and]
                   cases (List.zip ks ts).all fun p=>fitB n p.1 p.2<;>rfl
               · rw [if_neg fun z=>hn z.2.1]
                 cases hal:allS ((strip ps).map (rw_ n)) with
                 | none=>rfl
                 | some ts=>
                   have hlen:=allS_len hal
                   rw [List.length_map,strip_len] at hlen
                   dsimp only [Option.map]
                   rw [fv ts,decide_eq_false (fun z=>hn (hlen.symm.trans z)),Bool.false_and]
                   rfl
             · rw [if_neg fun z=>hs z.2.2,if_neg fun z=>hs z.2.2]
           · rw [if_neg fun z=>hl z.1,if_neg fun z=>hl z.2.1]
end Law
set_option maxHeartbeats 400000
namespace Law
open PySem L2 M3
theorem abc_iff (c:Nat):decide (c∈abc.cps.toList)=decide (97≤c∧c≤122):=by
 have h1:∀c∈abc.cps.toList,97≤c∧c≤122:=by decide +kernel
 have h2:∀i:Fin 26,(97+i.val)∈abc.cps.toList:=by decide +kernel
 by_cases h:97≤c∧c≤122
 · have z:=h2 ⟨c-97,by omega⟩
   have e:97+(c-97)=c:=by omega
   rw [decide_eq_true h]
   exact decide_eq_true (by simpa [e] using z)
 · rw [decide_eq_false h]
   exact decide_eq_false fun z=>h (h1 c z)
theorem abc_comp {i:Nat} {σ:List Sl} {X:X3} {Q:List T→Prop} (D:List Nat) (hz:D.length≤1000) (hi:i<σ.length):
 comp3 (name3 i) yes3 (op3 (inP false) (v3 i) (M3.k3 (.str abc))) σ X Q (D.map chT) []=Q (D.map fun c=>.bl (decide (97≤c∧c≤122))):=by
 rw [comp_kids (g:=fun c=>.bl (decide (c∈abc.cps.toList))) D []]
 · rw [List.nil_append]
   congr 1
   exact List.map_congr_left fun c _=>by rw [abc_iff]
 · intro c hc Q'
   simp [op3,v3,M3.k3,slot,inP,List.getElem?_set_self hi,chT]
 · simp only [List.length_nil];omega
theorem abc_ok {i j:Nat} {σ:List Sl} {D:List Nat} (h1:σ[j]? =some (.val (.str (S D)))) (hi:i<σ.length) (hn:noOwn σ [i]) (hz:D.length≤1000) (Q:T→Prop) (X:X3):
 call3 all3 (cons3 (lc3 (iterP (v3 j)) (name3 i) yes3 (op3 (inP false) (v3 i) (M3.k3 (.str "abcdefghijklmnopqrstuvwxyz"))) [i]) nil3) σ Q X=Q (.bl (D.all fun c=>decide (97≤c∧c≤122))):=by
 have c:=abc_comp (i:=i) (σ:=σ.set i .no) (X:=X) (Q:=fun ys=>all3 [.lst ys] Q) D hz (by rw [List.length_set];exact hi)
 have e:call3 all3 (cons3 (lc3 (iterP (v3 j)) (name3 i) yes3 (op3 (inP false) (v3 i) (M3.k3 (.str "abcdefghijklmnopqrstuvwxyz"))) [i]) nil3) σ Q X=(noOwn σ [i]∧comp3 (name3 i) yes3 (op3 (inP false) (v3 i) (M3.k3 (.str abc))) (σ.set i .no) X (fun ys=>all3 [.lst ys] Q) (D.map chT) []):=by
  have hs:(S D).length≤sizeLine:=by rw [S_len];exact szBig (by omega)
  simp [call3,cons3,nil3,lc3,iterP,v3,slot,h1,itemsP,wipe3,hs]
 rw [e,c]
 have ea:all3 [.lst (D.map fun c=>.bl (decide (97≤c∧c≤122)))] Q=Q (.bl (D.all fun c=>decide (97≤c∧c≤122))):=by
  have:(D.map fun c=>T.bl (decide (97≤c∧c≤122)))=D.map fun c=>T.bl ((fun c=>decide (97≤c∧c≤122)) c):=rfl
  rw [this]
  simp only [all3,one_1,ob_some,asL_lst,bls_dec]
  rw [List.all_map]
  rfl
 rw [ea]
 exact propext ⟨fun h=>h.2,fun h=>⟨hn,h⟩⟩
theorem is_name_any (C:Cs) {l:List Nat} (hl:l.length≤1000000) (Q:T→Prop) (X:X3):is_name C [.str (S l)] Q X=Q (.bl (nameOk l)):=by
 rw [is_name_def]
 show is_nameB C {nx:=fun _=>Q .non,rt:=Q,xn:=fun _=>X} [Sl.val (.str (S l)),.no]=_
 have fl:(S l).length≤sizeLine:=by rw [S_len];exact szBig (by omega)
 have ab:=fun (hz:l.length≤1000) (Q:T→Prop) (X:X3)=>abc_ok (i:=1) (j:=0) (σ:=[Sl.val (.str (S l)),.no]) (D:=l) rfl (by simp) (by simp [noOwn]) hz Q X
 unfold is_nameB
 generalize (call3 all3 (cons3 (lc3 (iterP (v3 0)) (name3 1) yes3 (op3 (inP false) (v3 1) (M3.k3 (.str "abcdefghijklmnopqrstuvwxyz"))) [1]) nil3))=DG at ab ⊢
 unfold nameOk
 by_cases h1:1≤l.length
 · have z1:(1:Int)≤((S l).length:Int):=by rw [S_len];omega
   by_cases h2:l.length≤8
   · have z2:((S l).length:Int)≤8:=by rw [S_len];omega
     have ab:=fun Q X=>ab (by omega) Q X
     rw [decide_eq_true h1,decide_eq_true h2]
     simp [seq3,next3,ret3,retN3,ifs3,drop3,asg3,name3,tst3,and3,or3,not3,andV3,orV3,notV3,if3,v3,k3,op3,un3,nil3,cons3,call3,tup3,lst3,chain3,fn30,fn3,fnN30,fnN3,fnP30,i2,i2c,i1,isN3,notN3,eqS3,neS3,ixL3,ixT3,len3,all3,any3,abs3,max23,min23,isi3,isB3,truth3,start3,slot,flatT,scal,tyn,M3.isNon,lenT,truT,isiB,Option.bind,take3,kbs,addP,mulP,ixP,slP,eqP,neP,isSeq,iterP,itemsP,no3,part3,sl3,raise3,brk3,cont3,M3.ltP,M3.leP,M3.gtP,M3.geP,fl,z1,z2,ab]
   · have z2:¬((S l).length:Int)≤8:=by rw [S_len];omega
     rw [decide_eq_false h2]
     simp [seq3,next3,ret3,retN3,ifs3,drop3,asg3,name3,tst3,and3,or3,not3,andV3,orV3,notV3,if3,v3,k3,op3,un3,nil3,cons3,call3,tup3,lst3,chain3,fn30,fn3,fnN30,fnN3,fnP30,i2,i2c,i1,isN3,notN3,eqS3,neS3,ixL3,ixT3,len3,all3,any3,abs3,max23,min23,isi3,isB3,truth3,start3,slot,flatT,scal,tyn,M3.isNon,lenT,truT,isiB,Option.bind,take3,kbs,addP,mulP,ixP,slP,eqP,neP,isSeq,iterP,itemsP,no3,part3,sl3,raise3,brk3,cont3,M3.ltP,M3.leP,M3.gtP,M3.geP,fl,z1,z2]
 · have z1:¬(1:Int)≤((S l).length:Int):=by rw [S_len];omega
   rw [decide_eq_false h1]
   simp [seq3,next3,ret3,retN3,ifs3,drop3,asg3,name3,tst3,and3,or3,not3,andV3,orV3,notV3,if3,v3,k3,op3,un3,nil3,cons3,call3,tup3,lst3,chain3,fn30,fn3,fnN30,fnN3,fnP30,i2,i2c,i1,isN3,notN3,eqS3,neS3,ixL3,ixT3,len3,all3,any3,abs3,max23,min23,isi3,isB3,truth3,start3,slot,flatT,scal,tyn,M3.isNon,lenT,truT,isiB,Option.bind,take3,kbs,addP,mulP,ixP,slP,eqP,neP,isSeq,iterP,itemsP,no3,part3,sl3,raise3,brk3,cont3,M3.ltP,M3.leP,M3.gtP,M3.geP,fl,z1]
theorem name_ok_any (C:Cs) {l:List Nat} (hl:l.length≤1000000) (Q:T→Prop) (X:X3):Lname_ok C [.str (S l)] Q X=Q (.bl (nameOk l)):=by
 rw [Lname_ok_def]
 show Lname_okB C {nx:=fun _=>Q .non,rt:=Q,xn:=fun _=>X} [Sl.val (.str (S l)),.no]=_
 have fl:(S l).length≤sizeLine:=by rw [S_len];exact szBig (by omega)
 have ab:=fun (hz:l.length≤1000) (Q:T→Prop) (X:X3)=>abc_ok (i:=1) (j:=0) (σ:=[Sl.val (.str (S l)),.no]) (D:=l) rfl (by simp) (by simp [noOwn]) hz Q X
 unfold Lname_okB
 generalize (call3 all3 (cons3 (lc3 (iterP (v3 0)) (name3 1) yes3 (op3 (inP false) (v3 1) (M3.k3 (.str "abcdefghijklmnopqrstuvwxyz"))) [1]) nil3))=DG at ab ⊢
 unfold nameOk
 by_cases h1:1≤l.length
 · have z1:(1:Int)≤((S l).length:Int):=by rw [S_len];omega
   by_cases h2:l.length≤8
   · have z2:((S l).length:Int)≤8:=by rw [S_len];omega
     have ab:=fun Q X=>ab (by omega) Q X
     rw [decide_eq_true h1,decide_eq_true h2]
     simp [seq3,next3,ret3,retN3,ifs3,drop3,asg3,name3,tst3,and3,or3,not3,andV3,orV3,notV3,if3,v3,k3,op3,un3,nil3,cons3,call3,tup3,lst3,chain3,fn30,fn3,fnN30,fnN3,fnP30,i2,i2c,i1,isN3,notN3,eqS3,neS3,ixL3,ixT3,len3,all3,any3,abs3,max23,min23,isi3,isB3,truth3,start3,slot,flatT,scal,tyn,M3.isNon,lenT,truT,isiB,Option.bind,take3,kbs,addP,mulP,ixP,slP,eqP,neP,isSeq,iterP,itemsP,no3,part3,sl3,raise3,brk3,cont3,M3.ltP,M3.leP,M3.gtP,M3.geP,fl,z1,z2,ab]
   · have z2:¬((S l).length:Int)≤8:=by rw [S_len];omega
     rw [decide_eq_false h2]
     simp [seq3,next3,ret3,retN3,ifs3,drop3,asg3,name3,tst3,and3,or3,not3,andV3,orV3,notV3,if3,v3,k3,op3,un3,nil3,cons3,call3,tup3,lst3,chain3,fn30,fn3,fnN30,fnN3,fnP30,i2,i2c,i1,isN3,notN3,eqS3,neS3,ixL3,ixT3,len3,all3,any3,abs3,max23,min23,isi3,isB3,truth3,start3,slot,flatT,scal,tyn,M3.isNon,lenT,truT,isiB,Option.bind,take3,kbs,addP,mulP,ixP,slP,eqP,neP,isSeq,iterP,itemsP,no3,part3,sl3,raise3,brk3,cont3,M3.ltP,M3.leP,M3.gtP,M3.geP,fl,z1,z2]
 · have z1:¬(1:Int)≤((S l).length:Int):=by rw [S_len];omega
   rw [decide_eq_false h1]
   simp [seq3,next3,ret3,retN3,ifs3,drop3,asg3,name3,tst3,and3,or3,not3,andV3,orV3,notV3,if3,v3,k3,op3,un3,nil3,cons3,call3,tup3,lst3,chain3,fn30,fn3,fnN30,fnN3,fnP30,i2,i2c,i1,isN3,notN3,eqS3,neS3,ixL3,ixT3,len3,all3,any3,abs3,max23,min23,isi3,isB3,truth3,start3,slot,flatT,scal,tyn,M3.isNon,lenT,truT,isiB,Option.bind,take3,kbs,addP,mulP,ixP,slP,eqP,neP,isSeq,iterP,itemsP,no3,part3,sl3,raise3,brk3,cont3,M3.ltP,M3.leP,M3.gtP,M3.geP,fl,z1]
theorem lcut_body {C:Cs} {N:N3} {t:Sl} (c:Nat) (cur:List Nat) (done:List (List Nat)) (d:Int) (hd:done.length≤1048576) (hc:cur.length≤1048576):
 Lcut_3b C N [t,.own (.lst (pcs (done++[cur]))),.val (.int d),.val (.str (S [c]))]=
 if c=44∧(if c=41 then (if c=40 then d+1 else d)-1 else (if c=40 then d+1 else d))=0 then
  N.nx [t,.own (.lst (pcs (done++[cur]++[[]]))),.val (.int (if c=41 then (if c=40 then d+1 else d)-1 else (if c=40 then d+1 else d))),.val (.str (S [c]))]
 else N.nx [t,.own (.lst (pcs (done++[cur++[c]]))),.val (.int (if c=41 then (if c=40 then d+1 else d)-1 else (if c=40 then d+1 else d))),.val (.str (S [c]))]:=by
 have q1:(S [c]=("(":Str))=(c=40):=by rw [show ("(":Str)=S [40] from by decide +kernel,S_eq];simp
 have q2:(S [c]=(")":Str))=(c=41):=by rw [show (")":Str)=S [41] from by decide +kernel,S_eq];simp
 have q3:(S [c]=(",":Str))=(c=44):=by rw [show (",":Str)=S [44] from by decide +kernel,S_eq];simp
 have dl:(pcs (done++[cur])).length<sizeLine:=by
  have:sizeLine=16777216:=by decide
  simp only [pcs,List.length_map,List.length_append,List.length_cons,List.length_nil];omega
 have ix:ixN (pcs (done++[cur])).length (-1)=some done.length:=by
  unfold L2.ixN
  simp [pcs]
  constructor<;>omega
 have gl:atI (pcs (done++[cur])) (-1)=some (.str (S cur)):=by
  unfold L2.atI
  rw [ix]
  simp [pcs]
 have cl:(S cur).length+(S [c]).length≤sizeLine:=by rw [S_len,S_len];exact szBig (by simp only [List.length_cons,List.length_nil];omega)
 have ap:pcs (done++[cur])++[T.str (S [])]=pcs (done++[cur]++[[]]):=by simp [pcs]
 have st:(pcs (done++[cur])).set done.length (.str (S cur++S [c]))=pcs (done++[cur++[c]]):=by
  rw [S_app]
  simp [pcs]
 have em:("":Str)=S []:=by decide +kernel
 by_cases c1:c=40
 · subst c1
   simp [Lcut_3b,Lcut_3b_1,Lcut_3b_2,Lcut_3b_2t_1,Lcut_3b_2e_1,seq3,next3,ret3,retN3,ifs3,drop3,asg3,name3,tst3,and3,or3,not3,andV3,orV3,notV3,if3,v3,k3,op3,un3,nil3,cons3,call3,tup3,lst3,chain3,fn30,fn3,fnN30,fnN3,fnP30,i2,i2c,i1,isN3,notN3,eqS3,neS3,ixL3,ixT3,len3,all3,any3,abs3,max23,min23,isi3,isB3,truth3,start3,slot,flatT,scal,tyn,M3.isNon,lenT,truT,isiB,Option.bind,take3,kbs,addP,mulP,ixP,slP,eqP,neP,isSeq,iterP,itemsP,no3,part3,sl3,raise3,brk3,cont3,M3.ltP,M3.leP,M3.gtP,M3.geP,q1,q2,q3,int13,toI,setI3,ixO3,ownL,gl,ix,cl,st]
 · by_cases c2:c=41
   · subst c2
     simp [Lcut_3b,Lcut_3b_1,Lcut_3b_2,Lcut_3b_2t_1,Lcut_3b_2e_1,seq3,next3,ret3,retN3,ifs3,drop3,asg3,name3,tst3,and3,or3,not3,andV3,orV3,notV3,if3,v3,k3,op3,un3,nil3,cons3,call3,tup3,lst3,chain3,fn30,fn3,fnN30,fnN3,fnP30,i2,i2c,i1,isN3,notN3,eqS3,neS3,ixL3,ixT3,len3,all3,any3,abs3,max23,min23,isi3,isB3,truth3,start3,slot,flatT,scal,tyn,M3.isNon,lenT,truT,isiB,Option.bind,take3,kbs,addP,mulP,ixP,slP,eqP,neP,isSeq,iterP,itemsP,no3,part3,sl3,raise3,brk3,cont3,M3.ltP,M3.leP,M3.gtP,M3.geP,q1,q2,q3,int13,toI,setI3,ixO3,ownL,gl,ix,cl,st]
   · by_cases c3:c=44
     · subst c3
       by_cases d0:d=0
       · subst d0
         simp [Lcut_3b,Lcut_3b_1,Lcut_3b_2,Lcut_3b_2t_1,Lcut_3b_2e_1,seq3,next3,ret3,retN3,ifs3,drop3,asg3,name3,tst3,and3,or3,not3,andV3,orV3,notV3,if3,v3,k3,op3,un3,nil3,cons3,call3,tup3,lst3,chain3,fn30,fn3,fnN30,fnN3,fnP30,i2,i2c,i1,isN3,notN3,eqS3,neS3,ixL3,ixT3,len3,all3,any3,abs3,max23,min23,isi3,isB3,truth3,start3,slot,flatT,scal,tyn,M3.isNon,lenT,truT,isiB,Option.bind,take3,kbs,addP,mulP,ixP,slP,eqP,neP,isSeq,iterP,itemsP,no3,part3,sl3,raise3,brk3,cont3,M3.ltP,M3.leP,M3.gtP,M3.geP,q1,q2,q3,int13,toI,app3,ownL,dl,ap,em]
       · simp [Lcut_3b,Lcut_3b_1,Lcut_3b_2,Lcut_3b_2t_1,Lcut_3b_2e_1,seq3,next3,ret3,retN3,ifs3,drop3,asg3,name3,tst3,and3,or3,not3,andV3,orV3,notV3,if3,v3,k3,op3,un3,nil3,cons3,call3,tup3,lst3,chain3,fn30,fn3,fnN30,fnN3,fnP30,i2,i2c,i1,isN3,notN3,eqS3,neS3,ixL3,ixT3,len3,all3,any3,abs3,max23,min23,isi3,isB3,truth3,start3,slot,flatT,scal,tyn,M3.isNon,lenT,truT,isiB,Option.bind,take3,kbs,addP,mulP,ixP,slP,eqP,neP,isSeq,iterP,itemsP,no3,part3,sl3,raise3,brk3,cont3,M3.ltP,M3.leP,M3.gtP,M3.geP,q1,q2,q3,int13,toI,setI3,ixO3,ownL,gl,ix,cl,st,d0]
     · simp [Lcut_3b,Lcut_3b_1,Lcut_3b_2,Lcut_3b_2t_1,Lcut_3b_2e_1,seq3,next3,ret3,retN3,ifs3,drop3,asg3,name3,tst3,and3,or3,not3,andV3,orV3,notV3,if3,v3,k3,op3,un3,nil3,cons3,call3,tup3,lst3,chain3,fn30,fn3,fnN30,fnN3,fnP30,i2,i2c,i1,isN3,notN3,eqS3,neS3,ixL3,ixT3,len3,all3,any3,abs3,max23,min23,isi3,isB3,truth3,start3,slot,flatT,scal,tyn,M3.isNon,lenT,truT,isiB,Option.bind,take3,kbs,addP,mulP,ixP,slP,eqP,neP,isSeq,iterP,itemsP,no3,part3,sl3,raise3,brk3,cont3,M3.ltP,M3.leP,M3.gtP,M3.geP,q1,q2,q3,int13,toI,setI3,ixO3,ownL,gl,ix,cl,st,c1,c2,c3]
theorem lcut_loop {C:Cs} {t:Sl}:∀(r cur:List Nat) (done:List (List Nat)) (d:Int) (N:N3) (x:Sl),done.length+cur.length+r.length≤1000000→(∀(d':Int) (x':Sl),N.nx [t,.own (.lst (pcs (done++cutF r cur d))),.val (.int d'),x'])→
 loop3 (name3 3) (Lcut_3b C) N (r.map chT) [t,.own (.lst (pcs (done++[cur]))),.val (.int d),x]
 | [],cur,done,d,N,x,_,h=>h d x
 | c::r,cur,done,d,N,x,hl,h=>by
   simp only [List.length_cons] at hl
   have e0:loop3 (name3 3) (Lcut_3b C) N ((c::r).map chT) [t,.own (.lst (pcs (done++[cur]))),.val (.int d),x]=
    Lcut_3b C {nx:=loop3 (name3 3) (Lcut_3b C) N (r.map chT),ct:=loop3 (name3 3) (Lcut_3b C) N (r.map chT),bk:=N.nx,rt:=N.rt,xn:=N.xn} [t,.own (.lst (pcs (done++[cur]))),.val (.int d),.val (.str (S [c]))]:=by
    simp [loop3,name3,chT]
   rw [e0,lcut_body c cur done d (by omega) (by omega)]
   generalize hd2:(if c=41 then (if c=40 then d+1 else d)-1 else (if c=40 then d+1 else d))=d2
   have ef:cutF (c::r) cur d=if c=44∧d2=0 then cur::cutF r [] d2 else cutF r (cur++[c]) d2:=by rw [←hd2];rfl
   rw [ef] at h
   split
   · rename_i cc
     rw [if_pos cc] at h
     exact lcut_loop r [] (done++[cur]) d2 N _ (by simp only [List.length_append,List.length_cons,List.length_nil];omega) fun d' x'=>by
      have:=h d' x'
      simpa using this
   · rename_i cc
     rw [if_neg cc] at h
     exact lcut_loop r (cur++[c]) done d2 N _ (by simp only [List.length_append,List.length_cons,List.length_nil];omega) h
theorem lcut_ok (C:Cs) {l:List Nat} (hl:l.length≤1000000) (Q:T→Prop) (X:X3) (h:Q (.lst (pcs (cutF l [] 0)))):Lcut C [.str (S l)] Q X:=by
 rw [Lcut_def]
 show LcutB C {nx:=fun _=>Q .non,rt:=Q,xn:=fun _=>X} [Sl.val (.str (S l)),.no,.no,.no]
 have hs:(S l).length≤sizeLine:=by rw [S_len];exact szBig (by omega)
 have em:("":Str)=S []:=by decide +kernel
 unfold LcutB
 refine seq_by (fun σ'=>σ'=[.val (.str (S l)),.own (.lst (pcs [[]])),.no,.no]) (fun nx hx=> ?_) ?_
 · have:=hx _ rfl
   have s1:1≤sizeLine:=by decide
   simpa [Lcut_1,ownset3,seq3,next3,ret3,retN3,ifs3,drop3,asg3,name3,tst3,and3,or3,not3,andV3,orV3,notV3,if3,v3,k3,op3,un3,nil3,cons3,call3,tup3,lst3,chain3,fn30,fn3,fnN30,fnN3,fnP30,i2,i2c,i1,isN3,notN3,eqS3,neS3,ixL3,ixT3,len3,all3,any3,abs3,max23,min23,isi3,isB3,truth3,start3,slot,flatT,scal,tyn,M3.isNon,lenT,truT,isiB,Option.bind,take3,kbs,addP,mulP,ixP,slP,eqP,neP,isSeq,iterP,itemsP,no3,part3,sl3,raise3,brk3,cont3,M3.ltP,M3.leP,M3.gtP,M3.geP,pcs,em,s1] using this
 rintro σ' rfl
 refine seq_by (fun σ'=>σ'=[.val (.str (S l)),.own (.lst (pcs [[]])),.val (.int 0),.no]) (fun nx hx=> ?_) ?_
 · simpa [Lcut_2,seq3,next3,ret3,retN3,ifs3,drop3,asg3,name3,tst3,and3,or3,not3,andV3,orV3,notV3,if3,v3,k3,op3,un3,nil3,cons3,call3,tup3,lst3,chain3,fn30,fn3,fnN30,fnN3,fnP30,i2,i2c,i1,isN3,notN3,eqS3,neS3,ixL3,ixT3,len3,all3,any3,abs3,max23,min23,isi3,isB3,truth3,start3,slot,flatT,scal,tyn,M3.isNon,lenT,truT,isiB,Option.bind,take3,kbs,addP,mulP,ixP,slP,eqP,neP,isSeq,iterP,itemsP,no3,part3,sl3,raise3,brk3,cont3,M3.ltP,M3.leP,M3.gtP,M3.geP] using hx _ rfl
 rintro σ' rfl
 refine seq_by (fun σ'=>∃(d:Int) (x:Sl),σ'=[.val (.str (S l)),.own (.lst (pcs (cutF l [] 0))),.val (.int d),x]) (fun nx hx=> ?_) ?_
 · have lp:=lcut_loop (C:=C) (t:=.val (.str (S l))) l [] [] 0 {nx:=nx,ct:=fun _=>False,bk:=fun _=>False,rt:=Q,xn:=fun _=>X} .no (by simp only [List.length_nil];omega) fun d' x'=>hx _ ⟨d',x',rfl⟩
   unfold Lcut_3
   generalize Lcut_3b C=B at lp ⊢
   have e:for3 (iterP (v3 0)) (name3 3) B {nx:=nx,rt:=Q,xn:=fun _=>X} [.val (.str (S l)),.own (.lst (pcs [[]])),.val (.int 0),.no]=loop3 (name3 3) B {nx:=nx,rt:=Q,xn:=fun _=>X} (l.map chT) [.val (.str (S l)),.own (.lst (pcs [[]])),.val (.int 0),.no]:=by
    simp [for3,iterP,v3,slot,itemsP,hs]
   exact e.mpr lp
 rintro σ' ⟨d,x,rfl⟩
 simpa [Lcut_4,frz3,thaw,seq3,next3,ret3,retN3,ifs3,drop3,asg3,name3,tst3,and3,or3,not3,andV3,orV3,notV3,if3,v3,k3,op3,un3,nil3,cons3,call3,tup3,lst3,chain3,fn30,fn3,fnN30,fnN3,fnP30,i2,i2c,i1,isN3,notN3,eqS3,neS3,ixL3,ixT3,len3,all3,any3,abs3,max23,min23,isi3,isB3,truth3,start3,slot,flatT,scal,tyn,M3.isNon,lenT,truT,isiB,Option.bind,take3,kbs,addP,mulP,ixP,slP,eqP,neP,isSeq,iterP,itemsP,no3,part3,sl3,raise3,brk3,cont3,M3.ltP,M3.leP,M3.gtP,M3.geP] using h
end Law
set_option maxHeartbeats 400000
namespace Law
open PySem L2 M3
def kT:Bool→T
 | false=>.str "v"
 | true=>.str "t"
def kS:List Bool→Str:=fun ks=>S (ks.map fun b=>if b=true then 116 else 118)
def KV:List (Str×T):=[("plus",(.str "vv")),("minus",(.str "vv")),("times",(.str "vv")),("least",(.str "vv")),("most",(.str "vv")),("choose",(.str "tvv"))]
def KT:List (Str×T):=[("yes",(.str "")),("is",(.str "vv")),("below",(.str "vv")),("lacks",(.str "v")),("not",(.str "t")),("both",(.str "tt")),("either",(.str "tt"))]
theorem kv_look (x:Str):KV.lookup x=(sortOf false x).map fun ks=>.str (kS ks):=by
 have e1:(kS [false,false]:Str)="vv":=by decide +kernel
 have e2:(kS [true,false,false]:Str)="tvv":=by decide +kernel
 unfold KV
 simp only [List.lookup,sortOf]
 by_cases h1:x="plus"
 · subst h1;simp [e1]
 · by_cases h2:x="minus"
   · subst h2
     simp [e1,show (("minus":Str)=="plus")=false from by decide +kernel]
   · by_cases h3:x="times"
     · subst h3
       simp [e1,show (("times":Str)=="plus")=false from by decide +kernel,show (("times":Str)=="minus")=false from by decide +kernel]
     · by_cases h4:x="least"
       · subst h4
         simp [e1,show (("least":Str)=="plus")=false from by decide +kernel,show (("least":Str)=="minus")=false from by decide +kernel,show (("least":Str)=="times")=false from by decide +kernel]
       · by_cases h5:x="most"
         · subst h5
           simp [e1,show (("most":Str)=="plus")=false from by decide +kernel,show (("most":Str)=="minus")=false from by decide +kernel,show (("most":Str)=="times")=false from by decide +kernel,show (("most":Str)=="least")=false from by decide +kernel]
         · have n1:(x==("plus":Str))=false:=beq_eq_false_iff_ne.mpr h1
           have n2:(x==("minus":Str))=false:=beq_eq_false_iff_ne.mpr h2
           have n3:(x==("times":Str))=false:=beq_eq_false_iff_ne.mpr h3
           have n4:(x==("least":Str))=false:=beq_eq_false_iff_ne.mpr h4
           have n5:(x==("most":Str))=false:=beq_eq_false_iff_ne.mpr h5
           by_cases h6:x="choose"
           · subst h6
             simp [h1,h2,h3,h4,h5,n1,n2,n3,n4,n5,e2]
           · have n6:(x==("choose":Str))=false:=beq_eq_false_iff_ne.mpr h6
             simp [h1,h2,h3,h4,h5,h6,n1,n2,n3,n4,n5,n6]
theorem kt_look (x:Str):KT.lookup x=if x="yes" then some (.str "") else (sortOf true x).map fun ks=>.str (kS ks):=by
 have e1:(kS [false,false]:Str)="vv":=by decide +kernel
 have e2:(kS [false]:Str)="v":=by decide +kernel
 have e3:(kS [true]:Str)="t":=by decide +kernel
 have e4:(kS [true,true]:Str)="tt":=by decide +kernel
 unfold KT
 simp only [List.lookup,sortOf]
 by_cases h0:x="yes"
 · subst h0;simp
 · have n0:(x==("yes":Str))=false:=beq_eq_false_iff_ne.mpr h0
   by_cases h1:x="is"
   · subst h1;simp [h0,n0,e1]
   · have n1:(x==("is":Str))=false:=beq_eq_false_iff_ne.mpr h1
     by_cases h2:x="below"
     · subst h2;simp [h0,n0,h1,n1,e1]
     · have n2:(x==("below":Str))=false:=beq_eq_false_iff_ne.mpr h2
       by_cases h3:x="lacks"
       · subst h3;simp [h0,n0,h1,n1,h2,n2,e2]
       · have n3:(x==("lacks":Str))=false:=beq_eq_false_iff_ne.mpr h3
         by_cases h4:x="not"
         · subst h4;simp [h0,n0,h1,n1,h2,n2,h3,n3,e3]
         · have n4:(x==("not":Str))=false:=beq_eq_false_iff_ne.mpr h4
           by_cases h5:x="both"
           · subst h5;simp [h0,n0,h1,n1,h2,n2,h3,n3,h4,n4,e4]
           · have n5:(x==("both":Str))=false:=beq_eq_false_iff_ne.mpr h5
             by_cases h6:x="either"
             · subst h6;simp [h0,n0,h1,n1,h2,n2,h3,n3,h4,n4,h5,n5,e4]
             · have n6:(x==("either":Str))=false:=beq_eq_false_iff_ne.mpr h6
               simp [h0,n0,h1,n1,h2,n2,h3,n3,h4,n4,h5,n5,h6,n6]
theorem key_look (x:Str):keyK x=((KV.lookup x).isSome||(KT.lookup x).isSome):=by
 rw [kv_look,kt_look]
 unfold keyK
 by_cases h:x="yes"
 · rw [if_pos h,decide_eq_true h];simp
 · rw [if_neg h,decide_eq_false h];simp
theorem ends_any (r:List Nat):Txt.endswith (S r) ")"=decide (r.getLast? =some 41):=by
 rw [S_close]
 unfold Txt.endswith
 rw [PySem.StrLaws.subAt_eq,S_len,S_len]
 show (decide (0+1≤r.length)&&(List.take 1 (List.drop (r.length-1) r)==[41]))=decide (r.getLast? =some 41)
 rcases List.eq_nil_or_concat r with rfl | ⟨r',x,rfl⟩
 · rfl
 · simp
   by_cases h:x=41<;>simp [h]
theorem starts_any (r:List Nat):Txt.startswith (S r) " "=decide (r.take 1=[32]):=by
 have e:(" ":Str)=S [32]:=by decide +kernel
 rw [e]
 unfold Txt.startswith
 rw [PySem.StrLaws.subAt_eq,S_len,S_len]
 show (decide (0+1≤r.length)&&(List.take 1 (List.drop 0 r)==[32]))=decide (r.take 1=[32])
 cases r with
 | nil=>rfl
 | cons x r=>
   simp
   by_cases h:x=32<;>simp [h]
theorem pcs_len (ks:List (List Nat)):(pcs ks).length=ks.length:=by simp [pcs]
theorem comp_bl {i:Nat} {te:E3} {σ:List Sl} {X:X3} {Q:List T→Prop} (g:List Nat→T):∀(ks:List (List Nat)) (acc:List T),acc.length+ks.length≤10000000→(∀k∈ks,∀Q':T→Prop,Q' (g k)→te (σ.set i (.val (.str (S k)))) Q' X)→Q (acc++ks.map g)→comp3 (name3 i) yes3 te σ X Q (pcs ks) acc
 | [],acc,_,_,h=>by simpa [pcs,comp3] using h
 | k::ks,acc,hl,hd,h=>by
   simp only [List.length_cons] at hl
   have e3:acc.length<sizeLine:=by
    have:sizeLine=16777216:=by decide
    omega
   show te (σ.set i (.val (.str (S k)))) (fun y=>acc.length<sizeLine∧comp3 (name3 i) yes3 te σ X Q (pcs ks) (acc++[y])) X
   refine hd k (List.mem_cons_self ..) _ ⟨e3, ?_⟩
   refine comp_bl g ks (acc++[g k]) (by simp only [List.length_append,List.length_cons,List.length_nil];omega) (fun x hx=>hd x (List.mem_cons_of_mem _ hx)) ?_
   simpa using h
theorem comp_fail {i:Nat} {te:E3} {σ:List Sl} {X:X3} {B:Xn} {Q:List T→Prop} (f:List Nat→Option T):∀(ks:List (List Nat)) (acc:List T),acc.length+ks.length≤10000000→(∀k∈ks,∀Q':T→Prop,(∀t,f k=some t→Q' t)→(f k=none→X B)→te (σ.set i (.val (.str (S k)))) Q' X)→
 (∀ts,allS (ks.map f)=some ts→Q (acc++ts))→(allS (ks.map f)=none→X B)→comp3 (name3 i) yes3 te σ X Q (pcs ks) acc
 | [],acc,_,_,h,_=>by
   have:=h [] rfl
   simpa [pcs,comp3] using this
 | k::ks,acc,hl,hd,h,hx=>by
   simp only [List.length_cons] at hl
   have e3:acc.length<sizeLine:=by
    have:sizeLine=16777216:=by decide
    omega
   show te (σ.set i (.val (.str (S k)))) (fun y=>acc.length<sizeLine∧comp3 (name3 i) yes3 te σ X Q (pcs ks) (acc++[y])) X
   refine hd k (List.mem_cons_self ..) _ (fun t ht=>⟨e3, ?_⟩) fun hn=>hx (by simp [allS,hn])
   refine comp_fail f ks (acc++[t]) (by simp only [List.length_append,List.length_cons,List.length_nil];omega) (fun x hx'=>hd x (List.mem_cons_of_mem _ hx')) (fun ts hts=> ?_) fun hn=>hx (by simp [allS,ht,hn])
   have:=h (t::ts) (by simp [allS,ht,hts])
   simpa using this
theorem cutF_lens:∀(l cur:List Nat) (d:Int),(∀k∈cutF l cur d,k.length≤l.length+cur.length)∧(cutF l cur d).length≤l.length+1
 | [],cur,d=>by simp [cutF]
 | c::r,cur,d=>by
   have go:∀(p:Prop) [Decidable p] (d2:Int),(∀k∈(if p then cur::cutF r [] d2 else cutF r (cur++[c]) d2),k.length≤(c::r).length+cur.length)∧(if p then cur::cutF r [] d2 else cutF r (cur++[c]) d2).length≤(c::r).length+1:=by
    intro p _ d2
    split
    · obtain ⟨h1,h2⟩:=cutF_lens r [] d2
      refine ⟨fun k hk=> ?_, ?_⟩
      · rcases List.mem_cons.mp hk with e | hk
        · rw [e];simp only [List.length_cons];omega
        · have:=h1 k hk
          simp only [List.length_cons,List.length_nil] at this ⊢
          omega
      · simp only [List.length_cons];omega
    · obtain ⟨h1,h2⟩:=cutF_lens r (cur++[c]) d2
      refine ⟨fun k hk=> ?_, ?_⟩
      · have:=h1 k hk
        simp only [List.length_append,List.length_cons,List.length_nil] at this ⊢
        omega
      · simp only [List.length_cons];omega
   unfold cutF
   exact go _ _
theorem par_app {c:Nat} {b:List Nat}:∀(a acc:List Nat),c ∉ a→TL.par [c] acc (a++c::b)=some (acc++a,b)
 | [],acc,_=>by
   show (if TL.pre [c] (c::b)=true then some (acc,(c::b).drop [c].length) else TL.par [c] (acc++[c]) b)=_
   rw [pre1,decide_eq_true rfl,if_pos rfl]
   simp
 | x::a,acc,h=>by
   have hx:¬x=c:=fun e=>h (by rw [e];exact List.mem_cons_self ..)
   show (if TL.pre [c] (x::(a++c::b))=true then some (acc,(x::(a++c::b)).drop [c].length) else TL.par [c] (acc++[x]) (a++c::b))=_
   rw [pre1,decide_eq_false hx,if_neg Bool.false_ne_true,par_app a (acc++[x]) fun z=>h (List.mem_cons_of_mem _ z)]
   simp
theorem col_par {l a r:List Nat} (h:TL.par [46] [] l=some (a,r)):(((S a:Str)="old"∨(S a:Str)="new")↔isCol l)∧(isCol l→a=l.take 3∧r=l.drop 4):=by
 obtain ⟨a',e1,e2⟩:=par_dot _ _ _ _ h
 simp at e1
 subst e1
 have so:(("old":Str)=S [111,108,100]):=by decide +kernel
 have sn:(("new":Str)=S [110,101,119]):=by decide +kernel
 have back:isCol l→(a=[111,108,100]∨a=[110,101,119])∧r=l.drop 4:=by
  intro hc
  have key:∀x:List Nat,46 ∉ x→x.length=3→l.take 4=x++[46]→a=x∧r=l.drop 4:=by
   intro x hx hl ht
   have el:l=x++46::l.drop 4:=by
    have:=List.take_append_drop 4 l
    rw [ht] at this
    simpa using this.symm
   have p:=par_app (b:=l.drop 4) x [] hx
   rw [←el,h] at p
   simp at p
   exact ⟨p.1,p.2⟩
  rcases hc with hc | hc
  · obtain ⟨x1,x2⟩:=key [111,108,100] (by decide) rfl hc
    exact ⟨.inl x1,x2⟩
  · obtain ⟨x1,x2⟩:=key [110,101,119] (by decide) rfl hc
    exact ⟨.inr x1,x2⟩
 have fwd:(a=[111,108,100]∨a=[110,101,119])→isCol l:=by
  intro z
  rw [e2]
  rcases z with z | z<;>rw [z]
  · left;rfl
  · right;rfl
 refine ⟨?_,fun hc=> ?_⟩
 · rw [so,sn,S_eq,S_eq]
   exact ⟨fwd,fun hc=>(back hc).1⟩
 · obtain ⟨x1,x2⟩:=back hc
   refine ⟨?_,x2⟩
   rw [e2]
   rcases x1 with z | z<;>rw [z]<;>rfl
theorem col_no {l:List Nat} (h:TL.par [46] [] l=none):¬isCol l:=by
 intro hc
 have key:∀x:List Nat,46 ∉ x→l.take 4=x++[46]→x.length=3→False:=by
  intro x hx ht hl
  have el:l=x++46::l.drop 4:=by
   have:=List.take_append_drop 4 l
   rw [ht] at this
   simpa using this.symm
  have p:=par_app (b:=l.drop 4) x [] hx
  rw [←el,h] at p
  cases p
 rcases hc with hc | hc
 · exact key [111,108,100] (by decide) hc rfl
 · exact key [110,101,119] (by decide) hc rfl
end Law
set_option maxHeartbeats 400000
namespace Law
open PySem L2 M3
abbrev rst (t:Str) (room:Int) (s d c f b r h o p:Sl):List Sl:=[.val (.str t),.val (.int room),s,d,c,f,b,r,h,o,p]
theorem dot_len:¬(".": Str).length=0:=by decide +kernel
theorem open_len:¬("(": Str).length=0:=by decide +kernel
theorem S_nil_dot:¬S []=(".":Str):=by decide +kernel
theorem S_nil_open:¬S []=("(":Str):=by decide +kernel
section
variable {C:Cs} {r:F3} {N:N3} {room:Int} {t:Str}
theorem rw_dot {p d q:Str} {s d0 c f b r0 h o p0:Sl} (hp:Txt.partition t "."=(p,d,q)) (hl:t.length≤sizeLine) (k:N.nx (rst t room (.val (.str p)) (.val (.str d)) (.val (.str q)) f b r0 h o p0)):
 asg3 (m13 partM3 (v3 0) (M3.k3 (.str "."))) (gtup3 3 (gcons3 (name3 2) (gcons3 (name3 3) (gcons3 (name3 4) gnil3)))) N (rst t room s d0 c f b r0 h o p0):=by
 simpa [seq3,next3,ret3,retN3,ifs3,drop3,asg3,name3,tst3,and3,or3,not3,andV3,orV3,notV3,if3,v3,k3,op3,un3,nil3,cons3,call3,tup3,lst3,chain3,fn30,fn3,fnN30,fnN3,fnP30,i2,i2c,i1,isN3,notN3,eqS3,neS3,ixL3,ixT3,len3,all3,any3,abs3,max23,min23,isi3,isB3,truth3,start3,slot,flatT,scal,tyn,M3.isNon,lenT,truT,isiB,Option.bind,take3,kbs,addP,mulP,ixP,slP,eqP,neP,isSeq,iterP,itemsP,no3,part3,sl3,raise3,brk3,cont3,M3.ltP,M3.leP,M3.gtP,M3.geP,m13,partM3,asS,dot_len,hl,hp,gtup3,gcons3,gnil3,asT] using k
theorem rw_open {p d q:Str} {s d0 c f b r0 h o p0:Sl} (hp:Txt.partition t "("=(p,d,q)) (hl:t.length≤sizeLine) (k:N.nx (rst t room s d0 c (.val (.str p)) (.val (.str d)) (.val (.str q)) h o p0)):
 asg3 (m13 partM3 (v3 0) (M3.k3 (.str "("))) (gtup3 3 (gcons3 (name3 5) (gcons3 (name3 6) (gcons3 (name3 7) gnil3)))) N (rst t room s d0 c f b r0 h o p0):=by
 simpa [seq3,next3,ret3,retN3,ifs3,drop3,asg3,name3,tst3,and3,or3,not3,andV3,orV3,notV3,if3,v3,k3,op3,un3,nil3,cons3,call3,tup3,lst3,chain3,fn30,fn3,fnN30,fnN3,fnP30,i2,i2c,i1,isN3,notN3,eqS3,neS3,ixL3,ixT3,len3,all3,any3,abs3,max23,min23,isi3,isB3,truth3,start3,slot,flatT,scal,tyn,M3.isNon,lenT,truT,isiB,Option.bind,take3,kbs,addP,mulP,ixP,slP,eqP,neP,isSeq,iterP,itemsP,no3,part3,sl3,raise3,brk3,cont3,M3.ltP,M3.leP,M3.gtP,M3.geP,m13,partM3,asS,open_len,hl,hp,gtup3,gcons3,gnil3,asT] using k
end
theorem ifs_n {t:B3} {x:S3} {N:N3} {σ:List Sl} (ht:∀Q X,Q false→t σ Q X) (h:N.nx σ):ifs3 t x next3 N σ:=ifs_f ht h
theorem seq_of {t u:S3} {N:N3} {σ:List Sl} (h:t {nx:=u N,ct:=N.ct,bk:=N.bk,rt:=N.rt,xn:=N.xn} σ):seq3 t u N σ:=h
theorem allsp {i j:Nat} {σ:List Sl} {te:E3} {ks:List (List Nat)} (h1:σ[j]? =some (.val (.lst (pcs ks)))) (hn:noOwn σ [i]) (hl:ks.length≤1000001) (ht:∀k∈ks,∀(Q:T→Prop) (X:X3),Q (.bl (decide (k.take 1=[32])))→te ((σ.set i .no).set i (.val (.str (S k)))) Q X) (Q:T→Prop) (X:X3) (q:Q (.bl (ks.all fun k=>decide (k.take 1=[32])))):
 call3 all3 (cons3 (lc3 (iterP (v3 j)) (name3 i) yes3 te [i]) nil3) σ Q X:=by
 have z:=comp_bl (i:=i) (te:=te) (σ:=σ.set i .no) (X:=X) (Q:=fun ys=>all3 [.lst ys] Q) (fun k=>.bl (decide (k.take 1=[32]))) ks [] (by simp only [List.length_nil];omega) (fun k hk Q' q'=>ht k hk Q' X q') (by
  rw [List.nil_append]
  show all3 [.lst (ks.map fun k=>T.bl ((fun k=>decide (k.take 1=[32])) k))] Q
  simp only [all3,one_1,ob_some,asL_lst,bls_dec]
  rw [List.all_map]
  exact q)
 have e:call3 all3 (cons3 (lc3 (iterP (v3 j)) (name3 i) yes3 te [i]) nil3) σ Q X=(noOwn σ [i]∧comp3 (name3 i) yes3 te (σ.set i .no) X (fun ys=>all3 [.lst ys] Q) (pcs ks) []):=by
  simp [call3,cons3,nil3,lc3,iterP,v3,slot,h1,itemsP,wipe3]
 rw [e]
 exact ⟨hn,z⟩
section
variable {C:Cs} {r:F3} {N:N3} {l:List Nat} {room:Int} {s d c f b r0 h o p:Sl}
theorem w1_t (hr:room<1) (hx:N.xn (rst (S l) room s d c f b r0 h o p) (BT C)):read_word_1 C r N (rst (S l) room s d c f b r0 h o p):=by
 unfold read_word_1 read_word_1t_1
 refine ifs_t (fun Q X q=> ?_) ?_
 · simp [seq3,next3,ret3,retN3,ifs3,drop3,asg3,name3,tst3,and3,or3,not3,andV3,orV3,notV3,if3,v3,k3,op3,un3,nil3,cons3,call3,tup3,lst3,chain3,fn30,fn3,fnN30,fnN3,fnP30,i2,i2c,i1,isN3,notN3,eqS3,neS3,ixL3,ixT3,len3,all3,any3,abs3,max23,min23,isi3,isB3,truth3,start3,slot,flatT,scal,tyn,M3.isNon,lenT,truT,isiB,Option.bind,take3,kbs,addP,mulP,ixP,slP,eqP,neP,isSeq,iterP,itemsP,no3,part3,sl3,raise3,brk3,cont3,M3.ltP,M3.leP,M3.gtP,M3.geP]
   rw [decide_eq_true hr]
   exact q
 rw [raise_bad]
 exact hx
theorem w1_f (hr:¬room<1) (hx:N.nx (rst (S l) room s d c f b r0 h o p)):read_word_1 C r N (rst (S l) room s d c f b r0 h o p):=by
 unfold read_word_1
 refine ifs_n (fun Q X q=> ?_) hx
 simp [seq3,next3,ret3,retN3,ifs3,drop3,asg3,name3,tst3,and3,or3,not3,andV3,orV3,notV3,if3,v3,k3,op3,un3,nil3,cons3,call3,tup3,lst3,chain3,fn30,fn3,fnN30,fnN3,fnP30,i2,i2c,i1,isN3,notN3,eqS3,neS3,ixL3,ixT3,len3,all3,any3,abs3,max23,min23,isi3,isB3,truth3,start3,slot,flatT,scal,tyn,M3.isNon,lenT,truT,isiB,Option.bind,take3,kbs,addP,mulP,ixP,slP,eqP,neP,isSeq,iterP,itemsP,no3,part3,sl3,raise3,brk3,cont3,M3.ltP,M3.leP,M3.gtP,M3.geP]
 rw [decide_eq_false hr]
 exact q
theorem w2_t (hy:l=YES) (hx:N.rt (.tup [.str "yes"])):read_word_2 C r N (rst (S l) room s d c f b r0 h o p):=by
 have e:S l=("yes":Str):=by rw [hy];exact yes_key
 have s1:1≤sizeLine:=by decide
 unfold read_word_2 read_word_2t_1
 refine ifs_t (fun Q X q=> ?_) ?_
 · simpa [seq3,next3,ret3,retN3,ifs3,drop3,asg3,name3,tst3,and3,or3,not3,andV3,orV3,notV3,if3,v3,k3,op3,un3,nil3,cons3,call3,tup3,lst3,chain3,fn30,fn3,fnN30,fnN3,fnP30,i2,i2c,i1,isN3,notN3,eqS3,neS3,ixL3,ixT3,len3,all3,any3,abs3,max23,min23,isi3,isB3,truth3,start3,slot,flatT,scal,tyn,M3.isNon,lenT,truT,isiB,Option.bind,take3,kbs,addP,mulP,ixP,slP,eqP,neP,isSeq,iterP,itemsP,no3,part3,sl3,raise3,brk3,cont3,M3.ltP,M3.leP,M3.gtP,M3.geP,e] using q
 · simpa [seq3,next3,ret3,retN3,ifs3,drop3,asg3,name3,tst3,and3,or3,not3,andV3,orV3,notV3,if3,v3,k3,op3,un3,nil3,cons3,call3,tup3,lst3,chain3,fn30,fn3,fnN30,fnN3,fnP30,i2,i2c,i1,isN3,notN3,eqS3,neS3,ixL3,ixT3,len3,all3,any3,abs3,max23,min23,isi3,isB3,truth3,start3,slot,flatT,scal,tyn,M3.isNon,lenT,truT,isiB,Option.bind,take3,kbs,addP,mulP,ixP,slP,eqP,neP,isSeq,iterP,itemsP,no3,part3,sl3,raise3,brk3,cont3,M3.ltP,M3.leP,M3.gtP,M3.geP,s1] using hx
theorem w2_f (hy:¬l=YES) (hx:N.nx (rst (S l) room s d c f b r0 h o p)):read_word_2 C r N (rst (S l) room s d c f b r0 h o p):=by
 have e:¬S l=("yes":Str):=by rw [←yes_key,S_eq];exact hy
 unfold read_word_2
 refine ifs_n (fun Q X q=> ?_) hx
 simpa [seq3,next3,ret3,retN3,ifs3,drop3,asg3,name3,tst3,and3,or3,not3,andV3,orV3,notV3,if3,v3,k3,op3,un3,nil3,cons3,call3,tup3,lst3,chain3,fn30,fn3,fnN30,fnN3,fnP30,i2,i2c,i1,isN3,notN3,eqS3,neS3,ixL3,ixT3,len3,all3,any3,abs3,max23,min23,isi3,isB3,truth3,start3,slot,flatT,scal,tyn,M3.isNon,lenT,truT,isiB,Option.bind,take3,kbs,addP,mulP,ixP,slP,eqP,neP,isSeq,iterP,itemsP,no3,part3,sl3,raise3,brk3,cont3,M3.ltP,M3.leP,M3.gtP,M3.geP,e] using q
theorem w4_t {a q:List Nat} (hd:(S a:Str)="old"∨(S a:Str)="new") (hl:q.length≤1000000) (h1:nameOk q=true→N.rt (.tup [.str (S a),.str (S q)])) (h2:nameOk q=false→N.xn (rst (S l) room (.val (.str (S a))) (.val (.str (S [46]))) (.val (.str (S q))) f b r0 h o p) (BT C)):
 read_word_4 C r N (rst (S l) room (.val (.str (S a))) (.val (.str (S [46]))) (.val (.str (S q))) f b r0 h o p):=by
 have s2:2≤sizeLine:=by decide
 have ed:(S [46]:Str)=".":=by decide +kernel
 have nm:=fun (Q:T→Prop) (X:X3)=>is_name_any C hl Q X
 unfold read_word_4 read_word_4t_1 read_word_4t_1t_1 read_word_4t_2
 refine ifs_t (fun Q X k=> ?_) ?_
 · have:=in_on' (S a) fun x=>ob (asB x) Q
   rw [decide_eq_true hd] at this
   have k':=this.mpr k
   simp only [ed]
   simp [and3,tst3,op3,v3,M3.k3,slot,tup3,cons3,nil3,eqP,isSeq,eqS3,flatT,scal,asB,s2]
   simpa [asB] using k'
 · refine seq_of ?_
   cases hn:nameOk q with
   | true=>
     rw [hn] at nm
     refine ifs_n (fun Q X k=> ?_) ?_
     · simp [not3,tst3,fn3,cons3,nil3,v3,slot,nm,asB]
       exact k
     · have:=h1 hn
       simpa [ret3,tup3,cons3,nil3,v3,slot,s2] using this
   | false=>
     rw [hn] at nm
     refine ifs_t (fun Q X k=> ?_) ?_
     · simp [not3,tst3,fn3,cons3,nil3,v3,slot,nm,asB]
       exact k
     · rw [raise_bad]
       exact h2 hn
theorem w4_f {x y z:Str} (hd:¬(y="."∧(x="old"∨x="new"))) (hx:N.nx (rst (S l) room (.val (.str x)) (.val (.str y)) (.val (.str z)) f b r0 h o p)):read_word_4 C r N (rst (S l) room (.val (.str x)) (.val (.str y)) (.val (.str z)) f b r0 h o p):=by
 have s2:2≤sizeLine:=by decide
 unfold read_word_4
 refine ifs_n (fun Q X k=> ?_) hx
 by_cases hy:y="."
 · have hxx:¬(x="old"∨x="new"):=fun z=>hd ⟨hy,z⟩
   have:=in_on' x fun x=>ob (asB x) Q
   rw [decide_eq_false hxx] at this
   have k':=this.mpr k
   simp only [hy]
   simp [and3,tst3,op3,v3,M3.k3,slot,tup3,cons3,nil3,eqP,isSeq,eqS3,flatT,scal,asB,s2]
   simpa [asB] using k'
 · simp [and3,tst3,op3,v3,M3.k3,slot,eqP,isSeq,eqS3,flatT,scal,asB,hy]
   exact k
theorem w6_t {x z:Str} (hl:l.length≤1000000) (h1:okC l=true→N.rt (.tup [.str "cell",valC l])) (h2:okC l=false→N.xn (rst (S l) room s d c (.val (.str x)) (.val (.str (S []))) (.val (.str z)) h o p) (BT C)):
 read_word_6 C r N (rst (S l) room s d c (.val (.str x)) (.val (.str (S []))) (.val (.str z)) h o p):=by
 have s2:2≤sizeLine:=by decide
 have rc:=fun (Q:T→Prop) (X:X3)=>read_cell_ok C hl Q X
 unfold read_word_6 read_word_6t_1
 refine ifs_t (fun Q X k=> ?_) ?_
 · have:=S_nil_open
   simpa [seq3,next3,ret3,retN3,ifs3,drop3,asg3,name3,tst3,and3,or3,not3,andV3,orV3,notV3,if3,v3,k3,op3,un3,nil3,cons3,call3,tup3,lst3,chain3,fn30,fn3,fnN30,fnN3,fnP30,i2,i2c,i1,isN3,notN3,eqS3,neS3,ixL3,ixT3,len3,all3,any3,abs3,max23,min23,isi3,isB3,truth3,start3,slot,flatT,scal,tyn,M3.isNon,lenT,truT,isiB,Option.bind,take3,kbs,addP,mulP,ixP,slP,eqP,neP,isSeq,iterP,itemsP,no3,part3,sl3,raise3,brk3,cont3,M3.ltP,M3.leP,M3.gtP,M3.geP,this] using k
 · cases ho:okC l with
   | true=>
     rw [ho] at rc
     have:=h1 ho
     simpa [ret3,tup3,cons3,nil3,M3.k3,fn3,v3,slot,rc,s2] using this
   | false=>
     rw [ho] at rc
     have:=h2 ho
     simpa [ret3,tup3,cons3,nil3,M3.k3,fn3,v3,slot,rc,s2] using this
theorem w6_f {x z:Str} (hx:N.nx (rst (S l) room s d c (.val (.str x)) (.val (.str (S [40]))) (.val (.str z)) h o p)):read_word_6 C r N (rst (S l) room s d c (.val (.str x)) (.val (.str (S [40]))) (.val (.str z)) h o p):=by
 have e:(S [40]:Str)="(":=by decide +kernel
 unfold read_word_6
 refine ifs_n (fun Q X k=> ?_) hx
 simpa [seq3,next3,ret3,retN3,ifs3,drop3,asg3,name3,tst3,and3,or3,not3,andV3,orV3,notV3,if3,v3,k3,op3,un3,nil3,cons3,call3,tup3,lst3,chain3,fn30,fn3,fnN30,fnN3,fnP30,i2,i2c,i1,isN3,notN3,eqS3,neS3,ixL3,ixT3,len3,all3,any3,abs3,max23,min23,isi3,isB3,truth3,start3,slot,flatT,scal,tyn,M3.isNon,lenT,truT,isiB,Option.bind,take3,kbs,addP,mulP,ixP,slP,eqP,neP,isSeq,iterP,itemsP,no3,part3,sl3,raise3,brk3,cont3,M3.ltP,M3.leP,M3.gtP,M3.geP,e] using k
theorem w7 {x:Str} {q:List Nat} (hx:¬(keyK x=true∧q.getLast? =some 41)→N.xn (rst (S l) room s d c (.val (.str x)) b (.val (.str (S q))) h o p) (BT C)) (hn:keyK x=true∧q.getLast? =some 41→N.nx (rst (S l) room s d c (.val (.str x)) b (.val (.str (S q))) h o p)):
 read_word_7 C r N (rst (S l) room s d c (.val (.str x)) b (.val (.str (S q))) h o p):=by
 have key:=key_look x
 have en:=ends_any q
 have t1:∀(Q:Bool→Prop) (X:X3),tst3 (inK3 KV true (v3 5)) (rst (S l) room s d c (.val (.str x)) b (.val (.str (S q))) h o p) Q X=Q (!(KV.lookup x).isSome):=fun Q X=>by simp [tst3,inK3,v3,slot,asB,asS]
 have t2:∀(Q:Bool→Prop) (X:X3),tst3 (inK3 KT true (v3 5)) (rst (S l) room s d c (.val (.str x)) b (.val (.str (S q))) h o p) Q X=Q (!(KT.lookup x).isSome):=fun Q X=>by simp [tst3,inK3,v3,slot,asB,asS]
 have t3:∀(Q:Bool→Prop) (X:X3),tst3 (m13 endM3 (v3 7) (M3.k3 (.str ")"))) (rst (S l) room s d c (.val (.str x)) b (.val (.str (S q))) h o p) Q X=Q (decide (q.getLast? =some 41)):=fun Q X=>by
  simp [tst3,m13,endM3,v3,M3.k3,slot,asB,asS,en]
 unfold read_word_7 read_word_7t_1
 have e1:∀(a b c d e f:Str×T),True:=fun _ _ _ _ _ _=>trivial
 refine (show (or3 (and3 (tst3 (inK3 KV true (v3 5))) (tst3 (inK3 KT true (v3 5)))) (not3 (tst3 (m13 endM3 (v3 7) (M3.k3 (.str ")")))))) (rst (S l) room s d c (.val (.str x)) b (.val (.str (S q))) h o p) (fun z=>if z=true then raiseD3 (.ref (C.at_ "BadText")) ["at"] [0] 0 [0] [(.int 0)] nil3 N _ else next3 N _) (N.xn _) from ?_)
 generalize KV.lookup x=kv at key t1
 generalize KT.lookup x=kt at key t2
 simp only [or3,and3,not3,t1,t2,t3,raise_bad]
 rw [key] at hx hn
 cases h1:kv.isSome<;>cases h2:kt.isSome<;>by_cases h3:q.getLast? =some 41<;>simp [h1,h2,h3,next3] at hx hn ⊢ <;>first | exact hx | exact hn
end
end Law
set_option maxHeartbeats 400000
namespace Law
open PySem L2 M3
section
variable {C:Cs} {r:F3} {N:N3} {l:List Nat} {room:Int} {s d c f b h o p:Sl}
theorem w8 {q k0:List Nat} {ks:List (List Nat)} (hl:q.length≤1000000) (hc:cutF q [] 0=k0::ks) (hn:N.nx (rst (S l) room s d c f b (.val (.str (S (q++[41])))) (.val (.str (S k0))) (.val (.lst (pcs ks))) p)):read_word_8 C r N (rst (S l) room s d c f b (.val (.str (S (q++[41])))) h o p):=by
 have cp:=fun (Q:T→Prop) (X:X3) (h:Q (.lst (pcs (cutF q [] 0))))=>cut_parts_ok C (l:=q) (by omega) Q X h
 have hz:(S (q++[41])).length≤sizeLine:=by rw [S_len];exact szBig (by simp only [List.length_append,List.length_cons,List.length_nil];omega)
 have ct:cutS (S (q++[41])) none (some (-1))=S q:=by rw [cutS_S,cut_last]
 unfold read_word_8
 have go:cut_parts C [.str (S q)] (fun d'=>gstarL3 2 1 (gcons3 (name3 8) (gcons3 (name3 9) gnil3)) d' (rst (S l) room s d c f b (.val (.str (S (q++[41])))) h o p) N.nx) (N.xn (rst (S l) room s d c f b (.val (.str (S (q++[41])))) h o p)):=by
  refine cp _ _ ?_
  have e1:pcs (k0::ks)= .str (S k0)::pcs ks:=rfl
  rw [hc,e1]
  simp [gstarL3,asL,gcons3,gnil3,name3]
  exact hn
 generalize gstarL3 2 1 (gcons3 (name3 8) (gcons3 (name3 9) gnil3))=G at go ⊢
 simp [seq3,next3,ret3,retN3,ifs3,drop3,asg3,name3,tst3,and3,or3,not3,andV3,orV3,notV3,if3,v3,k3,op3,un3,nil3,cons3,call3,tup3,lst3,chain3,fn30,fn3,fnN30,fnN3,fnP30,i2,i2c,i1,isN3,notN3,eqS3,neS3,ixL3,ixT3,len3,all3,any3,abs3,max23,min23,isi3,isB3,truth3,start3,slot,flatT,scal,tyn,M3.isNon,lenT,truT,isiB,Option.bind,take3,kbs,addP,mulP,ixP,slP,eqP,neP,isSeq,iterP,itemsP,no3,part3,sl3,raise3,brk3,cont3,M3.ltP,M3.leP,M3.gtP,M3.geP,hz,ct]
 exact go
theorem sp_test {ks:List (List Nat)} {q hh:Sl} (hl:ks.length≤1000001) (hp:∀t,p≠ .own t) (Q:T→Prop) (X:X3) (k:Q (.bl (ks.all fun k=>decide (k.take 1=[32])))):
 call3 all3 (cons3 (lc3 (iterP (v3 9)) (name3 10) yes3 (m13 startM3 (v3 10) (M3.k3 (.str " "))) [10]) nil3) (rst (S l) room s d c f b q hh (.val (.lst (pcs ks))) p) Q X:=by
 refine allsp (i:=10) (j:=9) (ks:=ks) rfl (fun i hi t z=> ?_) hl (fun k hk Q X q=> ?_) Q X k
 · cases List.mem_singleton.mp hi
   exact hp t (by simpa using z)
 · have st:=starts_any k
   simp [m13,v3,slot,asS,M3.k3,startM3,st]
   exact q
theorem w9_f {ks:List (List Nat)} {q hh:Sl} (hl:ks.length≤1000001) (hp:∀t,p≠ .own t) (hk:(ks.all fun k=>decide (k.take 1=[32]))=true) (hn:N.nx (rst (S l) room s d c f b q hh (.val (.lst (pcs ks))) p)):read_word_9 C r N (rst (S l) room s d c f b q hh (.val (.lst (pcs ks))) p):=by
 have st:=fun Q X k=>sp_test (l:=l) (room:=room) (s:=s) (d:=d) (c:=c) (f:=f) (b:=b) (p:=p) (q:=q) (hh:=hh) hl hp Q X k
 rw [hk] at st
 unfold read_word_9
 refine ifs_n (fun Q X k=> ?_) hn
 unfold not3 tst3
 exact st _ _ (by simpa [asB] using k)
theorem w9_x {ks:List (List Nat)} {q hh:Sl} (hl:ks.length≤1000001) (hp:∀t,p≠ .own t) (hk:(ks.all fun k=>decide (k.take 1=[32]))=false) (hn:N.xn (rst (S l) room s d c f b q hh (.val (.lst (pcs ks))) p) (BT C)):read_word_9 C r N (rst (S l) room s d c f b q hh (.val (.lst (pcs ks))) p):=by
 have st:=fun Q X k=>sp_test (l:=l) (room:=room) (s:=s) (d:=d) (c:=c) (f:=f) (b:=b) (p:=p) (q:=q) (hh:=hh) hl hp Q X k
 rw [hk] at st
 unfold read_word_9 read_word_9t_1
 refine ifs_t (fun Q X k=> ?_) ?_
 · unfold not3 tst3
   exact st _ _ (by simpa [asB] using k)
 · rw [raise_bad]
   exact hn
theorem w10 {hd:Str} {k0:List Nat} {ks:List (List Nat)} {n:Nat} {q:Sl} {g:List Nat→Option T} (hl:ks.length≤1000001) (hk:∀k∈k0::ks,k.length≤1000000) (hp:∀t,p≠ .own t)
 (hr:∀k:List Nat,k.length≤1000000→∀(Q:T→Prop) (X:X3),(∀t,g k=some t→Q t)→(g k=none→X (BT C))→r [.str (S k),.int (n:Int)] Q X)
 (h1:∀ts,allS ((strip (k0::ks)).map g)=some ts→N.rt (.tup (.str hd::ts))) (h2:allS ((strip (k0::ks)).map g)=none→N.xn (rst (S l) ((n+1:Nat):Int) s d c (.val (.str hd)) b q (.val (.str (S k0))) (.val (.lst (pcs ks))) p) (BT C)):
 read_word_10 C r N (rst (S l) ((n+1:Nat):Int) s d c (.val (.str hd)) b q (.val (.str (S k0))) (.val (.lst (pcs ks))) p):=by
 have no:∀σ:List Sl,σ[10]? =some p→noOwn σ [10]:=fun σ hσ i hi t z=>by
  cases List.mem_singleton.mp hi
  rw [hσ] at z
  exact hp t (by simpa using z)
 have s1:1≤sizeLine:=by decide
 have inner:∀(Q:T→Prop) (X:X3),Q (.lst (pcs (ks.map (·.drop 1))))→lc3 (iterP (v3 9)) (name3 10) yes3 (sl3 slP (v3 10) (part3 (M3.k3 (.int 1))) no3) [10] (rst (S l) ((n+1:Nat):Int) s d c (.val (.str hd)) b q (.val (.str (S k0))) (.val (.lst (pcs ks))) p) Q X:=by
  intro Q X k
  refine ⟨no _ rfl, ?_⟩
  refine (show comp3 (name3 10) yes3 (sl3 slP (v3 10) (part3 (M3.k3 (.int 1))) no3) _ X (fun ys=>Q (.lst ys)) (pcs ks) [] from ?_)
  refine comp_bl (fun k=>.str (S (k.drop 1))) ks [] (by simp only [List.length_nil];omega) (fun k hk2 Q' q'=> ?_) ?_
  · have hz:(S k).length≤sizeLine:=by rw [S_len];exact szBig (by have:=hk k (List.mem_cons_of_mem _ hk2);omega)
    have ct:cutS (S k) (some 1) none=S (k.drop 1):=by
     rw [cutS_S]
     congr 1
     cases k with
     | nil=>rfl
     | cons x r=>rw [cut1];rfl
    simp [sl3,v3,slot,part3,no3,M3.k3,slP,wipe3,hz,ct]
    simpa using q'
  · rw [List.nil_append]
    have:(ks.map fun k=>T.str (S (k.drop 1)))=pcs (ks.map (·.drop 1)):=by simp [pcs]
    rw [this]
    exact k
 have sum:∀(Q:T→Prop) (X:X3),Q (.lst (pcs (strip (k0::ks))))→op3 addP (lst3 (cons3 (v3 8) nil3)) (lc3 (iterP (v3 9)) (name3 10) yes3 (sl3 slP (v3 10) (part3 (M3.k3 (.int 1))) no3) [10]) (rst (S l) ((n+1:Nat):Int) s d c (.val (.str hd)) b q (.val (.str (S k0))) (.val (.lst (pcs ks))) p) Q X:=by
  intro Q X k
  refine (show 1≤sizeLine∧lc3 _ _ _ _ _ _ (fun y=>addP (.lst [.str (S k0)]) y Q) X from ⟨s1, ?_⟩)
  refine inner _ _ ?_
  refine (show [T.str (S k0)].length+(pcs (ks.map (·.drop 1))).length≤sizeLine∧_ from ⟨?_, ?_⟩)
  · rw [pcs_len,List.length_map]
    exact szBig (by simp only [List.length_cons,List.length_nil];omega)
  · exact k
 have comp:∀(Q:T→Prop) (X:X3),(∀ts,allS ((strip (k0::ks)).map g)=some ts→Q (.lst ts))→(allS ((strip (k0::ks)).map g)=none→X (BT C))→
  lc3 (iterP (op3 addP (lst3 (cons3 (v3 8) nil3)) (lc3 (iterP (v3 9)) (name3 10) yes3 (sl3 slP (v3 10) (part3 (M3.k3 (.int 1))) no3) [10]))) (name3 10) yes3 (fn3 2 r (cons3 (v3 10) (cons3 (op3 sub3 (v3 1) (M3.k3 (.int 1))) nil3)) []) [10] (rst (S l) ((n+1:Nat):Int) s d c (.val (.str hd)) b q (.val (.str (S k0))) (.val (.lst (pcs ks))) p) Q X:=by
  intro Q X a1 a2
  refine ⟨no _ rfl, ?_⟩
  refine (show op3 addP _ _ _ (fun x=>ob (itemsP x) fun ds=>comp3 (name3 10) yes3 _ _ X (fun ys=>Q (.lst ys)) ds []) X from ?_)
  refine sum _ _ ?_
  refine (show comp3 (name3 10) yes3 _ _ X (fun ys=>Q (.lst ys)) (pcs (strip (k0::ks))) [] from ?_)
  refine comp_fail g (strip (k0::ks)) [] (by rw [strip_len];simp only [List.length_nil,List.length_cons];omega) (fun k hk2 Q' b1 b2=> ?_) (fun ts hts=>by rw [List.nil_append];exact a1 ts hts) a2
  have hkl:k.length≤1000000:=by
   rcases List.mem_cons.mp hk2 with e | hk2
   · rw [e];exact hk _ (List.mem_cons_self ..)
   · obtain ⟨k',hk',e⟩:=List.mem_map.mp hk2
     rw [←e,List.length_drop]
     have:=hk k' (List.mem_cons_of_mem _ hk')
     omega
  have z:=hr k hkl Q' X b1 b2
  have e1:((n+1:Nat):Int)-1=(n:Int):=by omega
  refine (show ([T.str (S k),T.int (((n+1:Nat):Int)-1)].length=2)∧r [.str (S k),.int (((n+1:Nat):Int)-1)] Q' X from ⟨rfl, ?_⟩)
  rw [e1]
  exact z
 unfold read_word_10
 refine (show 1≤sizeLine∧lc3 _ _ _ _ _ _ (fun z=>tuple3 [z] fun y=>addP (.tup [.str hd]) y N.rt) (N.xn _) from ⟨s1, ?_⟩)
 refine comp _ _ (fun ts hts=> ?_) h2
 refine (show [T.str hd].length+ts.length≤sizeLine∧N.rt (.tup (T.str hd::ts)) from ⟨?_,h1 ts hts⟩)
 have:=allS_len hts
 rw [List.length_map,strip_len] at this
 rw [this]
 exact szBig (by simp only [List.length_cons,List.length_nil];omega)
end
end Law
set_option maxHeartbeats 400000
namespace Law
open PySem L2 M3
theorem dot_S:(".":Str)=S [46]:=by decide +kernel
theorem open_S:("(":Str)=S [40]:=by decide +kernel
theorem par_sub {c:Nat} {l a q:List Nat} (h:TL.par [c] [] l=some (a,q)):a.length+q.length+1=l.length:=by
 obtain ⟨a',e1,e2⟩:=par_dot _ _ _ _ h
 simp at e1
 subst e1
 rw [e2]
 simp only [List.length_append,List.length_cons]
 omega
theorem spaced_cons (k:List Nat) (ks:List (List Nat)):spaced (k::ks)=ks.all fun k=>decide (k.take 1=[32]):=rfl
theorem rw_tail {C:Cs} {r:F3} {N:N3} {l:List Nat} {n:Nat} {s d c:Sl} (hl:l.length≤1000000)
 (hr:∀k:List Nat,k.length≤1000000→∀(Q:T→Prop) (X:X3),(∀t,rw_ n k=some t→Q t)→(rw_ n k=none→X (BT C))→r [.str (S k),.int (n:Int)] Q X)
 (hx:∀σ,(match TL.par [40] [] l with | none=>cellT l | some (a,q)=>if keyK (S a)=true∧q.getLast? =some 41∧spaced (cutF q.dropLast [] 0)=true then (allS ((strip (cutF q.dropLast [] 0)).map (rw_ n))).map fun ts=>.tup (.str (S a)::ts) else none)=none→N.xn σ (BT C))
 (hq:∀t,(match TL.par [40] [] l with | none=>cellT l | some (a,q)=>if keyK (S a)=true∧q.getLast? =some 41∧spaced (cutF q.dropLast [] 0)=true then (allS ((strip (cutF q.dropLast [] 0)).map (rw_ n))).map fun ts=>.tup (.str (S a)::ts) else none)=some t→N.rt t):
 seq3 (read_word_5 C r) (seq3 (read_word_6 C r) (seq3 (read_word_7 C r) (seq3 (read_word_8 C r) (seq3 (read_word_9 C r) (read_word_10 C r))))) N (rst (S l) ((n+1:Nat):Int) s d c .no .no .no .no .no .no):=by
 have hs:(S l).length≤sizeLine:=by rw [S_len];exact szBig (by omega)
 refine seq_of ?_
 cases hp:TL.par [40] [] l with
 | none=>
   rw [hp] at hx hq
   dsimp only at hx hq
   have pn:Txt.partition (S l) "("=(S l,S [],S []):=by rw [open_S];exact SX.partition_none (by simp) hp
   unfold read_word_5
   refine rw_open pn hs ?_
   dsimp only
   refine seq_of (w6_t hl (fun ho=> ?_) fun ho=> ?_)
   · exact hq _ (by unfold cellT;rw [if_pos ho])
   · exact hx _ (by unfold cellT;rw [ho];rfl)
 | some ar=>
   obtain ⟨a,q⟩:=ar
   rw [hp] at hx hq
   dsimp only at hx hq
   have ps:=par_sub hp
   have pn:Txt.partition (S l) "("=(S a,S [40],S q):=by rw [open_S];exact SX.partition_some (by simp) hp
   unfold read_word_5
   refine rw_open pn hs ?_
   dsimp only
   refine seq_of (w6_f ?_)
   dsimp only
   refine seq_of (w7 (fun hk=> ?_) fun hk=> ?_)
   · exact hx _ (if_neg fun z=>hk ⟨z.1,z.2.1⟩)
   dsimp only
   obtain ⟨q',eq⟩:∃q',q=q'++[41]:=by
    have:=hk.2
    rcases List.eq_nil_or_concat q with e | ⟨q',x,e⟩
    · rw [e] at this;cases this
    · rw [e] at this
      have hx41:x=41:=by simpa using this
      exact ⟨q',by rw [e,hx41];simp⟩
   subst eq
   have ed:(q'++[41]).dropLast=q':=by simp
   rw [ed] at hx hq
   simp only [List.length_append,List.length_cons,List.length_nil] at ps
   obtain ⟨h1,h2⟩:=cutF_lens q' [] 0
   have hne:=cutF_ne q' [] 0
   obtain ⟨k0,ks,ek⟩:∃k0 ks,cutF q' [] 0=k0::ks:=by
    cases e:cutF q' [] 0 with
    | nil=>rw [e] at hne;simp at hne
    | cons k0 ks=>exact ⟨k0,ks,rfl⟩
   refine seq_of (w8 (by omega) ek ?_)
   dsimp only
   rw [ek] at h1 h2 hx hq
   rw [spaced_cons] at hx hq
   simp only [List.length_cons] at h2
   have hks:ks.length≤1000001:=by omega
   have hno:∀t,Sl.no≠ .own t:=fun t z=>by cases z
   cases hsp:ks.all fun k=>decide (k.take 1=[32]) with
   | false=>
     rw [hsp] at hx
     exact seq_of (w9_x hks hno hsp (hx _ (if_neg fun z=>by cases z.2.2)))
   | true=>
     rw [hsp] at hx hq
     have hc:keyK (S a)=true∧(q'++[41]).getLast? =some 41∧true=true:=⟨hk.1,hk.2,rfl⟩
     refine seq_of (w9_f hks hno hsp ?_)
     dsimp only
     refine w10 hks (fun k hk2=>by have:=h1 k hk2;simp only [List.length_nil] at this;omega) hno hr (fun ts hts=>hq _ ?_) fun hn=>hx _ ?_
     · rw [if_pos hc,hts];rfl
     · rw [if_pos hc,hn];rfl
theorem rw_run (C:Cs):∀(f n:Nat) (l:List Nat),n<f→l.length≤1000000→∀(Q:T→Prop) (X:X3),(∀t,rw_ n l=some t→Q t)→(rw_ n l=none→X (BT C))→read_word C f [.str (S l),.int (n:Int)] Q X:=by
 intro f
 induction f with
 | zero=>intro n l h;exact absurd h (Nat.not_lt_zero _)
 | succ f ihf=>
   intro n l hf hl Q X hq hx
   rw [read_word_succ]
   show read_wordB C (read_word C f) {nx:=fun _=>Q .non,rt:=Q,xn:=fun _=>X} (rst (S l) (n:Int) .no .no .no .no .no .no .no .no .no)
   have hs:(S l).length≤sizeLine:=by rw [S_len];exact szBig (by omega)
   unfold read_wordB
   cases n with
   | zero=>exact seq_of (w1_t (by decide) (hx rfl))
   | succ n=>
     have ih:=ihf n
     refine seq_of (w1_f (by omega) ?_)
     dsimp only
     by_cases hy:l=YES
     · exact seq_of (w2_t hy (hq _ (by unfold rw_;rw [if_pos hy])))
     refine seq_of (w2_f hy ?_)
     dsimp only
     have hq:∀t,(if isCol l then colT l else match TL.par [40] [] l with | none=>cellT l | some (a,r)=>if keyK (S a)=true∧r.getLast? =some 41∧spaced (cutF r.dropLast [] 0)=true then (allS ((strip (cutF r.dropLast [] 0)).map (rw_ n))).map fun ts=>.tup (.str (S a)::ts) else none)=some t→Q t:=fun t ht=>hq t (by unfold rw_;rw [if_neg hy];exact ht)
     have hx:(if isCol l then colT l else match TL.par [40] [] l with | none=>cellT l | some (a,r)=>if keyK (S a)=true∧r.getLast? =some 41∧spaced (cutF r.dropLast [] 0)=true then (allS ((strip (cutF r.dropLast [] 0)).map (rw_ n))).map fun ts=>.tup (.str (S a)::ts) else none)=none→X (BT C):=fun ht=>hx (by unfold rw_;rw [if_neg hy];exact ht)
     refine seq_of ?_
     unfold read_word_3
     cases hp:TL.par [46] [] l with
     | none=>
       have hc:=col_no hp
       rw [if_neg hc] at hq hx
       have pn:Txt.partition (S l) "."=(S l,S [],S []):=by rw [dot_S];exact SX.partition_none (by simp) hp
       refine rw_dot pn hs ?_
       dsimp only
       refine seq_of (w4_f (fun z=>S_nil_dot z.1) ?_)
       exact rw_tail (n:=n) hl (fun k hk Q X a b=>ih k (by omega) hk Q X a b) (fun _ h=>hx h) hq
     | some ar=>
       obtain ⟨a,q⟩:=ar
       have ps:=par_sub hp
       have pn:Txt.partition (S l) "."=(S a,S [46],S q):=by rw [dot_S];exact SX.partition_some (by simp) hp
       obtain ⟨c1,c2⟩:=col_par hp
       refine rw_dot pn hs ?_
       dsimp only
       by_cases hc:isCol l
       · obtain ⟨ea,eq⟩:=c2 hc
         rw [if_pos hc] at hq hx
         refine seq_of (w4_t (c1.mpr hc) (by omega) (fun hn=>hq _ ?_) fun hn=>hx ?_)
         · unfold colT;rw [←eq,if_pos hn, ←ea]
         · unfold colT;rw [←eq,hn];rfl
       · rw [if_neg hc] at hq hx
         refine seq_of (w4_f (fun z=>hc (c1.mp z.2)) ?_)
         exact rw_tail (n:=n) hl (fun k hk Q X a b=>ih k (by omega) hk Q X a b) (fun _ h=>hx h) hq
end Law
set_option maxHeartbeats 400000
namespace Law
open PySem L2 M3
theorem vp_eq (x:Str):VPk.lookup x=(sortOf false x).map kS:=by
 have h1:KV.lookup x=(VPk.lookup x).map T.str:=lookup_strs x VPk
 have h2:=kv_look x
 rw [h1] at h2
 cases e1:VPk.lookup x with
 | none=>
   cases e2:sortOf false x with
   | none=>rfl
   | some ks=>rw [e1,e2] at h2;cases h2
 | some y=>
   cases e2:sortOf false x with
   | none=>rw [e1,e2] at h2;cases h2
   | some ks=>
     rw [e1,e2] at h2
     simp at h2
     rw [h2]
     rfl
theorem tp_eq (x:Str):TPk.lookup x=if x="yes" then some ("":Str) else (sortOf true x).map kS:=by
 have h1:KT.lookup x=(TPk.lookup x).map T.str:=lookup_strs x TPk
 have h2:=kt_look x
 rw [h1] at h2
 by_cases hy:x="yes"
 · rw [if_pos hy] at h2 ⊢
   cases e1:TPk.lookup x with
   | none=>rw [e1] at h2;cases h2
   | some y=>rw [e1] at h2;simp at h2;rw [h2]
 · rw [if_neg hy] at h2 ⊢
   cases e1:TPk.lookup x with
   | none=>
     cases e2:sortOf true x with
     | none=>rfl
     | some ks=>rw [e1,e2] at h2;cases h2
   | some y=>
     cases e2:sortOf true x with
     | none=>rw [e1,e2] at h2;cases h2
     | some ks=>
       rw [e1,e2] at h2
       simp at h2
       rw [h2]
       rfl
theorem all2_zip {r:Bool→T→Bool} {g:Bool→T→Bool} (e:∀b t,r (!b) t=g b t):∀(ks:List Bool) (xs:List T),all2 r (cs (kS ks)) xs=(decide (xs.length=ks.length)&&(List.zip ks xs).all fun p=>g p.1 p.2)
 | [],[]=>rfl
 | [],x::xs=>by simp [kS,all2]
 | k::ks,[]=>by simp [kS,all2]
 | k::ks,x::xs=>by
   have ih:=all2_zip e ks xs
   have ec:cs (kS (k::ks))=(if k=true then 116 else 118)::cs (kS ks):=rfl
   rw [ec]
   show (r (decide ((if k=true then 116 else 118)=118)) x&&all2 r (cs (kS ks)) xs)=_
   have ek:decide ((if k=true then 116 else 118)=118)= !k:=by cases k<;>rfl
   rw [ek,e,ih]
   simp only [List.length_cons,List.zip_cons_cons,List.all_cons]
   have el:decide (xs.length+1=ks.length+1)=decide (xs.length=ks.length):=by simp
   rw [el]
   cases g k x<;>cases decide (xs.length=ks.length)<;>simp
theorem cellB_eq (t:T):cellB t=isCellB t:=by
 cases t<;>simp [cellB,isCellB]
theorem strB_eq (t:T):strB t=isStrB t:=by
 cases t<;>rfl
theorem fit_eq:∀(n:Nat) (b:Bool) (t:T),fitW n (!b) t=fitB n b t
 | 0,_,t=>by cases t<;>rfl
 | n+1,b,t=>by
   have ih:=fit_eq n
   show fitSW (fitW n) (!b) t=_
   match t with
   | .tup (.str x::ps)=>
     unfold fitSW fitB
     cases b with
     | false=>
       simp only [Bool.not_false,true_and,if_true]
       by_cases h1:x="cell"
       · rw [if_pos h1,if_pos h1]
         match ps with
         | []=>rfl
         | [v]=>exact cellB_eq v
         | _::_::_=>rfl
       · rw [if_neg h1,if_neg h1]
         by_cases h2:x="old"∨x="new"
         · rw [if_pos h2,if_pos h2]
           match ps with
           | []=>rfl
           | [v]=>exact strB_eq v
           | _::_::_=>rfl
         · rw [if_neg h2,if_neg h2,vp_eq]
           cases sortOf false x with
           | none=>rfl
           | some ks=>exact all2_zip ih ks ps
     | true=>
       simp only [Bool.not_true,Bool.false_eq_true,false_and,if_false]
       rw [tp_eq]
       have hf:¬(true=false):=by decide
       by_cases h1:x="yes"
       · rw [if_pos h1]
         simp [h1]
         cases ps with
         | nil=>rfl
         | cons=>rfl
       · rw [if_neg h1]
         simp [h1]
         cases sortOf true x with
         | none=>rfl
         | some ks=>exact all2_zip ih ks ps
   | .tup []=>cases b<;>rfl
   | .non=>cases b<;>rfl
   | .bl _=>cases b<;>rfl
   | .int _=>cases b<;>rfl
   | .str _=>cases b<;>rfl
   | .ty _=>cases b<;>rfl
   | .ref _=>cases b<;>rfl
   | .lst _=>cases b<;>rfl
   | .dic _=>cases b<;>rfl
   | .ins _ _=>cases b<;>rfl
   | .kd _ _=>cases b<;>rfl
   | .tup (.non::_)=>cases b<;>rfl
   | .tup (.bl _::_)=>cases b<;>rfl
   | .tup (.int _::_)=>cases b<;>rfl
   | .tup (.ty _::_)=>cases b<;>rfl
   | .tup (.ref _::_)=>cases b<;>rfl
   | .tup (.lst _::_)=>cases b<;>rfl
   | .tup (.tup _::_)=>cases b<;>rfl
   | .tup (.dic _::_)=>cases b<;>rfl
   | .tup (.ins _ _::_)=>cases b<;>rfl
   | .tup (.kd _ _::_)=>cases b<;>rfl
end Law
set_option maxHeartbeats 400000
namespace Law
open PySem L2 M3
theorem sg_low {l:List Nat} (h:∀c∈l,c≤122):PyData.strOk (S l)=true:=by
 unfold PyData.strOk
 rw [←Array.all_toList,List.all_eq_true]
 intro c hc
 have:=h c hc
 exact decide_eq_true (by omega)
theorem gd_name {l:List Nat} (h:nameOk l=true):gd 1000002 (.str (S l))=true:=by
 unfold nameOk at h
 simp only [Bool.and_eq_true,decide_eq_true_eq] at h
 rw [gd_str,sg_low (fun c hc=>(of_decide_eq_true (List.all_eq_true.mp h.2 c hc)).2),S_len]
 simp
 omega
theorem gd_lit {x:Str} (h:PyData.strOk x=true) (h2:x.length≤1000):gd 1000002 (.str x)=true:=by
 rw [gd_str,h]
 simpa using h2
theorem gd_key {x:Str} (h:keyK x=true):gd 1000002 (.str x)=true:=by
 have lits:∀y:Str,(PyData.strOk y=true∧y.length≤1000)→x=y→gd 1000002 (.str x)=true:=fun y hy e=>by rw [e];exact gd_lit hy.1 hy.2
 unfold keyK at h
 simp only [Bool.or_eq_true,decide_eq_true_eq] at h
 rcases h with h | h | h
 · simp only [sortOf] at h
   by_cases h1:x="plus"∨x="minus"∨x="times"∨x="least"∨x="most"
   · rcases h1 with h1 | h1 | h1 | h1 | h1<;>exact lits _ (by decide +kernel) h1
   · rw [if_neg h1] at h
     by_cases h2:x="choose"
     · exact lits _ (by decide +kernel) h2
     · rw [if_neg h2] at h;cases h
 · exact lits _ (by decide +kernel) h
 · simp only [sortOf] at h
   by_cases h1:x="is"∨x="below"
   · rcases h1 with h1 | h1<;>exact lits _ (by decide +kernel) h1
   · rw [if_neg h1] at h
     by_cases h2:x="lacks"
     · exact lits _ (by decide +kernel) h2
     · rw [if_neg h2] at h
       by_cases h3:x="not"
       · exact lits _ (by decide +kernel) h3
       · rw [if_neg h3] at h
         by_cases h4:x="both"∨x="either"
         · rcases h4 with h4 | h4<;>exact lits _ (by decide +kernel) h4
         · rw [if_neg h4] at h;cases h
theorem allS_mem {f:List Nat→Option T}:∀ {ls:List (List Nat)} {ts:List T},allS (ls.map f)=some ts→∀t∈ts,∃l∈ls,f l=some t
 | [],ts,h,t,ht=>by cases h;cases ht
 | l::ls,ts,h,t,ht=>by
   cases e:f l with
   | none=>simp [allS,e] at h
   | some u=>
     cases e2:allS (ls.map f) with
     | none=>simp [allS,e,e2] at h
     | some us=>
       simp [allS,e,e2] at h
       rw [←h] at ht
       rcases List.mem_cons.mp ht with z | z
       · exact ⟨l,List.mem_cons_self ..,by rw [z];exact e⟩
       · obtain ⟨k,hk,e3⟩:=allS_mem e2 t z
         exact ⟨k,List.mem_cons_of_mem _ hk,e3⟩
theorem gd_col {l:List Nat} {t:T} (hc:isCol l) (h:colT l=some t):gd 1000002 t=true:=by
 unfold colT at h
 split at h
 · rename_i hn
   cases h
   have hx:(S (l.take 3):Str)="old"∨(S (l.take 3):Str)="new":=by
    have t3:l.take 3=(l.take 4).take 3:=by rw [List.take_take];rfl
    rw [t3]
    rcases hc with hc | hc<;>rw [hc]
    · left;decide +kernel
    · right;decide +kernel
   have g1:gd 1000002 (.str (S (l.take 3)))=true:=by rcases hx with hx | hx<;>rw [hx]<;>exact gd_lit (by decide +kernel) (by decide +kernel)
   rw [gd_tup]
   simp [gdL,g1,gd_name hn]
 · cases h
theorem gd_cellC {l:List Nat} {t:T} (h:cellT l=some t):gd 1000002 t=true:=by
 unfold cellT at h
 split at h
 · cases h
   have g1:gd 1000002 (.str "cell")=true:=gd_lit (by decide +kernel) (by decide +kernel)
   have g2:gd 1000002 (valC l)=true:=by unfold valC;split<;>simp
   rw [gd_tup]
   simp [gdL,g1,g2]
 · cases h
theorem gd_rw:∀(n:Nat) (l:List Nat) (t:T),l.length≤1000000→rw_ n l=some t→gd 1000002 t=true
 | 0,_,_,_,h=>by cases h
 | n+1,l,t,hl,h=>by
   have ih:=gd_rw n
   unfold rw_ at h
   by_cases hy:l=YES
   · rw [if_pos hy] at h
     cases h
     have g1:gd 1000002 (.str "yes")=true:=gd_lit (by decide +kernel) (by decide +kernel)
     rw [gd_tup]
     simp [gdL,g1]
   rw [if_neg hy] at h
   by_cases hc:isCol l
   · rw [if_pos hc] at h
     exact gd_col hc h
   rw [if_neg hc] at h
   cases hp:TL.par [40] [] l with
   | none=>rw [hp] at h;dsimp only at h;exact gd_cellC h
   | some ar=>
     obtain ⟨a,q⟩:=ar
     rw [hp] at h
     dsimp only at h
     have ps:=par_sub hp
     split at h
     · rename_i hk
       obtain ⟨c1,c2⟩:=cutF_lens q.dropLast [] 0
       generalize cutF q.dropLast [] 0=pp at *
       have dl:q.dropLast.length≤q.length:=by rw [List.length_dropLast];omega
       cases ha:allS ((strip pp).map (rw_ n)) with
       | none=>rw [ha] at h;cases h
       | some ts=>
         rw [ha] at h
         cases h
         have hlen:=allS_len ha
         rw [List.length_map,strip_len] at hlen
         rw [gd_tup]
         have gl:gdL 1000002 ts=true:=gdL_of fun u hu=>by
          obtain ⟨k,hk2,e⟩:=allS_mem ha u hu
          have hkl:k.length≤1000000:=by
           cases pp with
           | nil=>cases hk2
           | cons p0 pr=>
             rcases List.mem_cons.mp hk2 with z | z
             · have:=c1 p0 (List.mem_cons_self ..)
               rw [z]
               simp only [List.length_nil] at this
               omega
             · obtain ⟨k',hk',e'⟩:=List.mem_map.mp z
               have:=c1 k' (List.mem_cons_of_mem _ hk')
               rw [←e',List.length_drop]
               simp only [List.length_nil] at this
               omega
          exact ih k u hkl e
         simp only [gdL,gd_key hk.1,gl,Bool.and_true,List.length_cons]
         exact decide_eq_true (by omega)
     · cases h
theorem read_value_ok (C:Cs) {l:List Nat} (hl:l.length≤1000000) (Q:T→Prop) (X:X3) (h1:∀t,rd 8 false l=some t→Q t) (h2:rd 8 false l=none→X (BT C)):read_value C [.str (S l)] Q X:=by
 rw [read_value_def]
 show read_valueB C {nx:=fun _=>Q .non,rt:=Q,xn:=fun _=>X} [Sl.val (.str (S l)),.no]
 have e:=rd_rw 8 false l
 unfold read_valueB
 refine seq_of ?_
 have go:read_word C 12 [.str (S l),.int ((8:Nat):Int)] (fun t=>seq3 (ifs3 (not3 (tst3 (fn3 2 (is_value C 20) (cons3 (v3 1) (cons3 (M3.k3 (.int 8)) nil3)) []))) (raiseD3 (.ref (C.at_ "BadText")) ["at"] [0] 0 [0] [(.int 0)] nil3) next3) (ret3 (v3 1)) {nx:=fun _=>Q .non,rt:=Q,xn:=fun _=>X} [Sl.val (.str (S l)),.val t]) X:=by
  refine rw_run C 12 8 l (by decide) hl _ X (fun t ht=> ?_) fun hn=>h2 (by rw [e,hn])
  rw [ht] at e
  dsimp only at e
  have iv:=fun (Q:T→Prop) (X:X3)=>is_value_eq C (gd_rw 8 l t hl ht) Q X
  have fe:fitW 8 true t=fitB 8 false t:=fit_eq 8 false t
  rw [fe] at iv
  refine seq_of ?_
  cases hf:fitB 8 false t with
  | true=>
    rw [hf] at iv e
    refine ifs_n (fun Q X k=> ?_) ?_
    · simp [not3,tst3,fn3,cons3,nil3,v3,M3.k3,slot,iv,asB]
      exact k
    · exact h1 t e
  | false=>
    rw [hf] at iv e
    refine ifs_t (fun Q X k=> ?_) ?_
    · simp [not3,tst3,fn3,cons3,nil3,v3,M3.k3,slot,iv,asB]
      exact k
    · rw [raise_bad]
      exact h2 e
 exact ⟨rfl,go⟩
theorem read_truth_ok (C:Cs) {l:List Nat} (hl:l.length≤1000000) (Q:T→Prop) (X:X3) (h1:∀t,rd 8 true l=some t→Q t) (h2:rd 8 true l=none→X (BT C)):read_truth C [.str (S l)] Q X:=by
 rw [read_truth_def]
 show read_truthB C {nx:=fun _=>Q .non,rt:=Q,xn:=fun _=>X} [Sl.val (.str (S l)),.no]
 have e:=rd_rw 8 true l
 unfold read_truthB
 refine seq_of ?_
 have go:read_word C 12 [.str (S l),.int ((8:Nat):Int)] (fun t=>seq3 (ifs3 (not3 (tst3 (fn3 2 (is_truth C 20) (cons3 (v3 1) (cons3 (M3.k3 (.int 8)) nil3)) []))) (raiseD3 (.ref (C.at_ "BadText")) ["at"] [0] 0 [0] [(.int 0)] nil3) next3) (ret3 (v3 1)) {nx:=fun _=>Q .non,rt:=Q,xn:=fun _=>X} [Sl.val (.str (S l)),.val t]) X:=by
  refine rw_run C 12 8 l (by decide) hl _ X (fun t ht=> ?_) fun hn=>h2 (by rw [e,hn])
  rw [ht] at e
  dsimp only at e
  have iv:=fun (Q:T→Prop) (X:X3)=>is_truth_eq C (gd_rw 8 l t hl ht) Q X
  have fe:fitW 8 false t=fitB 8 true t:=fit_eq 8 true t
  rw [fe] at iv
  refine seq_of ?_
  cases hf:fitB 8 true t with
  | true=>
    rw [hf] at iv e
    refine ifs_n (fun Q X k=> ?_) ?_
    · simp [not3,tst3,fn3,cons3,nil3,v3,M3.k3,slot,iv,asB]
      exact k
    · exact h1 t e
  | false=>
    rw [hf] at iv e
    refine ifs_t (fun Q X k=> ?_) ?_
    · simp [not3,tst3,fn3,cons3,nil3,v3,M3.k3,slot,iv,asB]
      exact k
    · rw [raise_bad]
      exact h2 e
 exact ⟨rfl,go⟩
end Law
set_option maxHeartbeats 400000
namespace Law
open PySem L2 M3
def sd:Bool→List (Key×T)
 | true=>[(.inr "is",.str "vv"),(.inr "below",.str "vv"),(.inr "lacks",.str "v"),(.inr "not",.str "t"),(.inr "both",.str "tt"),(.inr "either",.str "tt")]
 | false=>[(.inr "plus",.str "vv"),(.inr "minus",.str "vv"),(.inr "times",.str "vv"),(.inr "least",.str "vv"),(.inr "most",.str "vv"),(.inr "choose",.str "tvv")]
theorem val_lk:∀(l:List (Str×T)) (x:Str),valT (l.map fun p=>(Sum.inr p.1,p.2)) (Sum.inr x)=l.lookup x
 | [],_=>rfl
 | (y,t)::l,x=>by
   have ih:=val_lk l x
   unfold valT at ih ⊢
   by_cases h:y=x
   · subst h
     simp [List.lookup]
   · have h1:¬(Sum.inr y:Key)=Sum.inr x:=fun e=>h (by cases e;rfl)
     have h2:(x==y)=false:=beq_eq_false_iff_ne.mpr fun e=>h e.symm
     simp only [List.map_cons,List.find?_cons,decide_eq_false h1,List.lookup,h2]
     exact ih
theorem sd_look (b:Bool) (x:Str):valT (sd b) (.inr x)=(sortOf b x).map fun ks=>.str (kS ks):=by
 cases b with
 | false=>
   have e:sd false=KV.map fun p=>(Sum.inr p.1,p.2):=rfl
   rw [e,val_lk,kv_look]
 | true=>
   have e:sd true=KT.tail.map fun p=>(Sum.inr p.1,p.2):=rfl
   have k:=kt_look x
   have ek:KT=List.cons (α:=Str×T) ("yes",.str "") KT.tail:=rfl
   rw [e,val_lk]
   rw [ek] at k
   by_cases h:x="yes"
   · subst h
     have s1:sortOf true "yes"=none:=by decide +kernel
     have s2:(List.lookup ("yes":Str) KT.tail).isNone=true:=by decide +kernel
     rw [s1,Option.isNone_iff_eq_none.mp s2]
     rfl
   · have h2:(x==("yes":Str))=false:=beq_eq_false_iff_ne.mpr h
     rw [if_neg h] at k
     simpa [List.lookup,h2] using k
def hdP (acc l:List Nat):Option (List Nat×List Nat)→List Nat
 | none=>acc++l
 | some (a,_)=>a
theorem spl_head (c:Nat):∀(l acc:List Nat),∃r,TL.spl [c] 0 acc l=hdP acc l (TL.par [c] acc l)::r
 | [],acc=>⟨[],by rw [TL.spl_nil];simp [TL.par,hdP]⟩
 | x::l,acc=>by
   by_cases h:TL.pre [c] (x::l)=true
   · rw [TL.spl_hit h,TL.par_hit h]
     exact ⟨_,rfl⟩
   · have h':TL.pre [c] (x::l)=false:=by simpa using h
     obtain ⟨r,e⟩:=spl_head c l (acc++[x])
     rw [TL.spl_miss h',TL.par_miss h',e]
     refine ⟨r, ?_⟩
     cases TL.par [c] (acc++[x]) l<;>simp [hdP]
theorem par_mem {c:Nat}:∀(l acc:List Nat),(TL.par [c] acc l).isSome=decide (c∈l)
 | [],acc=>by simp [TL.par]
 | x::l,acc=>by
   have ih:=par_mem (c:=c) l (acc++[x])
   have p1:TL.pre [c] (x::l)=decide (x=c):=pre1 ..
   by_cases h:x=c
   · rw [decide_eq_true h] at p1
     rw [TL.par_hit p1]
     simp [h]
   · rw [decide_eq_false h] at p1
     rw [TL.par_miss p1,ih]
     have h2:¬c=x:=fun e=>h e.symm
     simp [h2]
theorem cut_to {α:Type} (xs:List α) (k:Nat):cut xs none (some (k:Int))=xs.take k:=by
 unfold M3.cut
 rw [HT.sIx_nat,HT.sIx_none]
 simp [List.take_eq_take_iff]
theorem cut_from {α:Type} (xs:List α) (k:Nat):cut xs (some (k:Int)) none=xs.drop k:=by
 unfold M3.cut
 rw [HT.sIx_nat,HT.sIx_none]
 by_cases h:k≤xs.length
 · rw [Nat.min_eq_left h,List.take_of_length_le (by simp)]
 · rw [Nat.min_eq_right (by omega),List.drop_of_length_le (Nat.le_refl _),List.drop_of_length_le (by omega)]
   simp
end Law
set_option maxHeartbeats 400000
namespace Law
open PySem L2 M3
abbrev lst_ (l:List Nat) (b:Bool) (n:Int) (s f p o q k:Sl):List Sl:=[.val (.str (S l)),.val (kT b),.val (.int n),s,f,p,o,q,k]
theorem kT_t (b:Bool) (Q:T→Prop):eqP (kT b) (.str "t") Q=Q (.bl b):=by
 have n1:¬("v":Str)="t":=by decide +kernel
 cases b<;>simp [kT,eqP,isSeq,eqS3,flatT,scal,n1]
theorem kT_v (b:Bool) (Q:T→Prop):eqP (kT b) (.str "v") Q=Q (.bl (!b)):=by
 have n1:¬("t":Str)="v":=by decide +kernel
 cases b<;>simp [kT,eqP,isSeq,eqS3,flatT,scal,n1]
theorem in_dots (l:List Nat) (Q:T→Prop):inP false (.str (S (l.take 4))) (.tup [.str "old.",.str "new."]) Q=Q (.bl (decide (isCol l))):=by
 have h:=in_texts (neg:=false) (S (l.take 4)) ["old.","new."] Q
 have e1:(S OLDD:Str)="old.":=by decide +kernel
 have e2:(S NEWD:Str)="new.":=by decide +kernel
 have e:decide (isCol l)=decide (S (l.take 4)=("old.":Str)∨S (l.take 4)=("new.":Str)):=by
  refine decide_eq_decide.mpr ?_
  unfold isCol
  rw [←e1, ←e2,S_eq,S_eq]
 rw [e]
 simpa [texts] using h
section
variable {C:Cs} {r:F3} {N:N3} {l:List Nat} {b:Bool} {n:Int} {s f p o q k:Sl}
theorem lr1_t (h:n<1) (hx:N.rt .non):Lread_1 C r N (lst_ l b n s f p o q k):=by
 unfold Lread_1 Lread_1t_1
 refine ifs_t (fun Q X z=> ?_) hx
 simp [seq3,next3,ret3,retN3,ifs3,drop3,asg3,name3,tst3,and3,or3,not3,andV3,orV3,notV3,if3,v3,k3,op3,un3,nil3,cons3,call3,tup3,lst3,chain3,fn30,fn3,fnN30,fnN3,fnP30,i2,i2c,i1,isN3,notN3,eqS3,neS3,ixL3,ixT3,len3,all3,any3,abs3,max23,min23,isi3,isB3,truth3,start3,slot,flatT,scal,tyn,M3.isNon,lenT,truT,isiB,Option.bind,take3,kbs,addP,mulP,ixP,slP,eqP,neP,isSeq,iterP,itemsP,no3,part3,sl3,raise3,brk3,cont3,M3.ltP,M3.leP,M3.gtP,M3.geP]
 rw [decide_eq_true h]
 exact z
theorem lr1_f (h:¬n<1) (hx:N.nx (lst_ l b n s f p o q k)):Lread_1 C r N (lst_ l b n s f p o q k):=by
 unfold Lread_1
 refine ifs_n (fun Q X z=> ?_) hx
 simp [seq3,next3,ret3,retN3,ifs3,drop3,asg3,name3,tst3,and3,or3,not3,andV3,orV3,notV3,if3,v3,k3,op3,un3,nil3,cons3,call3,tup3,lst3,chain3,fn30,fn3,fnN30,fnN3,fnP30,i2,i2c,i1,isN3,notN3,eqS3,neS3,ixL3,ixT3,len3,all3,any3,abs3,max23,min23,isi3,isB3,truth3,start3,slot,flatT,scal,tyn,M3.isNon,lenT,truT,isiB,Option.bind,take3,kbs,addP,mulP,ixP,slP,eqP,neP,isSeq,iterP,itemsP,no3,part3,sl3,raise3,brk3,cont3,M3.ltP,M3.leP,M3.gtP,M3.geP]
 rw [decide_eq_false h]
 exact z
theorem lr2_t (hb:b=true) (h:l=YES) (hx:N.rt (.tup [.str "yes"])):Lread_2 C r N (lst_ l b n s f p o q k):=by
 have e:S l=("yes":Str):=by rw [h];exact yes_key
 have s1:1≤sizeLine:=by decide
 unfold Lread_2 Lread_2t_1
 refine ifs_t (fun Q X z=> ?_) ?_
 · have:=kT_t b
   rw [hb] at this
   have es:∀Q,eqP (.str (S l)) (.str "yes") Q=Q (.bl true):=fun Q=>by simp [eqP,isSeq,eqS3,flatT,scal,e]
   simp [and3,tst3,op3,v3,M3.k3,slot,hb,this,asB,es]
   exact z
 · simpa [seq3,next3,ret3,retN3,ifs3,drop3,asg3,name3,tst3,and3,or3,not3,andV3,orV3,notV3,if3,v3,k3,op3,un3,nil3,cons3,call3,tup3,lst3,chain3,fn30,fn3,fnN30,fnN3,fnP30,i2,i2c,i1,isN3,notN3,eqS3,neS3,ixL3,ixT3,len3,all3,any3,abs3,max23,min23,isi3,isB3,truth3,start3,slot,flatT,scal,tyn,M3.isNon,lenT,truT,isiB,Option.bind,take3,kbs,addP,mulP,ixP,slP,eqP,neP,isSeq,iterP,itemsP,no3,part3,sl3,raise3,brk3,cont3,M3.ltP,M3.leP,M3.gtP,M3.geP,s1] using hx
theorem lr2_f (h:¬(b=true∧l=YES)) (hx:N.nx (lst_ l b n s f p o q k)):Lread_2 C r N (lst_ l b n s f p o q k):=by
 unfold Lread_2
 refine ifs_n (fun Q X z=> ?_) hx
 have:=kT_t b
 cases b with
 | false=>
   simp [and3,tst3,op3,v3,M3.k3,slot,this,asB]
   exact z
 | true=>
   have hl:¬l=YES:=fun e=>h ⟨rfl,e⟩
   have e:¬S l=("yes":Str):=by rw [←yes_key,S_eq];exact hl
   have es:∀Q,eqP (.str (S l)) (.str "yes") Q=Q (.bl false):=fun Q=>by simp [eqP,isSeq,eqS3,flatT,scal,e]
   simp [and3,tst3,op3,v3,M3.k3,slot,this,asB,es]
   exact z
theorem lr3_t (hl:l.length≤1000000) (hb:b=false) (hc:isCol l) (hx:N.rt ((colT l).getD .non)):Lread_3 C r N (lst_ l b n s f p o q k):=by
 have hz:(S l).length≤sizeLine:=by rw [S_len];exact szBig (by omega)
 have s2:2≤sizeLine:=by decide
 have c4:cutS (S l) none (some 4)=S (l.take 4):=by rw [cutS_S];exact congrArg S (cut_to l 4)
 have c3:cutS (S l) none (some 3)=S (l.take 3):=by rw [cutS_S];exact congrArg S (cut_to l 3)
 have d4:cutS (S l) (some 4) none=S (l.drop 4):=by rw [cutS_S];exact congrArg S (cut_from l 4)
 have nm:=fun (Q:T→Prop) (X:X3)=>name_ok_any C (l:=l.drop 4) (by rw [List.length_drop];omega) Q X
 have dts:=in_dots l
 unfold Lread_3 Lread_3t_1
 refine ifs_t (fun Q X z=> ?_) ?_
 · have kv:=kT_v b
   rw [hb] at kv
   have d2:=dts fun x=>ob (asB x) Q
   rw [decide_eq_true hc] at d2
   have d3:=d2.mpr z
   simp [and3,tst3,op3,v3,M3.k3,slot,hb,kv,asB,sl3,no3,part3,slP,tup3,cons3,nil3,hz,c4,s2]
   exact d3
 · unfold colT at hx
   cases hn:nameOk (l.drop 4) with
   | true=>
     rw [hn] at nm hx
     simp [ret3,if3,tst3,fn3,cons3,nil3,sl3,no3,part3,slP,v3,M3.k3,slot,hz,d4,c3,nm,asB,tup3,s2]
     exact hx
   | false=>
     rw [hn] at nm hx
     simp [ret3,if3,tst3,fn3,cons3,nil3,sl3,no3,part3,slP,v3,M3.k3,slot,hz,d4,c3,nm,asB,tup3,s2]
     exact hx
theorem lr3_f (hl:l.length≤1000000) (h:¬(b=false∧isCol l)) (hx:N.nx (lst_ l b n s f p o q k)):Lread_3 C r N (lst_ l b n s f p o q k):=by
 have hz:(S l).length≤sizeLine:=by rw [S_len];exact szBig (by omega)
 have s2:2≤sizeLine:=by decide
 have c4:cutS (S l) none (some 4)=S (l.take 4):=by rw [cutS_S];exact congrArg S (cut_to l 4)
 have dts:=in_dots l
 unfold Lread_3
 refine ifs_n (fun Q X z=> ?_) hx
 have kv:=kT_v b
 cases b with
 | true=>
   simp [and3,tst3,op3,v3,M3.k3,slot,kv,asB]
   exact z
 | false=>
   have hc:¬isCol l:=fun e=>h ⟨rfl,e⟩
   have d2:=dts fun x=>ob (asB x) Q
   rw [decide_eq_false hc] at d2
   have d3:=d2.mpr z
   simp [and3,tst3,op3,v3,M3.k3,slot,kv,asB,sl3,no3,part3,slP,tup3,cons3,nil3,hz,c4,s2]
   exact d3
theorem lr4 (hx:N.nx (lst_ l b n (.val (.dic (sd true))) f p o q k)):Lread_4 C r N (lst_ l b n s f p o q k):=by
 unfold Lread_4
 refine (show [_,_,_,_,_,_].length≤15∧N.nx _ from ⟨by decide,hx⟩)
theorem lr5 (hx:N.nx (lst_ l b n (.val (.dic (sd b))) f p o q k)):Lread_5 C r N (lst_ l b n (.val (.dic (sd true))) f p o q k):=by
 unfold Lread_5 Lread_5t_1
 have kv:=kT_v b
 cases b with
 | true=>
   refine ifs_n (fun Q X z=> ?_) hx
   simp [tst3,op3,v3,M3.k3,slot,kv,asB]
   exact z
 | false=>
   refine ifs_t (fun Q X z=> ?_) ?_
   · simp [tst3,op3,v3,M3.k3,slot,kv,asB]
     exact z
   · refine (show [_,_,_,_,_,_].length≤15∧N.nx _ from ⟨by decide,hx⟩)
theorem lr6 (hl:l.length≤1000000) (hx:N.nx (lst_ l b n s (.val (.str (S (hdP [] l (TL.par [40] [] l))))) p o q k)):Lread_6 C r N (lst_ l b n s f p o q k):=by
 have hz:(S l).length+2≤sizeLine:=by rw [S_len];exact szBig (by omega)
 obtain ⟨r0,e⟩:=spl_head 40 l []
 have e2:Txt.split (S l) "("=(TL.spl [40] 0 [] l).map S:=by rw [open_S];exact SX.split_S (by simp) (by decide)
 rw [e] at e2
 unfold Lread_6
 have ol:(("(":Str).length==0)=false:=by decide +kernel
 refine (show (("(":Str).length==0)=false∧(S l).length+2≤sizeLine∧ixP (.lst ((Txt.split (S l) "(").map T.str)) (.int 0) _ from ⟨ol,hz, ?_⟩)
 rw [e2]
 have at0:∀(x:T) (xs:List T),L2.atI (x::xs) 0=some x:=fun x xs=>by simp [L2.atI,L2.ixN]
 refine (show ob (L2.atI _ 0) _ from ?_)
 rw [List.map_cons,List.map_cons,at0,ob_some]
 exact hx
theorem in_open (l:List Nat) (Q:T→Prop):inP true (.str "(") (.str (S l)) Q=Q (.bl (!(TL.par [40] [] l).isSome)):=by
 rw [par_mem]
 rfl
theorem lr7_t (hl:l.length≤1000000) (hp:TL.par [40] [] l=none) (hx:N.rt (if b=true then .non else (cellT l).getD .non)):Lread_7 C r N (lst_ l b n s f p o q k):=by
 unfold Lread_7 Lread_7t_1
 have io:=in_open l
 rw [hp] at io
 have cr:=fun (Q:T→Prop) (X:X3)=>cell_read_ok C hl Q X
 have kv:=kT_v b
 refine ifs_t (fun Q X z=> ?_) ?_
 · simp only [tst3,op3,v3,M3.k3,slot,List.getElem?_cons_zero,ob_some]
   rw [io]
   exact z
 · cases b with
   | true=>
     simp [ret3,if3,tst3,op3,v3,M3.k3,slot,kv,asB]
     exact hx
   | false=>
     have e:(if okC l=true then T.tup [.str "cell",valC l] else .non)=(cellT l).getD .non:=by unfold cellT;split<;>rfl
     rw [e] at cr
     simp [ret3,if3,tst3,op3,v3,M3.k3,slot,kv,asB,fn3,cons3,nil3,cr]
     exact hx
theorem lr7_f {aq:List Nat×List Nat} (hp:TL.par [40] [] l=some aq) (hx:N.nx (lst_ l b n s f p o q k)):Lread_7 C r N (lst_ l b n s f p o q k):=by
 unfold Lread_7
 have io:=in_open l
 rw [hp] at io
 refine ifs_n (fun Q X z=> ?_) hx
 simp only [tst3,op3,v3,M3.k3,slot,List.getElem?_cons_zero,ob_some]
 rw [io]
 exact z
end
end Law
set_option maxHeartbeats 400000
namespace Law
open PySem L2 M3
theorem at_last {α:Type} {xs:List α} (h:xs≠[]):L2.atI xs (-1)=xs.getLast? :=by
 have hl:1≤xs.length:=by cases xs with | nil=>exact absurd rfl h | cons=>simp
 unfold L2.atI L2.ixN
 rw [if_neg (by omega),if_pos (by omega),List.getLast?_eq_getElem?]
 show xs[((-1:Int)+(xs.length:Int)).toNat]? =_
 congr 1
 omega
theorem cut_mid (a q:List Nat) (c d:Nat):cut (a++c::(q++[d])) (some ((a.length:Int)+1)) (some (-1))=q:=by
 unfold M3.cut
 have el:(a++c::(q++[d])).length=a.length+1+q.length+1:=by simp;omega
 have e1:HT.sIx (a++c::(q++[d])).length 0 (some ((a.length:Int)+1))=a.length+1:=by
  rw [el]
  simp only [HT.sIx]
  rw [if_neg (by omega)]
  omega
 have e2:HT.sIx (a++c::(q++[d])).length (a++c::(q++[d])).length (some (-1))=a.length+1+q.length:=by
  rw [el]
  simp only [HT.sIx]
  rw [if_pos (by omega)]
  omega
 rw [e1,e2]
 have e3:a.length+1+q.length-(a.length+1)=q.length:=by omega
 have e4:(a++c::(q++[d])).drop (a.length+1)=q++[d]:=by
  rw [List.drop_append]
  simp
 rw [e3,e4]
 simp
theorem kS_len (ks:List Bool):(kS ks).length=ks.length:=by unfold kS;rw [S_len,List.length_map]
theorem ne_close (c:Nat) (Q:T→Prop):neP (.str ⟨#[c]⟩) (.str ")") Q=Q (.bl (!decide (c=41))):=by
 have e:(⟨#[c]⟩:Str)=S [c]:=rfl
 have e2:((S [c]:Str)=")")=(c=41):=by rw [S_close,S_eq];simp
 rw [e]
 simp [neP,isSeq,neS3,flatT,scal,e2]
theorem eq_sp (k:List Nat) (Q:T→Prop):eqP (.str (S k)) (.str " ") Q=Q (.bl (decide (k=[32]))):=by
 have e:(" ":Str)=S [32]:=by decide +kernel
 rw [e]
 simp [eqP,isSeq,eqS3,flatT,scal,S_eq]
section
variable {C:Cs} {r:F3} {N:N3} {l:List Nat} {b:Bool} {n:Int} {s f p o q k:Sl}
theorem lr8 {x:Str} (hl:l.length≤1000000) (hne:l≠[]) (h1:¬((sortOf b x).isSome=true∧l.getLast? =some 41)→N.rt .non) (h2:(sortOf b x).isSome=true∧l.getLast? =some 41→N.nx (lst_ l b n (.val (.dic (sd b))) (.val (.str x)) p o q k)):Lread_8 C r N (lst_ l b n (.val (.dic (sd b))) (.val (.str x)) p o q k):=by
 have hz:(S l).length≤sizeLine:=by rw [S_len];exact szBig (by omega)
 have look:=sd_look b x
 obtain ⟨c,ec⟩:∃c,l.getLast? =some c:=⟨_,List.getLast?_eq_getLast hne⟩
 have al:L2.atI l (-1)=some c:=by rw [at_last hne,ec]
 have t1:∀(Q:Bool→Prop) (X:X3),tst3 (op3 (inDF3 true) (v3 4) (v3 3)) (lst_ l b n (.val (.dic (sd b))) (.val (.str x)) p o q k) Q X=Q (!(sortOf b x).isSome):=fun Q X=>by
  have e:((sortOf b x).map fun ks=>T.str (kS ks)).isSome=(sortOf b x).isSome:=by cases sortOf b x<;>rfl
  simp [tst3,op3,inDF3,asD,asK,look,e,v3,slot,asB]
 have t2:∀(Q:Bool→Prop) (X:X3),tst3 (op3 neP (op3 ixP (v3 0) (un3 neg3 (M3.k3 (.int 1)))) (M3.k3 (.str ")"))) (lst_ l b n (.val (.dic (sd b))) (.val (.str x)) p o q k) Q X=Q (!decide (c=41)):=fun Q X=>by
  show ((S l).length≤sizeLine∧ob (L2.atI l (-1)) fun c=>neP (.str ⟨#[c]⟩) (.str ")") fun x=>ob (asB x) Q)=_
  rw [al,ob_some,ne_close]
  simp [hz,asB]
 unfold Lread_8 Lread_8t_1
 refine (show (or3 (tst3 (op3 (inDF3 true) (v3 4) (v3 3))) (tst3 (op3 neP (op3 ixP (v3 0) (un3 neg3 (M3.k3 (.int 1)))) (M3.k3 (.str ")"))))) (lst_ l b n (.val (.dic (sd b))) (.val (.str x)) p o q k) (fun z=>if z=true then ret3 (M3.k3 .non) N _ else next3 N _) (N.xn _) from ?_)
 rw [ec] at h1 h2
 have eo:(some c=some 41)=(c=41):=by simp
 rw [eo] at h1 h2
 simp only [or3,t1,t2]
 cases hs:(sortOf b x).isSome<;>by_cases h3:c=41<;>simp [hs,h3,next3,ret3,M3.k3] at h1 h2 ⊢ <;>first | exact h1 | exact h2
theorem lr9 {a q':List Nat} (hl:(a++40::(q'++[41])).length≤1000000) (hx:N.nx (lst_ (a++40::(q'++[41])) b n s (.val (.str (S a))) (.val (.lst (pcs (cutF q' [] 0)))) o q k)):Lread_9 C r N (lst_ (a++40::(q'++[41])) b n s (.val (.str (S a))) p o q k):=by
 have hz:(S (a++40::(q'++[41]))).length≤sizeLine:=by rw [S_len];exact szBig (by omega)
 have ct:cutS (S (a++40::(q'++[41]))) (some (((S a).length:Int)+1)) (some (-1))=S q':=by
  rw [cutS_S,S_len]
  exact congrArg S (cut_mid a q' 40 41)
 have lq:q'.length≤1000000:=by simp at hl;omega
 have lc:=fun (Q:T→Prop) (X:X3) (h:Q (.lst (pcs (cutF q' [] 0))))=>lcut_ok C (l:=q') lq Q X h
 have go:Lcut C [.str (S q')] (fun d=>name3 5 d (lst_ (a++40::(q'++[41])) b n s (.val (.str (S a))) p o q k) N.nx) (N.xn (lst_ (a++40::(q'++[41])) b n s (.val (.str (S a))) p o q k)):=lc _ _ hx
 have la:(S a).length≤sizeLine:=by rw [S_len];exact szBig (by simp at hl;omega)
 unfold Lread_9
 generalize a++40::(q'++[41])=l at *
 generalize name3 5=G at go ⊢
 simp [seq3,next3,ret3,retN3,ifs3,drop3,asg3,name3,tst3,and3,or3,not3,andV3,orV3,notV3,if3,v3,k3,op3,un3,nil3,cons3,call3,tup3,lst3,chain3,fn30,fn3,fnN30,fnN3,fnP30,i2,i2c,i1,isN3,notN3,eqS3,neS3,ixL3,ixT3,len3,all3,any3,abs3,max23,min23,isi3,isB3,truth3,start3,slot,flatT,scal,tyn,M3.isNon,lenT,truT,isiB,Option.bind,take3,kbs,addP,mulP,ixP,slP,eqP,neP,isSeq,iterP,itemsP,no3,part3,sl3,raise3,brk3,cont3,M3.ltP,M3.leP,M3.gtP,M3.geP,hz,ct,la]
 exact go
end
end Law
set_option maxHeartbeats 400000
namespace Law
open PySem L2 M3
theorem pcs_tail (k0:List Nat) (ks:List (List Nat)):cut (pcs (k0::ks)) (some 1) none=pcs ks:=by
 show cut (T.str (S k0)::pcs ks) (some 1) none=pcs ks
 exact cut1 _ _
theorem pcs_head (k0:List Nat) (ks:List (List Nat)):cut (pcs (k0::ks)) none (some 1)=[T.str (S k0)]:=by
 have:=cut_to (pcs (k0::ks)) 1
 exact this
theorem sort_len {b:Bool} {x:Str} {ss:List Bool} (h:sortOf b x=some ss):ss.length≤3:=by
 cases b<;>simp only [sortOf] at h<;>repeat' split at h
 all_goals first | (cases h;decide) | cases h
section
variable {C:Cs} {r:F3} {N:N3} {l:List Nat} {b:Bool} {n:Int} {s f p o q k:Sl}
theorem sp_law {k0:List Nat} {ks:List (List Nat)} (hl:ks.length≤1000001) (hk:∀x∈ks,x.length≤1000000) (hp:∀t,q≠ .own t) (Q:T→Prop) (X:X3) (z:Q (.bl (ks.all fun k=>decide (k.take 1=[32])))):
 call3 all3 (cons3 (lc3 (iterP (sl3 slP (v3 5) (part3 (M3.k3 (.int 1))) no3)) (name3 7) yes3 (op3 eqP (sl3 slP (v3 7) no3 (part3 (M3.k3 (.int 1)))) (M3.k3 (.str " "))) [7]) nil3) (lst_ l b n s f (.val (.lst (pcs (k0::ks)))) o q k) Q X:=by
 have no:noOwn (lst_ l b n s f (.val (.lst (pcs (k0::ks)))) o q k) [7]:=fun i hi t e=>by
  cases List.mem_singleton.mp hi
  exact hp t (by simpa using e)
 refine (show noOwn (lst_ l b n s f (.val (.lst (pcs (k0::ks)))) o q k) [7]∧comp3 (name3 7) yes3 (op3 eqP (sl3 slP (v3 7) no3 (part3 (M3.k3 (.int 1)))) (M3.k3 (.str " "))) (wipe3 (lst_ l b n s f (.val (.lst (pcs (k0::ks)))) o q k) [7]) X (fun ys=>all3 [.lst ys] Q) (cut (pcs (k0::ks)) (some 1) none) [] from ⟨no, ?_⟩)
 rw [pcs_tail]
 refine comp_bl (fun k=>.bl (decide (k.take 1=[32]))) ks [] (by simp only [List.length_nil];omega) (fun y hy Q' q'=> ?_) ?_
 · have hz:(S y).length≤sizeLine:=by rw [S_len];exact szBig (by have:=hk y hy;omega)
   have c1:cutS (S y) none (some 1)=S (y.take 1):=by rw [cutS_S];exact congrArg S (cut_to y 1)
   have es:=eq_sp (y.take 1) Q'
   rw [es.symm] at q'
   simp [op3,sl3,slP,v3,slot,no3,part3,M3.k3,hz,c1,wipe3]
   exact q'
 · rw [List.nil_append]
   show all3 [.lst (ks.map fun k=>T.bl ((fun k=>decide (k.take 1=[32])) k))] Q
   simp only [all3,one_1,ob_some,asL_lst,bls_dec]
   rw [List.all_map]
   exact z
theorem lr10 {x:Str} {ss:List Bool} {k0:List Nat} {ks:List (List Nat)} (hs:sortOf b x=some ss) (hl:ks.length≤1000001) (hk:∀y∈ks,y.length≤1000000) (hp:∀t,q≠ .own t)
 (h1:¬((k0::ks).length=ss.length∧spaced (k0::ks)=true)→N.rt .non) (h2:(k0::ks).length=ss.length∧spaced (k0::ks)=true→N.nx (lst_ l b n (.val (.dic (sd b))) (.val (.str x)) (.val (.lst (pcs (k0::ks)))) o q k)):
 Lread_10 C r N (lst_ l b n (.val (.dic (sd b))) (.val (.str x)) (.val (.lst (pcs (k0::ks)))) o q k):=by
 have look:valT (sd b) (.inr x)=some (.str (kS ss)):=by rw [sd_look,hs];rfl
 have s3:ss.length≤sizeLine:=szBig (by have:=sort_len hs;omega)
 have t1:∀(Q:Bool→Prop) (X:X3),Q (!decide ((k0::ks).length=ss.length))→tst3 (op3 neP (call3 len3 (cons3 (v3 5) nil3)) (call3 len3 (cons3 (dget3 (v3 3) (v3 4)) nil3))) (lst_ l b n (.val (.dic (sd b))) (.val (.str x)) (.val (.lst (pcs (k0::ks)))) o q k) Q X:=fun Q X z=>by
  have e1:(pcs (k0::ks)).length=(k0::ks).length:=pcs_len _
  have e2:decide (((k0::ks).length:Int)=(ss.length:Int))=decide ((k0::ks).length=ss.length):=decide_eq_decide.mpr (by omega)
  rw [←e2] at z
  simp only [tst3,op3,call3,cons3,nil3,dget3,v3,slot,List.getElem?_cons_zero,List.getElem?_cons_succ,ob_some,asD,asK,look,len3,one_1,lenT,e1,kS_len]
  simp only [neP,isSeq,neS3,flatT,scal,Bool.or_self,Bool.false_eq_true,if_false,ob_some,asB]
  simpa [s3] using z
 have t2:=fun Q X z=>sp_law (l:=l) (b:=b) (n:=n) (s:=.val (.dic (sd b))) (f:=.val (.str x)) (o:=o) (q:=q) (k:=k) (k0:=k0) (ks:=ks) hl hk hp Q X z
 unfold Lread_10 Lread_10t_1
 generalize call3 all3 (cons3 (lc3 (iterP (sl3 slP (v3 5) (part3 (M3.k3 (.int 1))) no3)) (name3 7) yes3 (op3 eqP (sl3 slP (v3 7) no3 (part3 (M3.k3 (.int 1)))) (M3.k3 (.str " "))) [7]) nil3)=AL at t2 ⊢
 refine (show (or3 (tst3 (op3 neP (call3 len3 (cons3 (v3 5) nil3)) (call3 len3 (cons3 (dget3 (v3 3) (v3 4)) nil3)))) (not3 (tst3 AL))) (lst_ l b n (.val (.dic (sd b))) (.val (.str x)) (.val (.lst (pcs (k0::ks)))) o q k) (fun z=>if z=true then ret3 (M3.k3 .non) N _ else next3 N _) (N.xn _) from ?_)
 refine t1 _ _ ?_
 by_cases e:(k0::ks).length=ss.length
 · rw [decide_eq_true e]
   refine (show AL _ (fun d=>ob (asB d) fun z=>(if (!z)=true then ret3 (M3.k3 .non) N _ else next3 N _)) (N.xn _) from ?_)
   refine t2 _ _ ?_
   rw [spaced_cons] at h1 h2
   cases hsp:ks.all fun k=>decide (k.take 1=[32]) with
   | true=>rw [hsp] at h2;exact h2 ⟨e,rfl⟩
   | false=>rw [hsp] at h1;exact h1 fun z=>by cases z.2
 · rw [decide_eq_false e]
   exact h1 fun z=>e z.1
theorem lr11 {x:Str} {k0:List Nat} {ks:List (List Nat)} (hl:ks.length≤1000001) (hk:∀y∈ks,y.length≤1000000) (hp:∀t,q≠ .own t) (hx:N.nx (lst_ l b n s f (.val (.lst (pcs (strip (k0::ks))))) o q k)):
 Lread_11 C r N (lst_ l b n s f (.val (.lst (pcs (k0::ks)))) o q k):=by
 have no:noOwn (lst_ l b n s f (.val (.lst (pcs (k0::ks)))) o q k) [7]:=fun i hi t e=>by
  cases List.mem_singleton.mp hi
  exact hp t (by simpa using e)
 unfold Lread_11
 refine (show noOwn (lst_ l b n s f (.val (.lst (pcs (k0::ks)))) o q k) [7]∧comp3 (name3 7) yes3 (sl3 slP (v3 7) (part3 (M3.k3 (.int 1))) no3) (wipe3 (lst_ l b n s f (.val (.lst (pcs (k0::ks)))) o q k) [7]) (N.xn (lst_ l b n s f (.val (.lst (pcs (k0::ks)))) o q k)) (fun ys=>addP (.lst (cut (pcs (k0::ks)) none (some 1))) (.lst ys) (fun d=>name3 5 d (lst_ l b n s f (.val (.lst (pcs (k0::ks)))) o q k) N.nx)) (cut (pcs (k0::ks)) (some 1) none) [] from ⟨no, ?_⟩)
 rw [pcs_tail]
 refine comp_bl (fun k=>.str (S (k.drop 1))) ks [] (by simp only [List.length_nil];omega) (fun y hy Q' q'=> ?_) ?_
 · have hz:(S y).length≤sizeLine:=by rw [S_len];exact szBig (by have:=hk y hy;omega)
   have ct:cutS (S y) (some 1) none=S (y.drop 1):=by rw [cutS_S];exact congrArg S (cut_from y 1)
   simp [sl3,v3,slot,part3,no3,M3.k3,slP,wipe3,hz,ct]
   simpa using q'
 · rw [List.nil_append,pcs_head]
   have e:(ks.map fun k=>T.str (S (k.drop 1)))=pcs (ks.map (·.drop 1)):=by simp [pcs]
   rw [e]
   refine (show [T.str (S k0)].length+(pcs (ks.map (·.drop 1))).length≤sizeLine∧_ from ⟨?_,hx⟩)
   rw [pcs_len,List.length_map]
   exact szBig (by simp only [List.length_cons,List.length_nil];omega)
end
end Law
set_option maxHeartbeats 400000
namespace Law
open PySem L2 M3
theorem items_kS (ks:List Bool):itemsP (.str (kS ks))=some (ks.map kT):=by
 have e:(kS ks).cps.toList=ks.map fun b=>if b=true then 116 else 118:=by simp [kS,S]
 show some ((kS ks).cps.toList.map chT)=_
 rw [e,List.map_map]
 congr 2
 funext b
 cases b
 · exact congrArg T.str (by decide +kernel)
 · exact congrArg T.str (by decide +kernel)
theorem comp_pair {σ:List Sl} {te:E3} {X:X3} {Q:List T→Prop} (g:Bool→List Nat→T):∀(ls:List (List Nat)) (ks:List Bool) (acc:List T),acc.length+ls.length≤10000000→(∀k,∀y∈ls,∀Q':T→Prop,Q' (g k y)→te ((σ.set 7 (.val (.str (S y)))).set 8 (.val (kT k))) Q' X)→Q (acc++(List.zip ks ls).map fun p=>g p.1 p.2)→
 comp3 (gtup3 2 (gcons3 (name3 7) (gcons3 (name3 8) gnil3))) yes3 te σ X Q (pairT (pcs ls) (ks.map kT)) acc
 | [],ks,acc,_,_,h=>by
   have e:pairT (pcs []) (ks.map kT)=[]:=rfl
   rw [e]
   simpa [comp3] using h
 | y::ls,[],acc,_,_,h=>by
   have e:pairT (pcs (y::ls)) ([].map kT)=[]:=rfl
   rw [e]
   simpa [comp3] using h
 | y::ls,k::ks,acc,hl,hd,h=>by
   simp only [List.length_cons] at hl
   have e3:acc.length<sizeLine:=by
    have:sizeLine=16777216:=by decide
    omega
   refine (show [T.str (S y),kT k].length=2∧te ((σ.set 7 (.val (.str (S y)))).set 8 (.val (kT k))) (fun z=>acc.length<sizeLine∧comp3 (gtup3 2 (gcons3 (name3 7) (gcons3 (name3 8) gnil3))) yes3 te σ X Q (pairT (pcs ls) (ks.map kT)) (acc++[z])) X from ⟨rfl, ?_⟩)
   refine hd k y (List.mem_cons_self ..) _ ⟨e3, ?_⟩
   refine comp_pair g ls ks (acc++[g k y]) (by simp only [List.length_append,List.length_cons,List.length_nil];omega) (fun k x hx=>hd k x (List.mem_cons_of_mem _ hx)) ?_
   simpa using h
def isNonB:T→Bool
 | .non=>true
 | _=>false
theorem any_non:∀(fs:List T) (ds:List PyData),dats fs=some ds→(∀t∈fs,t= .non∨∃us,t= .tup us)→(ds.any fun z=>PyData.eqv z .none)=fs.any isNonB
 | [],ds,h,_=>by cases h;rfl
 | t::fs,ds,h,hk=>by
   rcases hk t (List.mem_cons_self ..) with e | ⟨us,e⟩
   · subst e
     cases e2:dats fs with
     | none=>simp [dats,e2] at h
     | some es=>
       have ih:=any_non fs es e2 fun u hu=>hk u (List.mem_cons_of_mem _ hu)
       have:ds= .none::es:=by simpa [dats,e2,dat] using h.symm
       rw [this]
       simp [isNonB,PyData.eqv]
   · subst e
     cases e1:dats us with
     | none=>simp [dats,dat,e1] at h
     | some vs=>
       cases e2:dats fs with
       | none=>simp [dats,e2] at h
       | some es=>
         have ih:=any_non fs es e2 fun u hu=>hk u (List.mem_cons_of_mem _ hu)
         have:ds= .tuple vs::es:=by simpa [dats,dat,e1,e2] using h.symm
         rw [this,List.any_cons,ih]
         rfl
theorem none_in {m:Nat} {fs:List T} (h1:gdL m fs=true) (h2:depL fs≤60) (h3:∀t∈fs,t= .non∨∃us,t= .tup us) (Q:T→Prop) (q:Q (.bl (fs.any isNonB))):inLD3 false .non (.lst fs) Q:=by
 obtain ⟨ds,e1,e2,e3⟩:=dats_gd fs h1
 have d1:dat (.lst fs)=some (.list ds):=by show (dats fs).map PyData.list=_;rw [e1];rfl
 have s1:SeqAt.shaped (.list ds)=true:=by
  unfold SeqAt.shaped
  have z1:(PyData.list ds).canLay0=true:=by simpa [PyData.canLay0] using e2
  have z2:(PyData.list ds).depth≤64:=by simp [PyData.depth,e3];omega
  simp [z1,z2]
 have s0:SeqAt.shaped .none=true:=by decide +kernel
 unfold inLD3
 rw [d1]
 refine (show SeqAt.shaped .none=true∧SeqAt.shaped (.list ds)=true∧Q (.bl (ds.any fun z=>PyData.eqv z .none)) from ⟨s0,s1, ?_⟩)
 rw [any_non fs ds e1 h3]
 exact q
theorem found_all (g:Bool→List Nat→Option T) (h:∀k l t,g k l=some t→isNonB t=false):∀zs:List (Bool×List Nat),(∀ts,allS (zs.map fun p=>g p.1 p.2)=some ts→(zs.map fun p=>(g p.1 p.2).getD .non)=ts∧ts.any isNonB=false)∧(allS (zs.map fun p=>g p.1 p.2)=none→(zs.map fun p=>(g p.1 p.2).getD .non).any isNonB=true)
 | []=>⟨fun ts z=>by cases z;exact ⟨rfl,rfl⟩,fun z=>by cases z⟩
 | p::zs=>by
   obtain ⟨a1,a2⟩:=found_all g h zs
   cases e:g p.1 p.2 with
   | none=>exact ⟨fun ts z=>by simp [allS,e] at z,fun _=>by simp [e,isNonB]⟩
   | some t=>
     have hn:=h _ _ _ e
     cases e2:allS (zs.map fun p=>g p.1 p.2) with
     | none=>exact ⟨fun ts z=>by simp [allS,e,e2] at z,fun _=>by have:=a2 e2;simp only [List.map_cons,List.any_cons,this,Bool.or_true]⟩
     | some us=>
       refine ⟨fun ts z=> ?_,fun z=>by simp [allS,e,e2] at z⟩
       have ez:t::us=ts:=by simpa [allS,e,e2] using z
       obtain ⟨b1,b2⟩:=a1 us e2
       rw [←ez]
       refine ⟨?_, ?_⟩
       · rw [List.map_cons,b1,e];rfl
       · rw [List.any_cons,hn,b2];rfl
theorem rd_tup:∀(n:Nat) (b:Bool) (l:List Nat) (t:T),rd n b l=some t→∃us,t= .tup us
 | 0,_,_,_,h=>by cases h
 | n+1,b,l,t,h=>by
   unfold rd at h
   split at h
   · cases h;exact ⟨_,rfl⟩
   · split at h
     · unfold colT at h
       split at h
       · cases h;exact ⟨_,rfl⟩
       · cases h
     · split at h
       · split at h
         · cases h
         · unfold cellT at h
           split at h
           · cases h;exact ⟨_,rfl⟩
           · cases h
       · split at h
         · cases h
         · split at h
           · obtain ⟨ts,_,e⟩:=Option.map_eq_some_iff.mp h
             exact ⟨_,e.symm⟩
           · cases h
theorem rd_rw' {n:Nat} {b:Bool} {l:List Nat} {t:T} (h:rd n b l=some t):rw_ n l=some t∧fitB n b t=true:=by
 rw [rd_rw] at h
 cases e:rw_ n l with
 | none=>rw [e] at h;cases h
 | some u=>
   rw [e] at h
   dsimp only at h
   split at h
   · rename_i hf;cases h;exact ⟨rfl,hf⟩
   · cases h
theorem depL_le {m:Nat}:∀ {ts:List T},(∀t∈ts,dep t≤m)→depL ts≤m
 | [],_=>by simp
 | t::ts,h=>by
   rw [depL_cons]
   have h1:=h t (List.mem_cons_self ..)
   have h2:=depL_le (ts:=ts) fun u hu=>h u (List.mem_cons_of_mem _ hu)
   omega
theorem rw_dep:∀(n:Nat) (l:List Nat) (t:T),rw_ n l=some t→dep t≤n
 | 0,_,_,h=>by cases h
 | n+1,l,t,h=>by
   have ih:=rw_dep n
   unfold rw_ at h
   split at h
   · cases h;simp
   · split at h
     · unfold colT at h
       split at h
       · cases h;simp
       · cases h
     · split at h
       · unfold cellT at h
         split at h
         · cases h
           have:dep (valC l)=0:=by unfold valC;split<;>simp
           simp [this]
         · cases h
       · split at h
         · obtain ⟨ts,e,e2⟩:=Option.map_eq_some_iff.mp h
           rw [←e2,dep_tup,depL_cons,dep_str]
           have:=depL_le (m:=n) (ts:=ts) fun u hu=>by
            obtain ⟨k,_,e3⟩:=allS_mem e u hu
            exact ih k u e3
           omega
         · cases h
end Law
set_option maxHeartbeats 400000
namespace Law
open PySem L2 M3
abbrev fnd (m:Nat) (ss:List Bool) (ps:List (List Nat)):List T:=(List.zip ss ps).map fun p=>(rd m p.1 p.2).getD .non
section
variable {C:Cs} {r:F3} {N:N3} {l:List Nat} {b:Bool} {m:Nat} {s f p o q k:Sl}
theorem lr12 {x:Str} {ss:List Bool} {ps:List (List Nat)} (hs:sortOf b x=some ss) (hl:ps.length≤1000002) (hk:∀y∈ps,y.length≤1000000) (hq:∀t,q≠ .own t) (hq2:∀t,k≠ .own t)
 (hr:∀(b:Bool) (y:List Nat),y.length≤1000000→∀(Q:T→Prop) (X:X3),Q ((rd m b y).getD .non)→r [.str (S y),kT b,.int (m:Int)] Q X)
 (hx:N.nx (lst_ l b ((m+1:Nat):Int) (.val (.dic (sd b))) (.val (.str x)) (.val (.lst (pcs ps))) (.val (.lst (fnd m ss ps))) q k)):Lread_12 C r N (lst_ l b ((m+1:Nat):Int) (.val (.dic (sd b))) (.val (.str x)) (.val (.lst (pcs ps))) o q k):=by
 have look:valT (sd b) (.inr x)=some (.str (kS ss)):=by rw [sd_look,hs];rfl
 have no:noOwn (lst_ l b ((m+1:Nat):Int) (.val (.dic (sd b))) (.val (.str x)) (.val (.lst (pcs ps))) o q k) [7,8]:=fun i hi t e=>by
  rcases List.mem_cons.mp hi with z | hi
  · rw [z] at e;exact hq t (by simpa using e)
  · cases List.mem_singleton.mp hi
    exact hq2 t (by simpa using e)
 have goal:comp3 (gtup3 2 (gcons3 (name3 7) (gcons3 (name3 8) gnil3))) yes3 (fn30 3 r (cons3 (v3 7) (cons3 (v3 8) (cons3 (op3 sub3 (v3 2) (M3.k3 (.int 1))) nil3))) []) (wipe3 (lst_ l b ((m+1:Nat):Int) (.val (.dic (sd b))) (.val (.str x)) (.val (.lst (pcs ps))) o q k) [7,8]) (N.xn (lst_ l b ((m+1:Nat):Int) (.val (.dic (sd b))) (.val (.str x)) (.val (.lst (pcs ps))) o q k)) (fun ys=>name3 6 (.lst ys) (lst_ l b ((m+1:Nat):Int) (.val (.dic (sd b))) (.val (.str x)) (.val (.lst (pcs ps))) o q k) N.nx) (pairT (pcs ps) (ss.map kT)) []:=by
  refine comp_pair (fun b y=>(rd m b y).getD .non) ps ss [] (by simp only [List.length_nil];omega) (fun c y hy Q' q'=> ?_) ?_
  · have e1:((m+1:Nat):Int)-1=(m:Int):=by omega
    refine (show ([T.str (S y),kT c,T.int (((m+1:Nat):Int)-1)].length=3)∧r [.str (S y),kT c,.int (((m+1:Nat):Int)-1)] Q' (fun _=>False) from ⟨rfl, ?_⟩)
    rw [e1]
    exact hr c y (hk y hy) Q' _ q'
  · rw [List.nil_append]
    exact hx
 unfold Lread_12
 generalize fn30 3 r (cons3 (v3 7) (cons3 (v3 8) (cons3 (op3 sub3 (v3 2) (M3.k3 (.int 1))) nil3))) []=te at goal ⊢
 refine (show noOwn (lst_ l b ((m+1:Nat):Int) (.val (.dic (sd b))) (.val (.str x)) (.val (.lst (pcs ps))) o q k) [7,8]∧ob (valT (sd b) (.inr x)) (fun d=>ob (itemsP d) fun ys=>comp3 (gtup3 2 (gcons3 (name3 7) (gcons3 (name3 8) gnil3))) yes3 te (wipe3 (lst_ l b ((m+1:Nat):Int) (.val (.dic (sd b))) (.val (.str x)) (.val (.lst (pcs ps))) o q k) [7,8]) (N.xn (lst_ l b ((m+1:Nat):Int) (.val (.dic (sd b))) (.val (.str x)) (.val (.lst (pcs ps))) o q k)) (fun ys=>name3 6 (.lst ys) (lst_ l b ((m+1:Nat):Int) (.val (.dic (sd b))) (.val (.str x)) (.val (.lst (pcs ps))) o q k) N.nx) (pairT (pcs ps) ys) []) from ⟨no, ?_⟩)
 rw [look,ob_some,items_kS,ob_some]
 exact goal
theorem lr13 {x:Str} {ss:List Bool} {ps:List (List Nat)} {n:Int} (hm:m≤40) (h3:ss.length≤3) (hk:∀y∈ps,y.length≤1000000) (hx:N.rt (((allS ((List.zip ss ps).map fun p=>rd m p.1 p.2)).map fun ts=>T.tup (.str x::ts)).getD .non)):
 Lread_13 C r N (lst_ l b n s (.val (.str x)) p (.val (.lst (fnd m ss ps))) q k):=by
 have mem:∀t∈fnd m ss ps,t= .non∨∃c y,y.length≤1000000∧rd m c y=some t:=fun t ht=>by
  obtain ⟨z,hz,e⟩:=List.mem_map.mp ht
  cases e2:rd m z.1 z.2 with
  | none=>left;rw [←e,e2];rfl
  | some u=>right;exact ⟨z.1,z.2,hk _ (List.of_mem_zip (a:=z.1) (b:=z.2) hz).2,by rw [e2, ←e,e2];rfl⟩
 have g1:gdL 1000002 (fnd m ss ps)=true:=gdL_of fun t ht=>by
  rcases mem t ht with e | ⟨c,y,hy,e⟩
  · rw [e];simp
  · exact gd_rw m y t hy (rd_rw' e).1
 have g2:depL (fnd m ss ps)≤60:=depL_le fun t ht=>by
  rcases mem t ht with e | ⟨c,y,hy,e⟩
  · rw [e];simp
  · have:=rw_dep m y t (rd_rw' e).1
    omega
 have g3:∀t∈fnd m ss ps,t= .non∨∃us,t= .tup us:=fun t ht=>by
  rcases mem t ht with e | ⟨c,y,hy,e⟩
  · exact .inl e
  · exact .inr (rd_tup m c y t e)
 obtain ⟨a1,a2⟩:=found_all (rd m) (fun c y t e=>by obtain ⟨us,e2⟩:=rd_tup m c y t e;rw [e2];rfl) (List.zip ss ps)
 have len:(fnd m ss ps).length≤3:=by simp;omega
 have nin:=fun (Q:T→Prop) z=>none_in g1 g2 g3 Q z
 unfold Lread_13
 refine (fun (go:inLD3 false .non (.lst (fnd m ss ps)) (fun d=>ob (asB d) fun z=>if z=true then N.rt .non else 1≤sizeLine∧tuple3 [.lst (fnd m ss ps)] (fun y=>addP (.tup [.str x]) y N.rt)))=> ?_) ?_
 · exact go
 refine nin _ ?_
 cases ea:allS ((List.zip ss ps).map fun p=>rd m p.1 p.2) with
 | none=>
   rw [ea] at hx
   rw [show (fnd m ss ps).any isNonB=true from a2 ea]
   exact hx
 | some ts=>
   rw [ea] at hx
   obtain ⟨b1,b2⟩:=a1 ts ea
   rw [show fnd m ss ps=ts from b1] at len ⊢
   rw [b2]
   have s1:1≤sizeLine:=by decide
   refine ⟨s1, ?_⟩
   refine (show [T.str x].length+ts.length≤sizeLine∧N.rt (.tup (.str x::ts)) from ⟨szBig (by simp only [List.length_cons,List.length_nil];omega),hx⟩)
end
end Law
set_option maxHeartbeats 400000
namespace Law
open PySem L2 M3
theorem last_app (a q:List Nat):((a++40::q).getLast? =some 41)↔q.getLast? =some 41:=by
 cases q with
 | nil=>simp
 | cons x q=>simp [List.getLast?_append,List.getLast?_cons_cons]
theorem read_ok (C:Cs):∀(f n:Nat) (b:Bool) (l:List Nat),n<f→n≤40→l.length≤1000000→∀(Q:T→Prop) (X:X3),Q ((rd n b l).getD .non)→Lread C f [.str (S l),kT b,.int (n:Int)] Q X:=by
 intro f
 induction f with
 | zero=>intro n b l h;exact absurd h (Nat.not_lt_zero _)
 | succ f ihf=>
   intro n b l hf h40 hl Q X hx
   rw [Lread_succ]
   show LreadB C (Lread C f) {nx:=fun _=>Q .non,rt:=Q,xn:=fun _=>X} (lst_ l b (n:Int) .no .no .no .no .no .no)
   unfold LreadB
   have hno:∀t,Sl.no≠ .own t:=fun t z=>by cases z
   cases n with
   | zero=>exact seq_of (lr1_t (by decide) hx)
   | succ n=>
     have ih:=ihf n
     refine seq_of (lr1_f (by omega) ?_)
     dsimp only
     by_cases hy:b=true∧l=YES
     · refine seq_of (lr2_t hy.1 hy.2 ?_)
       unfold rd at hx
       rw [if_pos hy] at hx
       exact hx
     refine seq_of (lr2_f hy ?_)
     dsimp only
     unfold rd at hx
     rw [if_neg hy] at hx
     by_cases hc:b=false∧isCol l
     · rw [if_pos hc] at hx
       exact seq_of (lr3_t hl hc.1 hc.2 hx)
     rw [if_neg hc] at hx
     refine seq_of (lr3_f hl hc ?_)
     dsimp only
     refine seq_of (lr4 ?_)
     dsimp only
     refine seq_of (lr5 ?_)
     dsimp only
     refine seq_of (lr6 hl ?_)
     dsimp only
     cases hp:TL.par [40] [] l with
     | none=>
       rw [hp] at hx
       dsimp only at hx
       refine seq_of (lr7_t hl hp ?_)
       cases b with
       | true=>exact hx
       | false=>exact hx
     | some ar=>
       obtain ⟨a,q⟩:=ar
       rw [hp] at hx
       dsimp only at hx
       have ps:=par_sub hp
       obtain ⟨a',e1,e2⟩:=par_dot _ _ _ _ hp
       simp at e1
       subst e1
       refine seq_of (lr7_f hp ?_)
       dsimp only
       have eh:hdP [] l (some (a,q))=a:=rfl
       rw [eh]
       have hne:l≠[]:=fun e=>by rw [e] at e2;simp at e2
       have hlast:l.getLast? =some 41↔q.getLast? =some 41:=by rw [e2];exact last_app a q
       refine seq_of (lr8 hl hne (fun hn=> ?_) fun hk=> ?_)
       · dsimp only
         cases hs:sortOf b (S a) with
         | none=>rw [hs] at hx;exact hx
         | some ss=>
           rw [hs] at hx
           dsimp only at hx
           rw [if_neg fun z=>hn ⟨by rw [hs];rfl,hlast.mpr z.1⟩] at hx
           exact hx
       dsimp only
       obtain ⟨ss,hs⟩:=Option.isSome_iff_exists.mp hk.1
       rw [hs] at hx
       dsimp only at hx
       have hq41:=hlast.mp hk.2
       obtain ⟨q',eq⟩:∃q',q=q'++[41]:=by
        rcases List.eq_nil_or_concat q with e | ⟨q',x,e⟩
        · rw [e] at hq41;cases hq41
        · rw [e] at hq41
          have hx41:x=41:=by simpa using hq41
          exact ⟨q',by rw [e,hx41];simp⟩
       subst eq
       have ed:(q'++[41]).dropLast=q':=by simp
       rw [ed] at hx
       simp only [List.length_append,List.length_cons,List.length_nil] at ps
       obtain ⟨h1,h2⟩:=cutF_lens q' [] 0
       have hne:=cutF_ne q' [] 0
       obtain ⟨k0,ks,ek⟩:∃k0 ks,cutF q' [] 0=k0::ks:=by
        cases e:cutF q' [] 0 with
        | nil=>rw [e] at hne;simp at hne
        | cons k0 ks=>exact ⟨k0,ks,rfl⟩
       have h9:=fun {N:N3} z=>lr9 (C:=C) (r:=Lread C f) (N:=N) (a:=a) (q':=q') (b:=b) (n:=((n+1:Nat):Int)) (s:=.val (.dic (sd b))) (p:=.no) (o:=.no) (q:=.no) (k:=.no) (by rw [←e2];exact hl) z
       rw [←e2] at h9
       refine seq_of (h9 ?_)
       dsimp only
       rw [ek] at h1 h2 hx ⊢
       simp only [List.length_cons] at h2
       have hks:ks.length≤1000001:=by omega
       have hkl:∀y∈k0::ks,y.length≤1000000:=fun y hy=>by have:=h1 y hy;simp only [List.length_nil] at this;omega
       refine seq_of (lr10 hs hks (fun y hy=>hkl y (List.mem_cons_of_mem _ hy)) hno (fun hn=> ?_) fun hk2=> ?_)
       · dsimp only
         rw [if_neg fun z=>hn z.2] at hx
         exact hx
       dsimp only
       rw [if_pos ⟨hq41,hk2⟩] at hx
       refine seq_of (lr11 (x:=S a) hks (fun y hy=>hkl y (List.mem_cons_of_mem _ hy)) hno ?_)
       dsimp only
       have hsl:∀y∈strip (k0::ks),y.length≤1000000:=fun y hy=>by
        rcases List.mem_cons.mp hy with z | z
        · rw [z];exact hkl _ (List.mem_cons_self ..)
        · obtain ⟨k',hk',e'⟩:=List.mem_map.mp z
          have:=hkl k' (List.mem_cons_of_mem _ hk')
          rw [←e',List.length_drop]
          omega
       have s3:=sort_len hs
       refine seq_of (lr12 (m:=n) hs (by rw [strip_len];simp only [List.length_cons];omega) hsl hno hno (fun b y hy Q X z=>ih b y (by omega) (by omega) hy Q X z) ?_)
       dsimp only
       exact lr13 (by omega) s3 hsl hx
end Law
set_option maxHeartbeats 400000
namespace Law
open PySem L2 M3
theorem replS_len {y z:List Nat} {k:Nat} (hz:z.length≤k) (hk:1≤k):∀(l:List Nat) (s:Nat),(StrLaws.replS y z s l).length≤k * l.length
 | [],s=>by cases s<;>simp [StrLaws.replS]
 | c::r,0=>by
   unfold StrLaws.replS
   have e:k * (c::r).length=k * r.length+k:=by rw [List.length_cons,Nat.mul_succ]
   split
   · have:=replS_len (y:=y) hz hk r (y.length-1)
     rw [List.length_append]
     omega
   · have:=replS_len (y:=y) hz hk r 0
     rw [List.length_cons]
     omega
 | c::r,s+1=>by
   have e:k * (c::r).length=k * r.length+k:=by rw [List.length_cons,Nat.mul_succ]
   have:=replS_len (y:=y) hz hk r s
   rw [e]
   unfold StrLaws.replS
   omega
theorem repl_len {x y z:Str} (hy:1≤y.length) (hz:z.length≤4):(Txt.replace x y z).length≤4 * x.length:=by
 have e:=congrArg List.length (StrLaws.replace_list (x:=x) (z:=z) hy)
 have h:=replS_len (y:=y.cps.toList) (z:=z.cps.toList) (k:=4) (by rw [Array.length_toList];exact hz) (by decide) x.cps.toList 0
 rw [Array.length_toList] at e h
 have e2:(Txt.replace x y z).length=(Txt.replace x y z).cps.size:=rfl
 have e3:x.length=x.cps.size:=rfl
 rw [e2,e3,e]
 exact h
theorem cutS_le (x:Str) (lo hi:Option Int):(cutS x lo hi).length≤x.length:=by
 have e:cutS x lo hi=S (cut (cs x) lo hi):=by rw [←cutS_S,S_cs]
 rw [e,S_len]
 have:=cs_len x
 unfold M3.cut
 rw [List.length_take,List.length_drop]
 omega
abbrev bst (p:Addr) (x:Str) (a b c:Sl):List Sl:=[.val (.ref p),.val (.str x),a,b,c]
section
variable {C:Cs} {p:Addr} {N:N3} {x:Str} {a b c:Sl}
theorem bt2 (hl:x.length≤1000000) (h:∀r:Int,N.nx (bst p x (.val (.int r)) b c)):asg3 (fnP30 p 2 take3 (cons3 (v3 0) (cons3 (op3 addP (call3 len3 (cons3 (v3 1) nil3)) (M3.k3 (.int 1))) nil3)) []) (name3 2) N (bst p x a b c):=by
 have hz:x.length≤sizeLine:=szBig (by omega)
 have h0:(0:Int)<(x.length:Int)+1:=by omega
 have h1:((x.length:Int)+1)<1606938044258990275541962092341162602522202993782792835301376:=Int.lt_of_le_of_lt (b:=10000000) (by omega) (by decide +kernel)
 simp [seq3,next3,ret3,retN3,ifs3,drop3,asg3,name3,tst3,and3,or3,not3,andV3,orV3,notV3,if3,v3,k3,op3,un3,nil3,cons3,call3,tup3,lst3,chain3,fn30,fn3,fnN30,fnN3,fnP30,i2,i2c,i1,isN3,notN3,eqS3,neS3,ixL3,ixT3,len3,all3,any3,abs3,max23,min23,isi3,isB3,truth3,start3,slot,flatT,scal,tyn,M3.isNon,lenT,truT,isiB,Option.bind,take3,kbs,addP,mulP,ixP,slP,eqP,neP,isSeq,iterP,itemsP,no3,part3,sl3,raise3,brk3,cont3,M3.ltP,M3.leP,M3.gtP,M3.geP,hz,h0]
 exact ⟨h1,fun r _ _=>h r⟩
theorem bt3 (hl:x.length≤1000000) (h:∀r:Int,N.nx (bst p x a (.val (.int r)) c)):asg3 (fnP30 p 2 take3 (cons3 (v3 0) (cons3 (op3 addP (call3 len3 (cons3 (v3 1) nil3)) (M3.k3 (.int 1))) nil3)) []) (name3 3) N (bst p x a b c):=by
 have hz:x.length≤sizeLine:=szBig (by omega)
 have h0:(0:Int)<(x.length:Int)+1:=by omega
 have h1:((x.length:Int)+1)<1606938044258990275541962092341162602522202993782792835301376:=Int.lt_of_le_of_lt (b:=10000000) (by omega) (by decide +kernel)
 simp [seq3,next3,ret3,retN3,ifs3,drop3,asg3,name3,tst3,and3,or3,not3,andV3,orV3,notV3,if3,v3,k3,op3,un3,nil3,cons3,call3,tup3,lst3,chain3,fn30,fn3,fnN30,fnN3,fnP30,i2,i2c,i1,isN3,notN3,eqS3,neS3,ixL3,ixT3,len3,all3,any3,abs3,max23,min23,isi3,isB3,truth3,start3,slot,flatT,scal,tyn,M3.isNon,lenT,truT,isiB,Option.bind,take3,kbs,addP,mulP,ixP,slP,eqP,neP,isSeq,iterP,itemsP,no3,part3,sl3,raise3,brk3,cont3,M3.ltP,M3.leP,M3.gtP,M3.geP,hz,h0]
 exact ⟨h1,fun r _ _=>h r⟩
theorem bt4 (h:∀r:Int,N.nx (bst p x a b (.val (.int r)))):asg3 (fnP30 p 2 take3 (cons3 (v3 0) (cons3 (M3.k3 (.int 8)) nil3)) []) (name3 4) N (bst p x a b c):=by
 simp [seq3,next3,ret3,retN3,ifs3,drop3,asg3,name3,tst3,and3,or3,not3,andV3,orV3,notV3,if3,v3,k3,op3,un3,nil3,cons3,call3,tup3,lst3,chain3,fn30,fn3,fnN30,fnN3,fnP30,i2,i2c,i1,isN3,notN3,eqS3,neS3,ixL3,ixT3,len3,all3,any3,abs3,max23,min23,isi3,isB3,truth3,start3,slot,flatT,scal,tyn,M3.isNon,lenT,truT,isiB,Option.bind,take3,kbs,addP,mulP,ixP,slP,eqP,neP,isSeq,iterP,itemsP,no3,part3,sl3,raise3,brk3,cont3,M3.ltP,M3.leP,M3.gtP,M3.geP]
 exact fun r _ _=>h r
theorem ifk {k j:Int} {t:S3} (h1:t N (bst p x a b (.val (.int k)))) (h2:N.nx (bst p x a b (.val (.int k)))):ifs3 (tst3 (op3 eqP (v3 4) (M3.k3 (.int j)))) t next3 N (bst p x a b (.val (.int k))):=by
 by_cases e:k=j
 · refine ifs_t (fun Q X z=> ?_) h1
   simp [seq3,next3,ret3,retN3,ifs3,drop3,asg3,name3,tst3,and3,or3,not3,andV3,orV3,notV3,if3,v3,k3,op3,un3,nil3,cons3,call3,tup3,lst3,chain3,fn30,fn3,fnN30,fnN3,fnP30,i2,i2c,i1,isN3,notN3,eqS3,neS3,ixL3,ixT3,len3,all3,any3,abs3,max23,min23,isi3,isB3,truth3,start3,slot,flatT,scal,tyn,M3.isNon,lenT,truT,isiB,Option.bind,take3,kbs,addP,mulP,ixP,slP,eqP,neP,isSeq,iterP,itemsP,no3,part3,sl3,raise3,brk3,cont3,M3.ltP,M3.leP,M3.gtP,M3.geP,e]
   exact z
 · refine ifs_n (fun Q X z=> ?_) h2
   simp [seq3,next3,ret3,retN3,ifs3,drop3,asg3,name3,tst3,and3,or3,not3,andV3,orV3,notV3,if3,v3,k3,op3,un3,nil3,cons3,call3,tup3,lst3,chain3,fn30,fn3,fnN30,fnN3,fnP30,i2,i2c,i1,isN3,notN3,eqS3,neS3,ixL3,ixT3,len3,all3,any3,abs3,max23,min23,isi3,isB3,truth3,start3,slot,flatT,scal,tyn,M3.isNon,lenT,truT,isiB,Option.bind,take3,kbs,addP,mulP,ixP,slP,eqP,neP,isSeq,iterP,itemsP,no3,part3,sl3,raise3,brk3,cont3,M3.ltP,M3.leP,M3.gtP,M3.geP,e]
   exact z
end
end Law
set_option maxHeartbeats 400000
namespace Law
open PySem L2 M3
section
variable {C:Cs} {p:Addr} {x:Str}
theorem bent_ok (hl:x.length≤600000) (Q:T→Prop) (X:X3) (h:∀z:Str,z.length≤5 * x.length+40→Q (.str z)):Lbent C [.ref p,.str x] Q X:=by
 have hz:x.length≤sizeLine:=szBig (by omega)
 have cl:=cutS_le x
 have ad:∀lo hi lo' hi',(cutS x lo hi).length+(cutS x lo' hi').length≤sizeLine:=fun lo hi lo' hi'=>szBig (by have:=cl lo hi;have:=cl lo' hi';omega)
 have res:∀lo hi lo' hi',Q (.str (cutS x lo hi++cutS x lo' hi')):=fun lo hi lo' hi'=>h _ (by rw [Str.length_append];have:=cl lo hi;have:=cl lo' hi';omega)
 rw [Lbent_def]
 show LbentB C p {nx:=fun _=>Q .non,rt:=Q,xn:=fun _=>X} (bst p x .no .no .no)
 unfold LbentB
 refine seq_of (bt2 (by omega) fun i=> ?_)
 dsimp only
 refine seq_of (bt3 (by omega) fun j=> ?_)
 dsimp only
 refine seq_of (bt4 fun k=> ?_)
 dsimp only
 refine seq_of (ifk ?_ ?_)
 · simp [seq3,next3,ret3,retN3,ifs3,drop3,asg3,name3,tst3,and3,or3,not3,andV3,orV3,notV3,if3,v3,k3,op3,un3,nil3,cons3,call3,tup3,lst3,chain3,fn30,fn3,fnN30,fnN3,fnP30,i2,i2c,i1,isN3,notN3,eqS3,neS3,ixL3,ixT3,len3,all3,any3,abs3,max23,min23,isi3,isB3,truth3,start3,slot,flatT,scal,tyn,M3.isNon,lenT,truT,isiB,Option.bind,take3,kbs,addP,mulP,ixP,slP,eqP,neP,isSeq,iterP,itemsP,no3,part3,sl3,raise3,brk3,cont3,M3.ltP,M3.leP,M3.gtP,M3.geP,hz,ad]
   exact res _ _ _ _
 dsimp only
 refine seq_of (ifk ?_ ?_)
 · have l1:("(), .-0a9 \n":Str).length=11:=by decide +kernel
   have l2:("(), .-0a9 \n":Str).cps.toList.length=11:=by decide +kernel
   have l3:("(), .-0a9 \n":Str).length≤sizeLine:=szBig (by omega)
   have at1:∀r:Int,0≤r→r<11→∃c,L2.atI ("(), .-0a9 \n":Str).cps.toList r=some c:=fun r r0 r1=>by
    unfold L2.atI L2.ixN
    rw [if_pos r0,if_pos (by omega)]
    exact ⟨_,List.getElem?_eq_getElem (by omega)⟩
   generalize ("(), .-0a9 \n":Str)=y at *
   have b1:∀c:Nat,(cutS x none (some i)).length+Str.length ⟨#[c]⟩≤sizeLine:=fun c=>szBig (by have:=cl none (some i);have:Str.length ⟨#[c]⟩=1:=rfl;omega)
   have b2:∀c:Nat,(cutS x none (some i)++⟨#[c]⟩:Str).length+(cutS x (some i) none).length≤sizeLine:=fun c=>szBig (by rw [Str.length_append];have:=cl none (some i);have:=cl (some i) none;have:Str.length ⟨#[c]⟩=1:=rfl;omega)
   simp [seq3,next3,ret3,retN3,ifs3,drop3,asg3,name3,tst3,and3,or3,not3,andV3,orV3,notV3,if3,v3,k3,op3,un3,nil3,cons3,call3,tup3,lst3,chain3,fn30,fn3,fnN30,fnN3,fnP30,i2,i2c,i1,isN3,notN3,eqS3,neS3,ixL3,ixT3,len3,all3,any3,abs3,max23,min23,isi3,isB3,truth3,start3,slot,flatT,scal,tyn,M3.isNon,lenT,truT,isiB,Option.bind,take3,kbs,addP,mulP,ixP,slP,eqP,neP,isSeq,iterP,itemsP,no3,part3,sl3,raise3,brk3,cont3,M3.ltP,M3.leP,M3.gtP,M3.geP,hz,l3]
   intro r r0 r1
   obtain ⟨c,ec⟩:=at1 r r0 r1
   rw [ec]
   simp [b1,b2]
   exact h _ (by rw [Str.length_append,Str.length_append];have:=cl none (some i);have:=cl (some i) none;have:Str.length ⟨#[c]⟩=1:=rfl;omega)
 dsimp only
 refine seq_of (ifk ?_ ?_)
 · simp [seq3,next3,ret3,retN3,ifs3,drop3,asg3,name3,tst3,and3,or3,not3,andV3,orV3,notV3,if3,v3,k3,op3,un3,nil3,cons3,call3,tup3,lst3,chain3,fn30,fn3,fnN30,fnN3,fnP30,i2,i2c,i1,isN3,notN3,eqS3,neS3,ixL3,ixT3,len3,all3,any3,abs3,max23,min23,isi3,isB3,truth3,start3,slot,flatT,scal,tyn,M3.isNon,lenT,truT,isiB,Option.bind,take3,kbs,addP,mulP,ixP,slP,eqP,neP,isSeq,iterP,itemsP,no3,part3,sl3,raise3,brk3,cont3,M3.ltP,M3.leP,M3.gtP,M3.geP,hz,ad]
   exact res _ _ _ _
 dsimp only
 have rep:∀(y:Str) (z0 z1 z2:Str),1≤y.length→z0.length≤4→z1.length≤4→z2.length≤4→∀(σ:List Sl) (X:X3),σ[0]? =some (.val (.ref p))→σ[1]? =some (.val (.str x))→replI3 y [z0,z1,z2] (v3 1) (fnP30 p 2 take3 (cons3 (v3 0) (cons3 (M3.k3 (.int 3)) nil3)) []) σ Q X:=fun y z0 z1 z2 hy h0 h1 h2 σ X e0 e1=>by
  have rl:∀z:Str,z.length≤4→x.length+(x.length+1) * z.length≤16777216∧Q (.str (Txt.replace x y z)):=fun z hz4=>by
   have b:=repl_len (x:=x) hy hz4
   refine ⟨?_,h _ (by omega)⟩
   have:(x.length+1) * z.length≤(x.length+1) * 4:=Nat.mul_le_mul_left _ hz4
   omega
  simp [replI3,v3,slot,e0,e1,asS,fnP30,cons3,nil3,M3.k3,take3,two,asI]
  intro r r0 r1
  refine ⟨r0, ?_⟩
  have:r=0∨r=1∨r=2:=by omega
  rcases this with e | e | e<;>subst e
  · exact rl z0 h0
  · exact rl z1 h1
  · exact rl z2 h2
 refine seq_of (ifk (rep _ _ _ _ (by decide +kernel) (by decide +kernel) (by decide +kernel) (by decide +kernel) _ _ rfl rfl) ?_)
 dsimp only
 refine seq_of (ifk ?_ ?_)
 · have lt:∀y:Str,y.length≤1→(y.length+x.length≤sizeLine∧x.length+y.length≤sizeLine)∧Q (.str (y++x))∧Q (.str (x++y)):=fun y hy=>
    ⟨⟨szBig (by omega),szBig (by omega)⟩,h _ (by rw [Str.length_append];omega),h _ (by rw [Str.length_append];omega)⟩
   have o1:=lt "(" (by decide +kernel)
   have o2:=lt ")" (by decide +kernel)
   have o3:=lt " " (by decide +kernel)
   have o4:=lt "+" (by decide +kernel)
   have o5:=lt "0" (by decide +kernel)
   have lo:("(":Str).length=1:=by decide +kernel
   have lc:(")":Str).length=1:=by decide +kernel
   have o6:("("++x:Str).length+(")":Str).length≤sizeLine∧Q (.str ("("++x++")")):=⟨szBig (by rw [Str.length_append];omega),h _ (by rw [Str.length_append,Str.length_append];omega)⟩
   have s6:6≤sizeLine:=by decide
   generalize ("(":Str)=y1 at *
   generalize (")":Str)=y2 at *
   generalize (" ":Str)=y3 at *
   generalize ("+":Str)=y4 at *
   generalize ("0":Str)=y5 at *
   simp [seq3,next3,ret3,retN3,ifs3,drop3,asg3,name3,tst3,and3,or3,not3,andV3,orV3,notV3,if3,v3,k3,op3,un3,nil3,cons3,call3,tup3,lst3,chain3,fn30,fn3,fnN30,fnN3,fnP30,i2,i2c,i1,isN3,notN3,eqS3,neS3,ixL3,ixT3,len3,all3,any3,abs3,max23,min23,isi3,isB3,truth3,start3,slot,flatT,scal,tyn,M3.isNon,lenT,truT,isiB,Option.bind,take3,kbs,addP,mulP,ixP,slP,eqP,neP,isSeq,iterP,itemsP,no3,part3,sl3,raise3,brk3,cont3,M3.ltP,M3.leP,M3.gtP,M3.geP,s6,o1.1.1,o2.1.2,o3.1.1,o3.1.2,o4.1.1,o5.1.1,o6.1]
   intro r r0 r1
   have:r=0∨r=1∨r=2∨r=3∨r=4∨r=5:=by omega
   rcases this with e | e | e | e | e | e<;>subst e
   · exact o6.2
   · exact o2.2.2
   · exact o3.2.1
   · exact o3.2.2
   · exact o4.2.1
   · exact o5.2.1
 dsimp only
 refine seq_of (ifk (rep _ _ _ _ (by decide +kernel) (by decide +kernel) (by decide +kernel) (by decide +kernel) _ _ rfl rfl) ?_)
 dsimp only
 refine seq_of (ifk ?_ ?_)
 · have lt:∀y:Str,y.length≤40→Q (.str y):=fun y hy=>h _ (by omega)
   have s8:8≤sizeLine:=by decide
   have m1:("9":Str).length=1:=by decide +kernel
   have q0:=lt "" (by decide +kernel)
   have q1:=lt "gap" (by decide +kernel)
   have q2:=lt "yes" (by decide +kernel)
   have q3:=lt "yes()" (by decide +kernel)
   have q4:=lt "-0" (by decide +kernel)
   have q5:=lt "not(yes, yes)" (by decide +kernel)
   have q6:Q (.str (Txt.mul "9" 30)):=lt _ (by decide +kernel)
   have q7:Q (.str (Txt.mul "9" 31)):=lt _ (by decide +kernel)
   have m2:("9":Str).length≤1000:=by omega
   generalize ("9":Str)=y9 at *
   generalize ("":Str)=y0 at *
   generalize ("gap":Str)=y1 at *
   generalize ("yes":Str)=y2 at *
   generalize ("yes()":Str)=y3 at *
   generalize ("-0":Str)=y4 at *
   generalize ("not(yes, yes)":Str)=y5 at *
   simp [seq3,next3,ret3,retN3,ifs3,drop3,asg3,name3,tst3,and3,or3,not3,andV3,orV3,notV3,if3,v3,k3,op3,un3,nil3,cons3,call3,tup3,lst3,chain3,fn30,fn3,fnN30,fnN3,fnP30,i2,i2c,i1,isN3,notN3,eqS3,neS3,ixL3,ixT3,len3,all3,any3,abs3,max23,min23,isi3,isB3,truth3,start3,slot,flatT,scal,tyn,M3.isNon,lenT,truT,isiB,Option.bind,take3,kbs,addP,mulP,ixP,slP,eqP,neP,isSeq,iterP,itemsP,no3,part3,sl3,raise3,brk3,cont3,M3.ltP,M3.leP,M3.gtP,M3.geP,s8,repS3,m2]
   intro r r0 r1
   have:r=0∨r=1∨r=2∨r=3∨r=4∨r=5∨r=6∨r=7:=by omega
   rcases this with e | e | e | e | e | e | e | e<;>subst e
   · exact q0
   · exact q1
   · exact q2
   · exact q3
   · exact q4
   · exact q5
   · exact q6
   · exact q7
 · simp [seq3,next3,ret3,retN3,ifs3,drop3,asg3,name3,tst3,and3,or3,not3,andV3,orV3,notV3,if3,v3,k3,op3,un3,nil3,cons3,call3,tup3,lst3,chain3,fn30,fn3,fnN30,fnN3,fnP30,i2,i2c,i1,isN3,notN3,eqS3,neS3,ixL3,ixT3,len3,all3,any3,abs3,max23,min23,isi3,isB3,truth3,start3,slot,flatT,scal,tyn,M3.isNon,lenT,truT,isiB,Option.bind,take3,kbs,addP,mulP,ixP,slP,eqP,neP,isSeq,iterP,itemsP,no3,part3,sl3,raise3,brk3,cont3,M3.ltP,M3.leP,M3.gtP,M3.geP]
   exact h x (by omega)
end
end Law
set_option maxHeartbeats 400000
namespace Law
open PySem L2 M3
theorem plainL_all:∀ {xs:List T},(∀x∈xs,plain x=true)→plainL xs=true
 | [],_=>by simp [plainL]
 | y::ys,h=>by
   unfold plainL
   rw [h y (List.mem_cons_self ..),plainL_all fun x hx=>h x (List.mem_cons_of_mem _ hx)]
   rfl
theorem zip_all {f:Bool→T→Bool}:∀(ks:List Bool) (ps:List T),ps.length=ks.length→((List.zip ks ps).all fun p=>f p.1 p.2)=true→∀p∈ps,∃k,f k p=true
 | [],[],_,_,p,hp=>by cases hp
 | [],_::_,h,_,_,_=>by cases h
 | _::_,[],h,_,_,_=>by cases h
 | k::ks,q::ps,h,ha,p,hp=>by
   rw [List.zip_cons_cons,List.all_cons,Bool.and_eq_true] at ha
   rcases List.mem_cons.mp hp with e | hp
   · exact ⟨k,by rw [e];exact ha.1⟩
   · exact zip_all ks ps (by simpa using h) ha.2 p hp
theorem tup_plain {x:Str} {ps:List T} (hl:ps.length≤3) (h:∀p∈ps,plain p=true):plain (.tup (.str x::ps))=true:=by
 unfold plain
 rw [Bool.and_eq_true]
 refine ⟨decide_eq_true (by simp only [List.length_cons];omega),plainL_all fun y hy=> ?_⟩
 rcases List.mem_cons.mp hy with e | hy
 · rw [e];simp [plain]
 · exact h y hy
theorem sorts_plain {n:Nat} {b:Bool} {x:Str} {ps:List T} (ih:∀b t,fitB n b t=true→plain t=true) (h:(match sortOf b x with | none=>false | some ks=>decide (ps.length=ks.length)&&(List.zip ks ps).all fun p=>fitB n p.1 p.2)=true):plain (.tup (.str x::ps))=true:=by
 cases hs:sortOf b x with
 | none=>rw [hs] at h;cases h
 | some ks=>
   rw [hs] at h
   dsimp only at h
   rw [Bool.and_eq_true] at h
   have hl:=of_decide_eq_true h.1
   have h3:=sort_len hs
   exact tup_plain (by omega) fun p hp=>by
    obtain ⟨k,e⟩:=zip_all ks ps hl h.2 p hp
    exact ih k p e
theorem fit_plain:∀(n:Nat) (b:Bool) (t:T),fitB n b t=true→plain t=true
 | 0,b,t,h=>by simp [fitB] at h
 | n+1,b,.tup (.str x::ps),h=>by
   have ih:=fit_plain n
   unfold fitB at h
   cases b with
   | false=>
     rw [if_pos rfl] at h
     by_cases h1:x="cell"
     · rw [if_pos h1] at h
       match ps,h with
       | [v],h=>
         refine tup_plain (by simp) fun p hp=> ?_
         cases List.mem_singleton.mp hp
         cases v<;>simp [isCellB,plain] at h ⊢
     · rw [if_neg h1] at h
       by_cases h2:x="old"∨x="new"
       · rw [if_pos h2] at h
         match ps,h with
         | [v],h=>
           refine tup_plain (by simp) fun p hp=> ?_
           cases List.mem_singleton.mp hp
           cases v<;>simp [isStrB,plain] at h ⊢
       · rw [if_neg h2] at h
         exact sorts_plain ih h
   | true=>
     rw [if_neg (by decide)] at h
     by_cases h1:x="yes"
     · rw [if_pos h1] at h
       have e:ps=[]:=by simpa using h
       subst e
       exact tup_plain (by simp) fun p hp=>by cases hp
     · rw [if_neg h1] at h
       exact sorts_plain ih h
 | n+1,b,.tup [],h=>by simp [fitB] at h
 | n+1,b,.non,h=>by simp [fitB] at h
 | n+1,b,.bl _,h=>by simp [fitB] at h
 | n+1,b,.int _,h=>by simp [fitB] at h
 | n+1,b,.str _,h=>by simp [fitB] at h
 | n+1,b,.ty _,h=>by simp [fitB] at h
 | n+1,b,.ref _,h=>by simp [fitB] at h
 | n+1,b,.lst _,h=>by simp [fitB] at h
 | n+1,b,.dic _,h=>by simp [fitB] at h
 | n+1,b,.ins _ _,h=>by simp [fitB] at h
 | n+1,b,.kd _ _,h=>by simp [fitB] at h
 | n+1,b,.tup (.non::_),h=>by simp [fitB] at h
 | n+1,b,.tup (.bl _::_),h=>by simp [fitB] at h
 | n+1,b,.tup (.int _::_),h=>by simp [fitB] at h
 | n+1,b,.tup (.ty _::_),h=>by simp [fitB] at h
 | n+1,b,.tup (.ref _::_),h=>by simp [fitB] at h
 | n+1,b,.tup (.lst _::_),h=>by simp [fitB] at h
 | n+1,b,.tup (.tup _::_),h=>by simp [fitB] at h
 | n+1,b,.tup (.dic _::_),h=>by simp [fitB] at h
 | n+1,b,.tup (.ins _ _::_),h=>by simp [fitB] at h
 | n+1,b,.tup (.kd _ _::_),h=>by simp [fitB] at h
theorem rd_plain {n:Nat} {b:Bool} {l:List Nat} {t:T} (h:rd n b l=some t):plain t=true∧dep t≤n:=
 ⟨fit_plain n b t (rd_rw' h).2,rw_dep n l t (rd_rw' h).1⟩
end Law
set_option maxHeartbeats 400000
namespace Law
open PySem L2 M3
theorem nm_fine {b:Str} {a c d k:Int} (hb:b.length≤7) (lb:lts b):fine (nm b a c d k):=by
 have z1:(c+d * k) % 26<26:=Int.emod_lt_of_pos _ (by decide)
 have z0:0≤(c+d * k) % 26:=Int.emod_nonneg _ (by decide)
 have lc:∀lo hi,∀x∈cs (cutS b lo hi),97≤x∧x≤122:=fun lo hi x hx=>by
  have e:cutS b lo hi=S (cut (cs b) lo hi):=by rw [←cutS_S,S_cs]
  rw [e] at hx
  exact lb x (mem_cut hx)
 have e1:cutS b none (some a)=S (cut (cs b) none (some a)):=by rw [←cutS_S,S_cs]
 have e2:cutS b (some a) none=S (cut (cs b) (some a) none):=by rw [←cutS_S,S_cs]
 have l7:(cutS b none (some a)).length+(cutS b (some a) none).length≤7:=by
  rw [e1,e2,S_len,S_len]
  have hl:=cs_len b
  unfold M3.cut
  generalize cs b=l at *
  simp only [HT.sIx,List.length_take,List.length_drop]
  split<;>omega
 have z2:∀c:Nat,(Str.length ⟨#[c]⟩)=1:=fun _=>rfl
 refine ⟨fun x hx=> ?_, ?_, ?_⟩
 · rw [nm,cs_app,cs_app] at hx
   rcases List.mem_append.mp hx with hx | hx
   · rcases List.mem_append.mp hx with hx | hx
     · exact lc _ _ x hx
     · have:x=97+((c+d * k) % 26).toNat:=by simpa using hx
       omega
   · exact lc _ _ x hx
 · simp only [nm,Str.length_append,z2];omega
 · simp only [nm,Str.length_append,z2];omega
theorem same12 (C:Cs) {x y:T} {Q:T→Prop} {X:X3} (h1:plain x=true) (h2:plain y=true) (h3:dep y<12):Lsame C 12 [x,y] Q X=Q (.bl (sameT x y)):=same_ok C 12 x y Q X h1 h2 h3
theorem same_self (C:Cs) {x:T} {Q:T→Prop} {X:X3} (h1:plain x=true) (h3:dep x<12):Lsame C 12 [x,x] Q X=Q (.bl true):=by
 rw [same12 C h1 h1 h3,sameT_refl x h1]
def dueR (o:Option T):T:=if o.isSome=true then .tup [.str "none"] else .tup [.str "BadText",.int 0]
theorem why_bad {C:Cs} (ok:CsOk C) (Q:T→Prop) (q:Q (.tup [.str "BadText",.int 0])):whyX5 C.em (BT C) Q (whyT C):=by
 have:=ok.e_BadText_BadText
 simp [whyX5,whyT,BT,this,getFs,List.lookup]
 exact q
theorem why_rv {C:Cs} (ok:CsOk C) {l:List Nat} (hl:l.length≤1000000) (Q:T→Prop) (q:Q (dueR (rd 8 false l))):read_value C [.str (S l)] (fun _=>Q (.tup [.str "none"])) (fun x=>whyX5 C.em x Q (whyT C)):=by
 refine read_value_ok C hl _ _ (fun t e=> ?_) fun e=> ?_
 · rw [e] at q;exact q
 · rw [e] at q;exact why_bad ok Q q
theorem why_rt {C:Cs} (ok:CsOk C) {l:List Nat} (hl:l.length≤1000000) (Q:T→Prop) (q:Q (dueR (rd 8 true l))):read_truth C [.str (S l)] (fun _=>Q (.tup [.str "none"])) (fun x=>whyX5 C.em x Q (whyT C)):=by
 refine read_truth_ok C hl _ _ (fun t e=> ?_) fun e=> ?_
 · rw [e] at q;exact q
 · rw [e] at q;exact why_bad ok Q q
abbrev st (p:Addr) (NM:List Str) (a3 a4 a5 a6 a7 a8 a9 a10 a11:Sl):List Sl:=[.no,.val (.ref p),.val (.lst (texts NM)),a3,a4,a5,a6,a7,a8,a9,a10,a11]
section
variable {C:Cs} {p:Addr} {N:N3} {NM:List Str} {a3 a4 a5 a6 a7 a8 a9 a10 a11:Sl}
theorem wraps {nx:List Sl→Prop} {B:Nat} (hB:B≤100000):∀(ds:List T) (x:Str) (a6:Sl),x.length+10 * ds.length≤B→(∀(x:Str) a6,x.length≤B→nx (st p NM a3 a4 (.val (.str x)) a6 a7 a8 a9 a10 a11))→
 loop3 (name3 6) (law_2b_4b C p) {N with nx:=nx} ds (st p NM a3 a4 (.val (.str x)) a6 a7 a8 a9 a10 a11)
 | [],x,a6,hd,h=>h x a6 (by omega)
 | d::ds,x,a6,hd,h=>by
   simp only [List.length_cons] at hd
   have n1:("not(":Str).length=4:=by decide +kernel
   have n2:(")":Str).length=1:=by decide +kernel
   have n3:("least(":Str).length=6:=by decide +kernel
   have n4:(", 0)":Str).length=4:=by decide +kernel
   have i1:=wraps (nx:=nx) hB ds ("not("++x++")") (.val d) (by rw [Str.length_append,Str.length_append];omega) h
   have i2:=wraps (nx:=nx) hB ds ("least("++x++", 0)") (.val d) (by rw [Str.length_append,Str.length_append];omega) h
   have s1:("not(":Str).length+x.length≤sizeLine:=szBig (by omega)
   have s2:("not("++x:Str).length+(")":Str).length≤sizeLine:=szBig (by rw [Str.length_append];omega)
   have s3:("least(":Str).length+x.length≤sizeLine:=szBig (by omega)
   have s4:("least("++x:Str).length+(", 0)":Str).length≤sizeLine:=szBig (by rw [Str.length_append];omega)
   show law_2b_4b C p {nx:=loop3 (name3 6) (law_2b_4b C p) {N with nx:=nx} ds,ct:=loop3 (name3 6) (law_2b_4b C p) {N with nx:=nx} ds,bk:=nx,rt:=N.rt,xn:=N.xn} (st p NM a3 a4 (.val (.str x)) (.val d) a7 a8 a9 a10 a11)
   generalize loop3 (name3 6) (law_2b_4b C p) {N with nx:=nx} ds=L at i1 i2 ⊢
   simp [law_2b_4b,law_2b_4b_1,seq3,next3,ret3,retN3,ifs3,drop3,asg3,name3,tst3,and3,or3,not3,andV3,orV3,notV3,if3,v3,k3,op3,un3,nil3,cons3,call3,tup3,lst3,chain3,fn30,fn3,fnN30,fnN3,fnP30,i2,i2c,i1,isN3,notN3,eqS3,neS3,ixL3,ixT3,len3,all3,any3,abs3,max23,min23,isi3,isB3,truth3,start3,slot,flatT,scal,tyn,M3.isNon,lenT,truT,isiB,Option.bind,take3,kbs,addP,mulP,ixP,slP,eqP,neP,isSeq,iterP,itemsP,no3,part3,sl3,raise3,brk3,cont3,M3.ltP,M3.leP,M3.gtP,M3.geP]
   intro r r0 r1
   by_cases hr:0<r
   · simp [hr]
     refine ⟨?_, ?_⟩
     · first | exact s2 | exact s1 | exact ⟨s1,s2⟩
     · first | exact i1 | exact s2 | exact s1
   · simp [hr]
     refine ⟨?_, ?_⟩
     · first | exact s4 | exact s3 | exact ⟨s3,s4⟩
     · first | exact i2 | exact s4 | exact s3
theorem bents {nx:List Sl→Prop}:∀(ds:List T) (x:Str) (a7:Sl) (m:Nat),ds.length≤m→x.length≤(match m with | 0=>600000 | 1=>100100 | _=>20000)→m≤2→(∀(x:Str) a7,x.length≤600000→nx (st p NM a3 a4 (.val (.str x)) a6 a7 a8 a9 a10 a11))→
 loop3 (name3 7) (law_2b_5b C p) {N with nx:=nx} ds (st p NM a3 a4 (.val (.str x)) a6 a7 a8 a9 a10 a11)
 | [],x,a7,m,_,hx,hm,h=>h x a7 (by
    have:m=0∨m=1∨m=2:=by omega
    rcases this with e | e | e<;>subst e<;>first | omega | (simp at hx;omega))
 | d::ds,x,a7,0,hl,_,_,_=>by simp at hl
 | d::ds,x,a7,m+1,hl,hx,hm,h=>by
   simp only [List.length_cons] at hl
   have hx6:x.length≤600000:=by
    have:m=0∨m=1:=by omega
    rcases this with e | e<;>subst e<;>first | omega | (simp at hx;omega)
   have ih:=fun z (hz:(z:Str).length≤5 * x.length+40)=>bents (nx:=nx) ds z (.val d) m (by omega) (by
    have:m=0∨m=1:=by omega
    rcases this with e | e<;>subst e<;>first | omega | (simp at hx ⊢;omega)) (by omega) h
   exact ⟨rfl,rfl,bent_ok hx6 _ _ fun z hz=>ih z hz⟩
end
end Law
set_option maxHeartbeats 400000
namespace Law
open PySem L2 M3
theorem lows_sg {x:Str} (h:fine x):sg x∧x.length≤1000:=⟨by have z:=sg_low (l:=cs x) (fun c hc=>(h.1 c hc).2);rw [S_cs] at z;exact z,by have:=h.2.2;omega⟩
theorem range_len (r:Int):(rangeT 0 r.toNat).length=r.toNat:=by simp [rangeT]
abbrev vo (o:Option T):T:=o.getD .non
section
variable {C:Cs} {p:Addr} {N:N3} {NM:List Str} {a3 a4 a5 a6 a7 a8 a9 a10 a11:Sl}
theorem turn (ok:CsOk C) (hN:nms NM) (hF:fines NM) (hx:∀a4 a5 a6 a7 a8 a9 a10,N.nx (st p NM a3 a4 a5 a6 a7 a8 a9 a10 .no)):law_2b C p N (st p NM a3 a4 a5 a6 a7 a8 a9 a10 .no):=by
 have F:Fit8 NM NM:=⟨hF,hF⟩
 have dr:=draws_ok (C:=C) (p:=p) hN hN 4 12 (by decide)
 unfold VD TD at dr
 unfold law_2b
 refine seq_by (fun σ'=>∃w:Wd false,w.ok NM NM∧w.dp≤5∧σ'=st p NM a3 (.val w.tr) a5 a6 a7 a8 a9 a10 .no) (fun nx hx=> ?_) ?_
 · unfold law_2b_1
   generalize Lvalue C 12=g at dr ⊢
   simp [seq3,next3,ret3,retN3,ifs3,drop3,asg3,name3,tst3,and3,or3,not3,andV3,orV3,notV3,if3,v3,k3,op3,un3,nil3,cons3,call3,tup3,lst3,chain3,fn30,fn3,fnN30,fnN3,fnP30,i2,i2c,i1,isN3,notN3,eqS3,neS3,ixL3,ixT3,len3,all3,any3,abs3,max23,min23,isi3,isB3,truth3,start3,slot,flatT,scal,tyn,M3.isNon,lenT,truT,isiB,Option.bind,take3,kbs,addP,mulP,ixP,slP,eqP,neP,isSeq,iterP,itemsP,no3,part3,sl3,raise3,brk3,cont3,M3.ltP,M3.leP,M3.gtP,M3.geP]
   exact fun r h0 h1=>dr.1 _ _ _ (by omega) fun w hw hd=>hx _ ⟨w,hw,hd,rfl⟩
 rintro σ' ⟨w0,hw0,hd0,rfl⟩
 refine seq_by (fun σ'=>∃(b:Bool) (w:Wd b),w.ok NM NM∧w.dp≤5∧σ'=st p NM a3 (.val w.tr) a5 a6 a7 a8 a9 a10 .no) (fun nx hx=> ?_) ?_
 · unfold law_2b_2 law_2b_2t_1
   have k0:=hx _ ⟨false,w0,hw0,hd0,rfl⟩
   generalize Ltruth C 12=g at dr ⊢
   simp [seq3,next3,ret3,retN3,ifs3,drop3,asg3,name3,tst3,and3,or3,not3,andV3,orV3,notV3,if3,v3,k3,op3,un3,nil3,cons3,call3,tup3,lst3,chain3,fn30,fn3,fnN30,fnN3,fnP30,i2,i2c,i1,isN3,notN3,eqS3,neS3,ixL3,ixT3,len3,all3,any3,abs3,max23,min23,isi3,isB3,truth3,start3,slot,flatT,scal,tyn,M3.isNon,lenT,truT,isiB,Option.bind,take3,kbs,addP,mulP,ixP,slP,eqP,neP,isSeq,iterP,itemsP,no3,part3,sl3,raise3,brk3,cont3,M3.ltP,M3.leP,M3.gtP,M3.geP]
   intro r r0 r1
   by_cases hr:r=0
   · simp [hr]
     exact fun r h0 h1=>dr.2 _ _ _ (by omega) fun w hw hd=>hx _ ⟨true,w,hw,hd,rfl⟩
   · simp [hr]
     exact k0
 rintro σ' ⟨b,w,hw,hd,rfl⟩
 have e3:=fun Q X=>written_eq C F 12 w Q X (by omega) (by omega) hw
 have wl:=wC_len F.o F.n 5 w hd hw
 refine seq_by (fun σ'=>∃x:Str,x.length≤17000∧σ'=st p NM a3 (.val w.tr) (.val (.str x)) a6 a7 a8 a9 a10 .no) (fun nx hx=> ?_) ?_
 · have k0:=hx _ ⟨S (wC w),by rw [S_len];omega,rfl⟩
   unfold law_2b_3
   generalize Lwritten C 12=g at e3 ⊢
   simp [seq3,next3,ret3,retN3,ifs3,drop3,asg3,name3,tst3,and3,or3,not3,andV3,orV3,notV3,if3,v3,k3,op3,un3,nil3,cons3,call3,tup3,lst3,chain3,fn30,fn3,fnN30,fnN3,fnP30,i2,i2c,i1,isN3,notN3,eqS3,neS3,ixL3,ixT3,len3,all3,any3,abs3,max23,min23,isi3,isB3,truth3,start3,slot,flatT,scal,tyn,M3.isNon,lenT,truT,isiB,Option.bind,take3,kbs,addP,mulP,ixP,slP,eqP,neP,isSeq,iterP,itemsP,no3,part3,sl3,raise3,brk3,cont3,M3.ltP,M3.leP,M3.gtP,M3.geP,e3]
   exact k0
 rintro σ' ⟨x,hxl,rfl⟩
 refine seq_by (fun σ'=>∃(x:Str) (a6:Sl),x.length≤20000∧σ'=st p NM a3 (.val w.tr) (.val (.str x)) a6 a7 a8 a9 a10 .no) (fun nx hx=> ?_) ?_
 · unfold law_2b_4
   refine for_by (fun ds=>ds.length≤8) (fun Q X hd=> ?_) fun ds hl=> ?_
   · simp [seq3,next3,ret3,retN3,ifs3,drop3,asg3,name3,tst3,and3,or3,not3,andV3,orV3,notV3,if3,v3,k3,op3,un3,nil3,cons3,call3,tup3,lst3,chain3,fn30,fn3,fnN30,fnN3,fnP30,i2,i2c,i1,isN3,notN3,eqS3,neS3,ixL3,ixT3,len3,all3,any3,abs3,max23,min23,isi3,isB3,truth3,start3,slot,flatT,scal,tyn,M3.isNon,lenT,truT,isiB,Option.bind,take3,kbs,addP,mulP,ixP,slP,eqP,neP,isSeq,iterP,itemsP,no3,part3,sl3,raise3,brk3,cont3,M3.ltP,M3.leP,M3.gtP,M3.geP,iterR3,one]
     intro r r0 r1
     refine ⟨by decide,fun j j0 j1=> ?_⟩
     have fin:∀i:Int,0≤i→i≤8→ -4611686018427387904≤i∧i<4611686018427387904∧Q (rangeT 0 i.toNat):=fun i i0 i1=>⟨by omega,by omega,hd _ (by rw [range_len];omega)⟩
     have:j=0∨j=1∨j=2:=by omega
     rcases this with e | e | e<;>subst e
     · exact fin 0 (by decide) (by decide)
     · exact fin 0 (by decide) (by decide)
     · exact fin r r0 (by omega)
   · exact wraps (B:=20000) (by decide) ds x _ (by omega) fun x a6 h=>hx _ ⟨x,a6,h,rfl⟩
 rintro σ' ⟨x,b6,hxl,rfl⟩
 refine seq_by (fun σ'=>∃(x:Str) (a7:Sl),x.length≤600000∧σ'=st p NM a3 (.val w.tr) (.val (.str x)) b6 a7 a8 a9 a10 .no) (fun nx hx=> ?_) ?_
 · unfold law_2b_5
   refine for_by (fun ds=>ds.length≤2) (fun Q X hd=> ?_) fun ds hl=> ?_
   · simp [seq3,next3,ret3,retN3,ifs3,drop3,asg3,name3,tst3,and3,or3,not3,andV3,orV3,notV3,if3,v3,k3,op3,un3,nil3,cons3,call3,tup3,lst3,chain3,fn30,fn3,fnN30,fnN3,fnP30,i2,i2c,i1,isN3,notN3,eqS3,neS3,ixL3,ixT3,len3,all3,any3,abs3,max23,min23,isi3,isB3,truth3,start3,slot,flatT,scal,tyn,M3.isNon,lenT,truT,isiB,Option.bind,take3,kbs,addP,mulP,ixP,slP,eqP,neP,isSeq,iterP,itemsP,no3,part3,sl3,raise3,brk3,cont3,M3.ltP,M3.leP,M3.gtP,M3.geP,iterR3,one]
     intro r h0 h1
     exact ⟨by omega,by omega,hd _ (by rw [range_len];omega)⟩
   · exact bents ds x _ 2 hl hxl (by decide) fun x a7 h=>hx _ ⟨x,a7,h,rfl⟩
 rintro σ' ⟨x,b7,hxl,rfl⟩
 obtain ⟨l,rfl⟩:∃l,x=S l:=⟨cs x,(S_cs x).symm⟩
 rw [S_len] at hxl
 have ro:=fun (b:Bool) Q X h=>read_ok C 12 8 b l (by decide) (by decide) (by omega) Q X h
 refine seq_by (fun σ'=>σ'=st p NM a3 (.val w.tr) (.val (.str (S l))) b6 b7 (.val (.lst [vo (rd 8 false l),vo (rd 8 true l)])) a9 a10 .no) (fun nx hx=> ?_) ?_
 · unfold law_2b_6
   exact ⟨rfl,ro false _ _ ⟨rfl,ro true _ _ ⟨szBig (by simp),hx _ rfl⟩⟩⟩
 rintro σ' rfl
 refine seq_by (fun σ'=>σ'=st p NM a3 (.val w.tr) (.val (.str (S l))) b6 b7 (.val (.lst [vo (rd 8 false l),vo (rd 8 true l)])) (.val (.lst [dueR (rd 8 false l),dueR (rd 8 true l)])) a10 .no) (fun nx hx=> ?_) ?_
 · have k0:=hx _ rfl
   have z0:0<sizeLine:=by decide
   have z1:1<sizeLine:=by decide
   have z2:2≤sizeLine:=by decide
   have z3:1≤sizeLine:=by decide
   unfold law_2b_7
   cases e1:rd 8 false l with
   | none=>
     cases e2:rd 8 true l with
     | none=>rw [e1,e2] at k0;simp [seq3,next3,ret3,retN3,ifs3,drop3,asg3,name3,tst3,and3,or3,not3,andV3,orV3,notV3,if3,v3,k3,op3,un3,nil3,cons3,call3,tup3,lst3,chain3,fn30,fn3,fnN30,fnN3,fnP30,i2,i2c,i1,isN3,notN3,eqS3,neS3,ixL3,ixT3,len3,all3,any3,abs3,max23,min23,isi3,isB3,truth3,start3,slot,flatT,scal,tyn,M3.isNon,lenT,truT,isiB,Option.bind,take3,kbs,addP,mulP,ixP,slP,eqP,neP,isSeq,iterP,itemsP,no3,part3,sl3,raise3,brk3,cont3,M3.ltP,M3.leP,M3.gtP,M3.geP,comp3,lc3,noOwn,wipe3,dueR,yes3,z0,z1,z2,z3] at k0 ⊢;exact k0
     | some u=>obtain ⟨us,rfl⟩:=rd_tup 8 true l u e2;rw [e1,e2] at k0;simp [seq3,next3,ret3,retN3,ifs3,drop3,asg3,name3,tst3,and3,or3,not3,andV3,orV3,notV3,if3,v3,k3,op3,un3,nil3,cons3,call3,tup3,lst3,chain3,fn30,fn3,fnN30,fnN3,fnP30,i2,i2c,i1,isN3,notN3,eqS3,neS3,ixL3,ixT3,len3,all3,any3,abs3,max23,min23,isi3,isB3,truth3,start3,slot,flatT,scal,tyn,M3.isNon,lenT,truT,isiB,Option.bind,take3,kbs,addP,mulP,ixP,slP,eqP,neP,isSeq,iterP,itemsP,no3,part3,sl3,raise3,brk3,cont3,M3.ltP,M3.leP,M3.gtP,M3.geP,comp3,lc3,noOwn,wipe3,dueR,yes3,z0,z1,z2,z3] at k0 ⊢;exact k0
   | some t=>
     obtain ⟨ts,rfl⟩:=rd_tup 8 false l t e1
     cases e2:rd 8 true l with
     | none=>rw [e1,e2] at k0;simp [seq3,next3,ret3,retN3,ifs3,drop3,asg3,name3,tst3,and3,or3,not3,andV3,orV3,notV3,if3,v3,k3,op3,un3,nil3,cons3,call3,tup3,lst3,chain3,fn30,fn3,fnN30,fnN3,fnP30,i2,i2c,i1,isN3,notN3,eqS3,neS3,ixL3,ixT3,len3,all3,any3,abs3,max23,min23,isi3,isB3,truth3,start3,slot,flatT,scal,tyn,M3.isNon,lenT,truT,isiB,Option.bind,take3,kbs,addP,mulP,ixP,slP,eqP,neP,isSeq,iterP,itemsP,no3,part3,sl3,raise3,brk3,cont3,M3.ltP,M3.leP,M3.gtP,M3.geP,comp3,lc3,noOwn,wipe3,dueR,yes3,z0,z1,z2,z3] at k0 ⊢;exact k0
     | some u=>obtain ⟨us,rfl⟩:=rd_tup 8 true l u e2;rw [e1,e2] at k0;simp [seq3,next3,ret3,retN3,ifs3,drop3,asg3,name3,tst3,and3,or3,not3,andV3,orV3,notV3,if3,v3,k3,op3,un3,nil3,cons3,call3,tup3,lst3,chain3,fn30,fn3,fnN30,fnN3,fnP30,i2,i2c,i1,isN3,notN3,eqS3,neS3,ixL3,ixT3,len3,all3,any3,abs3,max23,min23,isi3,isB3,truth3,start3,slot,flatT,scal,tyn,M3.isNon,lenT,truT,isiB,Option.bind,take3,kbs,addP,mulP,ixP,slP,eqP,neP,isSeq,iterP,itemsP,no3,part3,sl3,raise3,brk3,cont3,M3.ltP,M3.leP,M3.gtP,M3.geP,comp3,lc3,noOwn,wipe3,dueR,yes3,z0,z1,z2,z3] at k0 ⊢;exact k0
 rintro σ' rfl
 have hl6:l.length≤1000000:=by omega
 refine seq_by (fun σ'=>σ'=st p NM a3 (.val w.tr) (.val (.str (S l))) b6 b7 (.val (.lst [vo (rd 8 false l),vo (rd 8 true l)])) (.val (.lst [dueR (rd 8 false l),dueR (rd 8 true l)])) (.val (.lst [dueR (rd 8 false l),dueR (rd 8 true l)])) .no) (fun nx hx=> ?_) ?_
 · unfold law_2b_8
   refine ⟨rfl,why_rv ok hl6 (fun d=>why5 C.em (whyT C) "none" (fn3 1 (read_truth C) (cons3 (v3 5) nil3) []) (st p NM a3 (.val w.tr) (.val (.str (S l))) b6 b7 (.val (.lst [vo (rd 8 false l),vo (rd 8 true l)])) (.val (.lst [dueR (rd 8 false l),dueR (rd 8 true l)])) a10 .no) (fun e=>[d,e].length≤sizeLine∧nx (st p NM a3 (.val w.tr) (.val (.str (S l))) b6 b7 (.val (.lst [vo (rd 8 false l),vo (rd 8 true l)])) (.val (.lst [dueR (rd 8 false l),dueR (rd 8 true l)])) (.val (.lst [d,e])) .no)) (fun _=>False)) ?_⟩
   exact ⟨rfl,why_rt ok hl6 (fun e=>[dueR (rd 8 false l),e].length≤sizeLine∧nx (st p NM a3 (.val w.tr) (.val (.str (S l))) b6 b7 (.val (.lst [vo (rd 8 false l),vo (rd 8 true l)])) (.val (.lst [dueR (rd 8 false l),dueR (rd 8 true l)])) (.val (.lst [dueR (rd 8 false l),e])) .no)) ⟨szBig (by simp),hx _ rfl⟩⟩
 rintro σ' rfl
 have pd:plain (.lst [dueR (rd 8 false l),dueR (rd 8 true l)])=true∧dep (.lst [dueR (rd 8 false l),dueR (rd 8 true l)])<12:=by
  unfold dueR
  split<;>split<;>simp
 refine seq_of ?_
 unfold law_2b_9
 refine ifs_n (fun Q X z=> ?_) ?_
 · refine ⟨rfl, ?_⟩
   show Lsame C 12 [.lst [dueR (rd 8 false l),dueR (rd 8 true l)],.lst [dueR (rd 8 false l),dueR (rd 8 true l)]] _ _
   rw [same_self C pd.1 pd.2]
   exact z
 dsimp only
 refine seq_of ?_
 unfold law_2b_10
 refine ifs_n (fun Q X z=> ?_) ?_
 · cases e1:rd 8 false l with
   | none=>simp [seq3,next3,ret3,retN3,ifs3,drop3,asg3,name3,tst3,and3,or3,not3,andV3,orV3,notV3,if3,v3,k3,op3,un3,nil3,cons3,call3,tup3,lst3,chain3,fn30,fn3,fnN30,fnN3,fnP30,i2,i2c,i1,isN3,notN3,eqS3,neS3,ixL3,ixT3,len3,all3,any3,abs3,max23,min23,isi3,isB3,truth3,start3,slot,flatT,scal,tyn,M3.isNon,lenT,truT,isiB,Option.bind,take3,kbs,addP,mulP,ixP,slP,eqP,neP,isSeq,iterP,itemsP,no3,part3,sl3,raise3,brk3,cont3,M3.ltP,M3.leP,M3.gtP,M3.geP,L2.atI,L2.ixN];exact z
   | some t=>
     obtain ⟨ts,rfl⟩:=rd_tup 8 false l t e1
     have pt:=rd_plain e1
     have va:=fun (Q:T→Prop) (q:Q (.tup ts))=>read_value_ok C hl6 Q (fun _=>False) (fun t' e'=>by rw [e1] at e';cases e';exact q) (fun e'=>by rw [e1] at e';cases e')
     have ss:=fun Q X=>same_self C (x:=.tup ts) (Q:=Q) (X:=X) pt.1 (by omega)
     generalize read_value C=g3 at va ⊢
     simp [seq3,next3,ret3,retN3,ifs3,drop3,asg3,name3,tst3,and3,or3,not3,andV3,orV3,notV3,if3,v3,k3,op3,un3,nil3,cons3,call3,tup3,lst3,chain3,fn30,fn3,fnN30,fnN3,fnP30,i2,i2c,i1,isN3,notN3,eqS3,neS3,ixL3,ixT3,len3,all3,any3,abs3,max23,min23,isi3,isB3,truth3,start3,slot,flatT,scal,tyn,M3.isNon,lenT,truT,isiB,Option.bind,take3,kbs,addP,mulP,ixP,slP,eqP,neP,isSeq,iterP,itemsP,no3,part3,sl3,raise3,brk3,cont3,M3.ltP,M3.leP,M3.gtP,M3.geP,L2.atI,L2.ixN]
     refine va _ ?_
     rw [ss]
     exact z
 dsimp only
 unfold law_2b_11
 refine ifs_n (fun Q X z=> ?_) (hx _ _ _ _ _ _ _)
 cases e1:rd 8 true l with
 | none=>simp [seq3,next3,ret3,retN3,ifs3,drop3,asg3,name3,tst3,and3,or3,not3,andV3,orV3,notV3,if3,v3,k3,op3,un3,nil3,cons3,call3,tup3,lst3,chain3,fn30,fn3,fnN30,fnN3,fnP30,i2,i2c,i1,isN3,notN3,eqS3,neS3,ixL3,ixT3,len3,all3,any3,abs3,max23,min23,isi3,isB3,truth3,start3,slot,flatT,scal,tyn,M3.isNon,lenT,truT,isiB,Option.bind,take3,kbs,addP,mulP,ixP,slP,eqP,neP,isSeq,iterP,itemsP,no3,part3,sl3,raise3,brk3,cont3,M3.ltP,M3.leP,M3.gtP,M3.geP,L2.atI,L2.ixN];exact z
 | some t=>
   obtain ⟨ts,rfl⟩:=rd_tup 8 true l t e1
   have pt:=rd_plain e1
   have va:=fun (Q:T→Prop) (q:Q (.tup ts))=>read_truth_ok C hl6 Q (fun _=>False) (fun t' e'=>by rw [e1] at e';cases e';exact q) (fun e'=>by rw [e1] at e';cases e')
   have ss:=fun Q X=>same_self C (x:=.tup ts) (Q:=Q) (X:=X) pt.1 (by omega)
   generalize read_truth C=g3 at va ⊢
   simp [seq3,next3,ret3,retN3,ifs3,drop3,asg3,name3,tst3,and3,or3,not3,andV3,orV3,notV3,if3,v3,k3,op3,un3,nil3,cons3,call3,tup3,lst3,chain3,fn30,fn3,fnN30,fnN3,fnP30,i2,i2c,i1,isN3,notN3,eqS3,neS3,ixL3,ixT3,len3,all3,any3,abs3,max23,min23,isi3,isB3,truth3,start3,slot,flatT,scal,tyn,M3.isNon,lenT,truT,isiB,Option.bind,take3,kbs,addP,mulP,ixP,slP,eqP,neP,isSeq,iterP,itemsP,no3,part3,sl3,raise3,brk3,cont3,M3.ltP,M3.leP,M3.gtP,M3.geP,L2.atI,L2.ixN]
   refine va _ ?_
   rw [ss]
   exact z
end
theorem law_plain (C:Cs) (ok:CsOk C):Plain C:=by
 intro p
 unfold lawB
 refine seq_by (fun σ'=>∃NM:List Str,nms NM∧fines NM∧σ'=st p NM .no .no .no .no .no .no .no .no .no) (fun nx hx=> ?_) ?_
 · unfold law_1
   refine ⟨rfl,rfl,names_ok C p _ _ fun b a c d hb lb hd=> ?_⟩
   have hF:fines ([0,1,2].map fun k=>nm b a c d k):=fun x hx=>by
    obtain ⟨k,_,rfl⟩:=List.mem_map.mp hx
    exact nm_fine hb lb
   exact hx _ ⟨[0,1,2].map fun k=>nm b a c d k,⟨by simp,fun x h=>⟨(lows_sg (hF x h)).2,(lows_sg (hF x h)).1⟩⟩,hF,rfl⟩
 rintro σ' ⟨NM,hN,hF,rfl⟩
 refine seq_by (fun σ'=>∃a3 a4 a5 a6 a7 a8 a9 a10,σ'=st p NM a3 a4 a5 a6 a7 a8 a9 a10 .no) (fun nx hx=> ?_) ?_
 · unfold law_2
   refine for_by (fun ds=>True) (fun Q X q=> ?_) (fun ds _=> ?_)
   · exact ⟨by decide,by decide,q _ trivial⟩
   refine loop_name (fun ds σ=>∃a3 a4 a5 a6 a7 a8 a9 a10,σ=st p NM a3 a4 a5 a6 a7 a8 a9 a10 .no) _ _ ⟨_,_,_,_,_,_,_,_,rfl⟩ (fun σ h=>hx _ h) ?_
   rintro x r σ ⟨a3,a4,a5,a6,a7,a8,a9,a10,rfl⟩ nx2 hn2
   exact turn (a3:=.val x) ok hN hF fun _ _ _ _ _ _ _=>hn2 _ ⟨_,_,_,_,_,_,_,_,rfl⟩
 rintro σ' ⟨a3,a4,a5,a6,a7,a8,a9,a10,rfl⟩
 exact rfl
end Law
namespace Law
open PySem L2 M3
theorem all_mk {l:PySem.W.OpenLaw} {w:World} {K:PySem.W.Frag} {h:Heap} {mg:Str→Option Value} {fa:Addr} (X:K.In h) (G:h.Ns mainGlobals mg) (hfa:mg "law"=some (.ref fa)) (own:LamX.OwnTab K fa h)
 {f0:Addr} {od0 an0:Option Addr} {sl0:Array (Option Value)} {oc0 dc0 pm0 ct0:Value} {cd0:Value} {D0:Addr} {w0_0:Value} {f1:Addr} {od1 an1:Option Addr} {sl1:Array (Option Value)} {oc1 dc1 pm1 ct1:Value} {kV1:Value} {cd1:Value} {f2:Addr} {od2 an2:Option Addr} {sl2:Array (Option Value)} {oc2 dc2 pm2 ct2:Value} {kV2:Value} {cd2:Value} {f3:Addr} {od3 an3:Option Addr} {sl3:Array (Option Value)} {oc3 dc3 pm3 ct3:Value} {kV3:Value} {cd3:Value} {f4:Addr} {od4 an4:Option Addr} {sl4:Array (Option Value)} {oc4 dc4 pm4 ct4:Value} {kV4:Value} {cd4:Value} {f5:Addr} {od5 an5:Option Addr} {sl5:Array (Option Value)} {oc5 dc5 pm5 ct5:Value} {kV5:Value} {cd5:Value} {f6:Addr} {od6 an6:Option Addr} {sl6:Array (Option Value)} {oc6 dc6 pm6 ct6:Value} {kV6:Value} {cd6:Value} {f7:Addr} {od7 an7:Option Addr} {sl7:Array (Option Value)} {oc7 dc7 pm7 ct7:Value} {kV7:Value} {cd7:Value} {f8:Addr} {od8 an8:Option Addr} {sl8:Array (Option Value)} {oc8 dc8 pm8 ct8:Value} {kV8:Value} {cd8:Value} {f9:Addr} {od9 an9:Option Addr} {sl9:Array (Option Value)} {oc9 dc9 pm9 ct9:Value} {kV9:Value} {cd9:Value} {f10:Addr} {od10 an10:Option Addr} {sl10:Array (Option Value)} {oc10 dc10 pm10 ct10:Value} {kV10:Value} {cd10:Value} {f11:Addr} {od11 an11:Option Addr} {sl11:Array (Option Value)} {oc11 dc11 pm11 ct11:Value} {kV11:Value} {cd11:Value} {f12:Addr} {od12 an12:Option Addr} {sl12:Array (Option Value)} {oc12 dc12 pm12 ct12:Value} {kV12:Value} {cd12:Value} {f13:Addr} {od13 an13:Option Addr} {sl13:Array (Option Value)} {oc13 dc13 pm13 ct13:Value} {kV13:Value} {cd13:Value} {f14:Addr} {od14 an14:Option Addr} {sl14:Array (Option Value)} {oc14 dc14 pm14 ct14:Value} {kV14:Value} {cd14:Value} {f15:Addr} {od15 an15:Option Addr} {sl15:Array (Option Value)} {oc15 dc15 pm15 ct15:Value} {kV15:Value} {cd15:Value} {f16:Addr} {od16 an16:Option Addr} {sl16:Array (Option Value)} {oc16 dc16 pm16 ct16:Value} {kV16:Value} {cd16:Value} {f17:Addr} {od17 an17:Option Addr} {sl17:Array (Option Value)} {oc17 dc17 pm17 ct17:Value} {kV17:Value} {cd17:Value} {f18:Addr} {od18 an18:Option Addr} {sl18:Array (Option Value)} {oc18 dc18 pm18 ct18:Value} {kV18:Value} {cd18:Value} {f19:Addr} {od19 an19:Option Addr} {sl19:Array (Option Value)} {oc19 dc19 pm19 ct19:Value} {kV19:Value} {cd19:Value} {f20:Addr} {od20 an20:Option Addr} {sl20:Array (Option Value)} {oc20 dc20 pm20 ct20:Value} {kV20:Value} {cd20:Value} {f21:Addr} {od21 an21:Option Addr} {sl21:Array (Option Value)} {oc21 dc21 pm21 ct21:Value} {kV21:Value} {cd21:Value} {f22:Addr} {od22 an22:Option Addr} {sl22:Array (Option Value)} {oc22 dc22 pm22 ct22:Value} {kV22:Value} {cd22:Value} {f23:Addr} {od23 an23:Option Addr} {sl23:Array (Option Value)} {oc23 dc23 pm23 ct23:Value} {kV23:Value} {cd23:Value} {f24:Addr} {od24 an24:Option Addr} {sl24:Array (Option Value)} {oc24 dc24 pm24 ct24:Value} {kV24:Value} {cL PL:Addr} {u_LONGEST:Value} {u_MOST:Value} {u_MOST_DEEP:Value} {D_TRUTH_PARTS:Addr} {es_TRUTH_PARTS:Array DictEntry} {n_TRUTH_PARTS:Nat} {kt_TRUTH_PARTS_0:Tok} {kv_TRUTH_PARTS_0:Value} {kt_TRUTH_PARTS_1:Tok} {kv_TRUTH_PARTS_1:Value} {kt_TRUTH_PARTS_2:Tok} {kv_TRUTH_PARTS_2:Value} {kt_TRUTH_PARTS_3:Tok} {kv_TRUTH_PARTS_3:Value} {kt_TRUTH_PARTS_4:Tok} {kv_TRUTH_PARTS_4:Value} {kt_TRUTH_PARTS_5:Tok} {kv_TRUTH_PARTS_5:Value} {kt_TRUTH_PARTS_6:Tok} {kv_TRUTH_PARTS_6:Value} {D_VALUE_PARTS:Addr} {es_VALUE_PARTS:Array DictEntry} {n_VALUE_PARTS:Nat} {kt_VALUE_PARTS_0:Tok} {kv_VALUE_PARTS_0:Value} {kt_VALUE_PARTS_1:Tok} {kv_VALUE_PARTS_1:Value} {kt_VALUE_PARTS_2:Tok} {kv_VALUE_PARTS_2:Value} {kt_VALUE_PARTS_3:Tok} {kv_VALUE_PARTS_3:Value} {kt_VALUE_PARTS_4:Tok} {kv_VALUE_PARTS_4:Value} {kt_VALUE_PARTS_5:Tok} {kv_VALUE_PARTS_5:Value} {C_BadText:Addr} {nm_BadText q_BadText:Str} {N_BadText:Addr} {bs_BadText bm_BadText:List Value} {sn_BadText:List Str} {sub_BadText:List Value} {ab_BadText:Bool} {col_BadText:Option Bool} {dd_BadText:Option Addr} {k0_BadText k1_BadText k2_BadText k3_BadText k5_BadText:Option Value} {fi_BadText:Addr} {oi_BadText ci_BadText di_BadText pi_BadText ti_BadText ki_BadText:Value} {odi_BadText ai_BadText:Option Addr} {si_BadText:Array (Option Value)} {Tx_BadText:Addr} {tox_BadText:Obj} {tix_BadText:List Value} {tnx_BadText:Nat} {wvx_BadText_0:Value} {C_FormError:Addr} {C_PourError:Addr} {ddc:Option Addr} {vsc:Array Value} {slc:Array (Option Value)} {file:Str} {tf:Tok} {flags:Int} {tg:Tok} {inF:Bool} {text:Int} {tt:Tok}
 (a0:PySem.W.nsIn K mainGlobals "is_cell"=some (some (.ref f0)))
 (l0:K.lookup f0=some ⟨oc0,od0,.func (PySem.W.fnOf "is_cell" "is_cell" (defArgs s_is_cell) (defBody s_is_cell) (defScope s_is_cell) .none (.ref D0) dc0 pm0 an0 cd0 ct0),sl0⟩)
 (c0:PySem.W.codeIn K cd0 "is_cell"=true)
 (k0:PySem.W.keepIn K (.ref f0)=true)
 (q0_0:PySem.W.nsIn K D0 "most"=some (some w0_0))
 (e0_0:TreeAt K (.int 999999999999999999999999999999) w0_0)
 (a1:PySem.W.nsIn K mainGlobals "is_name"=some (some (.ref f1)))
 (l1:K.lookup f1=some ⟨oc1,od1,.func (PySem.W.fnOf "is_name" "is_name" (defArgs s_is_name) (defBody s_is_name) (defScope s_is_name) .none kV1 dc1 pm1 an1 cd1 ct1),sl1⟩)
 (c1:PySem.W.codeIn K cd1 "is_name"=true)
 (k1:PySem.W.keepIn K (.ref f1)=true)
 (a2:PySem.W.nsIn K mainGlobals "is_value"=some (some (.ref f2)))
 (l2:K.lookup f2=some ⟨oc2,od2,.func (PySem.W.fnOf "is_value" "is_value" (defArgs s_is_value) (defBody s_is_value) (defScope s_is_value) .none kV2 dc2 pm2 an2 cd2 ct2),sl2⟩)
 (c2:PySem.W.codeIn K cd2 "is_value"=true)
 (k2:PySem.W.keepIn K (.ref f2)=true)
 (a3:PySem.W.nsIn K mainGlobals "is_truth"=some (some (.ref f3)))
 (l3:K.lookup f3=some ⟨oc3,od3,.func (PySem.W.fnOf "is_truth" "is_truth" (defArgs s_is_truth) (defBody s_is_truth) (defScope s_is_truth) .none kV3 dc3 pm3 an3 cd3 ct3),sl3⟩)
 (c3:PySem.W.codeIn K cd3 "is_truth"=true)
 (k3:PySem.W.keepIn K (.ref f3)=true)
 (a4:PySem.W.nsIn K mainGlobals "parts_fit"=some (some (.ref f4)))
 (l4:K.lookup f4=some ⟨oc4,od4,.func (PySem.W.fnOf "parts_fit" "parts_fit" (defArgs s_parts_fit) (defBody s_parts_fit) (defScope s_parts_fit) .none kV4 dc4 pm4 an4 cd4 ct4),sl4⟩)
 (c4:PySem.W.codeIn K cd4 "parts_fit"=true)
 (k4:PySem.W.keepIn K (.ref f4)=true)
 (a5:PySem.W.nsIn K mainGlobals "read_cell"=some (some (.ref f5)))
 (l5:K.lookup f5=some ⟨oc5,od5,.func (PySem.W.fnOf "read_cell" "read_cell" (defArgs s_read_cell) (defBody s_read_cell) (defScope s_read_cell) .none kV5 dc5 pm5 an5 cd5 ct5),sl5⟩)
 (c5:PySem.W.codeIn K cd5 "read_cell"=true)
 (k5:PySem.W.keepIn K (.ref f5)=true)
 (a6:PySem.W.nsIn K mainGlobals "cut_parts"=some (some (.ref f6)))
 (l6:K.lookup f6=some ⟨oc6,od6,.func (PySem.W.fnOf "cut_parts" "cut_parts" (defArgs s_cut_parts) (defBody s_cut_parts) (defScope s_cut_parts) .none kV6 dc6 pm6 an6 cd6 ct6),sl6⟩)
 (c6:PySem.W.codeIn K cd6 "cut_parts"=true)
 (k6:PySem.W.keepIn K (.ref f6)=true)
 (a7:PySem.W.nsIn K mainGlobals "read_word"=some (some (.ref f7)))
 (l7:K.lookup f7=some ⟨oc7,od7,.func (PySem.W.fnOf "read_word" "read_word" (defArgs s_read_word) (defBody s_read_word) (defScope s_read_word) .none kV7 dc7 pm7 an7 cd7 ct7),sl7⟩)
 (c7:PySem.W.codeIn K cd7 "read_word"=true)
 (k7:PySem.W.keepIn K (.ref f7)=true)
 (a8:PySem.W.nsIn K mainGlobals "read_value"=some (some (.ref f8)))
 (l8:K.lookup f8=some ⟨oc8,od8,.func (PySem.W.fnOf "read_value" "read_value" (defArgs s_read_value) (defBody s_read_value) (defScope s_read_value) .none kV8 dc8 pm8 an8 cd8 ct8),sl8⟩)
 (c8:PySem.W.codeIn K cd8 "read_value"=true)
 (k8:PySem.W.keepIn K (.ref f8)=true)
 (a9:PySem.W.nsIn K mainGlobals "read_truth"=some (some (.ref f9)))
 (l9:K.lookup f9=some ⟨oc9,od9,.func (PySem.W.fnOf "read_truth" "read_truth" (defArgs s_read_truth) (defBody s_read_truth) (defScope s_read_truth) .none kV9 dc9 pm9 an9 cd9 ct9),sl9⟩)
 (c9:PySem.W.codeIn K cd9 "read_truth"=true)
 (k9:PySem.W.keepIn K (.ref f9)=true)
 (a10:PySem.W.nsIn K mainGlobals "_law_pot"=some (some (.ref f10)))
 (l10:K.lookup f10=some ⟨oc10,od10,.func (PySem.W.fnOf "_law_pot" "_law_pot" (defArgs s_Lpot) (defBody s_Lpot) (defScope s_Lpot) .none kV10 dc10 pm10 an10 cd10 ct10),sl10⟩)
 (c10:PySem.W.codeIn K cd10 "_law_pot"=true)
 (k10:PySem.W.keepIn K (.ref f10)=true)
 (a11:PySem.W.nsIn K mainGlobals "_law_take"=some (some (.ref f11)))
 (l11:K.lookup f11=some ⟨oc11,od11,.func (PySem.W.fnOf "_law_take" "_law_take" (defArgs s_Ltake) (defBody s_Ltake) (defScope s_Ltake) .none kV11 dc11 pm11 an11 cd11 ct11),sl11⟩)
 (c11:PySem.W.codeIn K cd11 "_law_take"=true)
 (k11:PySem.W.keepIn K (.ref f11)=true)
 (a12:PySem.W.nsIn K mainGlobals "_law_same"=some (some (.ref f12)))
 (l12:K.lookup f12=some ⟨oc12,od12,.func (PySem.W.fnOf "_law_same" "_law_same" (defArgs s_Lsame) (defBody s_Lsame) (defScope s_Lsame) .none kV12 dc12 pm12 an12 cd12 ct12),sl12⟩)
 (c12:PySem.W.codeIn K cd12 "_law_same"=true)
 (k12:PySem.W.keepIn K (.ref f12)=true)
 (a13:PySem.W.nsIn K mainGlobals "_law_names"=some (some (.ref f13)))
 (l13:K.lookup f13=some ⟨oc13,od13,.func (PySem.W.fnOf "_law_names" "_law_names" (defArgs s_Lnames) (defBody s_Lnames) (defScope s_Lnames) .none kV13 dc13 pm13 an13 cd13 ct13),sl13⟩)
 (c13:PySem.W.codeIn K cd13 "_law_names"=true)
 (k13:PySem.W.keepIn K (.ref f13)=true)
 (a14:PySem.W.nsIn K mainGlobals "_law_cell"=some (some (.ref f14)))
 (l14:K.lookup f14=some ⟨oc14,od14,.func (PySem.W.fnOf "_law_cell" "_law_cell" (defArgs s_Lcell) (defBody s_Lcell) (defScope s_Lcell) .none kV14 dc14 pm14 an14 cd14 ct14),sl14⟩)
 (c14:PySem.W.codeIn K cd14 "_law_cell"=true)
 (k14:PySem.W.keepIn K (.ref f14)=true)
 (a15:PySem.W.nsIn K mainGlobals "_law_value"=some (some (.ref f15)))
 (l15:K.lookup f15=some ⟨oc15,od15,.func (PySem.W.fnOf "_law_value" "_law_value" (defArgs s_Lvalue) (defBody s_Lvalue) (defScope s_Lvalue) .none kV15 dc15 pm15 an15 cd15 ct15),sl15⟩)
 (c15:PySem.W.codeIn K cd15 "_law_value"=true)
 (k15:PySem.W.keepIn K (.ref f15)=true)
 (a16:PySem.W.nsIn K mainGlobals "_law_truth"=some (some (.ref f16)))
 (l16:K.lookup f16=some ⟨oc16,od16,.func (PySem.W.fnOf "_law_truth" "_law_truth" (defArgs s_Ltruth) (defBody s_Ltruth) (defScope s_Ltruth) .none kV16 dc16 pm16 an16 cd16 ct16),sl16⟩)
 (c16:PySem.W.codeIn K cd16 "_law_truth"=true)
 (k16:PySem.W.keepIn K (.ref f16)=true)
 (a17:PySem.W.nsIn K mainGlobals "_law_written"=some (some (.ref f17)))
 (l17:K.lookup f17=some ⟨oc17,od17,.func (PySem.W.fnOf "_law_written" "_law_written" (defArgs s_Lwritten) (defBody s_Lwritten) (defScope s_Lwritten) .none kV17 dc17 pm17 an17 cd17 ct17),sl17⟩)
 (c17:PySem.W.codeIn K cd17 "_law_written"=true)
 (k17:PySem.W.keepIn K (.ref f17)=true)
 (a18:PySem.W.nsIn K mainGlobals "_law_cell_read"=some (some (.ref f18)))
 (l18:K.lookup f18=some ⟨oc18,od18,.func (PySem.W.fnOf "_law_cell_read" "_law_cell_read" (defArgs s_Lcell_read) (defBody s_Lcell_read) (defScope s_Lcell_read) .none kV18 dc18 pm18 an18 cd18 ct18),sl18⟩)
 (c18:PySem.W.codeIn K cd18 "_law_cell_read"=true)
 (k18:PySem.W.keepIn K (.ref f18)=true)
 (a19:PySem.W.nsIn K mainGlobals "_law_cut"=some (some (.ref f19)))
 (l19:K.lookup f19=some ⟨oc19,od19,.func (PySem.W.fnOf "_law_cut" "_law_cut" (defArgs s_Lcut) (defBody s_Lcut) (defScope s_Lcut) .none kV19 dc19 pm19 an19 cd19 ct19),sl19⟩)
 (c19:PySem.W.codeIn K cd19 "_law_cut"=true)
 (k19:PySem.W.keepIn K (.ref f19)=true)
 (a20:PySem.W.nsIn K mainGlobals "_law_name_ok"=some (some (.ref f20)))
 (l20:K.lookup f20=some ⟨oc20,od20,.func (PySem.W.fnOf "_law_name_ok" "_law_name_ok" (defArgs s_Lname_ok) (defBody s_Lname_ok) (defScope s_Lname_ok) .none kV20 dc20 pm20 an20 cd20 ct20),sl20⟩)
 (c20:PySem.W.codeIn K cd20 "_law_name_ok"=true)
 (k20:PySem.W.keepIn K (.ref f20)=true)
 (a21:PySem.W.nsIn K mainGlobals "_law_read"=some (some (.ref f21)))
 (l21:K.lookup f21=some ⟨oc21,od21,.func (PySem.W.fnOf "_law_read" "_law_read" (defArgs s_Lread) (defBody s_Lread) (defScope s_Lread) .none kV21 dc21 pm21 an21 cd21 ct21),sl21⟩)
 (c21:PySem.W.codeIn K cd21 "_law_read"=true)
 (k21:PySem.W.keepIn K (.ref f21)=true)
 (a22:PySem.W.nsIn K mainGlobals "_law_bent"=some (some (.ref f22)))
 (l22:K.lookup f22=some ⟨oc22,od22,.func (PySem.W.fnOf "_law_bent" "_law_bent" (defArgs s_Lbent) (defBody s_Lbent) (defScope s_Lbent) .none kV22 dc22 pm22 an22 cd22 ct22),sl22⟩)
 (c22:PySem.W.codeIn K cd22 "_law_bent"=true)
 (k22:PySem.W.keepIn K (.ref f22)=true)
 (a23:PySem.W.nsIn K mainGlobals "_law_why"=some (some (.ref f23)))
 (l23:K.lookup f23=some ⟨oc23,od23,.func (PySem.W.fnOf "_law_why" "_law_why" (defArgs s_Lwhy) (defBody s_Lwhy) (defScope s_Lwhy) .none kV23 dc23 pm23 an23 cd23 ct23),sl23⟩)
 (c23:PySem.W.codeIn K cd23 "_law_why"=true)
 (k23:PySem.W.keepIn K (.ref f23)=true)
 (a24:PySem.W.nsIn K mainGlobals "law"=some (some (.ref f24)))
 (l24:K.lookup f24=some ⟨oc24,od24,.func (PySem.W.fnOf "law" "law" (defArgs s_law) (defBody s_law) (defScope s_law) .none kV24 dc24 pm24 an24 (.ref cL) ct24),sl24⟩)
 (c24:PySem.W.codeIn K (.ref cL) "law"=true)
 (k24:PySem.W.keepIn K (.ref f24)=true)
 (z_abs:PySem.W.nsIn K mainGlobals "abs"=some none)
 (z_all:PySem.W.nsIn K mainGlobals "all"=some none)
 (z_bool:PySem.W.nsIn K mainGlobals "bool"=some none)
 (z_enumerate:PySem.W.nsIn K mainGlobals "enumerate"=some none)
 (z_int:PySem.W.nsIn K mainGlobals "int"=some none)
 (z_isinstance:PySem.W.nsIn K mainGlobals "isinstance"=some none)
 (z_len:PySem.W.nsIn K mainGlobals "len"=some none)
 (z_list:PySem.W.nsIn K mainGlobals "list"=some none)
 (z_max:PySem.W.nsIn K mainGlobals "max"=some none)
 (z_min:PySem.W.nsIn K mainGlobals "min"=some none)
 (z_range:PySem.W.nsIn K mainGlobals "range"=some none)
 (z_str:PySem.W.nsIn K mainGlobals "str"=some none)
 (z_tuple:PySem.W.nsIn K mainGlobals "tuple"=some none)
 (z_zip:PySem.W.nsIn K mainGlobals "zip"=some none)
 (g_LONGEST:PySem.W.nsIn K mainGlobals "LONGEST"=some (some u_LONGEST))
 (r_LONGEST:TreeAt K (.int 30) u_LONGEST)
 (g_MOST:PySem.W.nsIn K mainGlobals "MOST"=some (some u_MOST))
 (r_MOST:TreeAt K (.int 999999999999999999999999999999) u_MOST)
 (g_MOST_DEEP:PySem.W.nsIn K mainGlobals "MOST_DEEP"=some (some u_MOST_DEEP))
 (r_MOST_DEEP:TreeAt K (.int 8) u_MOST_DEEP)
 (kn_TRUTH_PARTS:PySem.W.nsIn K mainGlobals "TRUTH_PARTS"=some (some (.ref D_TRUTH_PARTS)))
 (kl_TRUTH_PARTS:K.lookup D_TRUTH_PARTS=some ⟨.type "dict",none,.dict es_TRUTH_PARTS n_TRUTH_PARTS, #[]⟩)
 (ko_TRUTH_PARTS:(D_TRUTH_PARTS==sysModules)=false)
 (ke_TRUTH_PARTS:es_TRUTH_PARTS.toList=[⟨PyData.keyHash w.params "yes",.str "yes" kt_TRUTH_PARTS_0,kv_TRUTH_PARTS_0⟩,⟨PyData.keyHash w.params "is",.str "is" kt_TRUTH_PARTS_1,kv_TRUTH_PARTS_1⟩,⟨PyData.keyHash w.params "below",.str "below" kt_TRUTH_PARTS_2,kv_TRUTH_PARTS_2⟩,⟨PyData.keyHash w.params "lacks",.str "lacks" kt_TRUTH_PARTS_3,kv_TRUTH_PARTS_3⟩,⟨PyData.keyHash w.params "not",.str "not" kt_TRUTH_PARTS_4,kv_TRUTH_PARTS_4⟩,⟨PyData.keyHash w.params "both",.str "both" kt_TRUTH_PARTS_5,kv_TRUTH_PARTS_5⟩,⟨PyData.keyHash w.params "either",.str "either" kt_TRUTH_PARTS_6,kv_TRUTH_PARTS_6⟩])
 (kx_TRUTH_PARTS_0:TreeAt K (.str "") kv_TRUTH_PARTS_0)
 (kx_TRUTH_PARTS_1:TreeAt K (.str "vv") kv_TRUTH_PARTS_1)
 (kx_TRUTH_PARTS_2:TreeAt K (.str "vv") kv_TRUTH_PARTS_2)
 (kx_TRUTH_PARTS_3:TreeAt K (.str "v") kv_TRUTH_PARTS_3)
 (kx_TRUTH_PARTS_4:TreeAt K (.str "t") kv_TRUTH_PARTS_4)
 (kx_TRUTH_PARTS_5:TreeAt K (.str "tt") kv_TRUTH_PARTS_5)
 (kx_TRUTH_PARTS_6:TreeAt K (.str "tt") kv_TRUTH_PARTS_6)
 (kn_VALUE_PARTS:PySem.W.nsIn K mainGlobals "VALUE_PARTS"=some (some (.ref D_VALUE_PARTS)))
 (kl_VALUE_PARTS:K.lookup D_VALUE_PARTS=some ⟨.type "dict",none,.dict es_VALUE_PARTS n_VALUE_PARTS, #[]⟩)
 (ko_VALUE_PARTS:(D_VALUE_PARTS==sysModules)=false)
 (ke_VALUE_PARTS:es_VALUE_PARTS.toList=[⟨PyData.keyHash w.params "plus",.str "plus" kt_VALUE_PARTS_0,kv_VALUE_PARTS_0⟩,⟨PyData.keyHash w.params "minus",.str "minus" kt_VALUE_PARTS_1,kv_VALUE_PARTS_1⟩,⟨PyData.keyHash w.params "times",.str "times" kt_VALUE_PARTS_2,kv_VALUE_PARTS_2⟩,⟨PyData.keyHash w.params "least",.str "least" kt_VALUE_PARTS_3,kv_VALUE_PARTS_3⟩,⟨PyData.keyHash w.params "most",.str "most" kt_VALUE_PARTS_4,kv_VALUE_PARTS_4⟩,⟨PyData.keyHash w.params "choose",.str "choose" kt_VALUE_PARTS_5,kv_VALUE_PARTS_5⟩])
 (kx_VALUE_PARTS_0:TreeAt K (.str "vv") kv_VALUE_PARTS_0)
 (kx_VALUE_PARTS_1:TreeAt K (.str "vv") kv_VALUE_PARTS_1)
 (kx_VALUE_PARTS_2:TreeAt K (.str "vv") kv_VALUE_PARTS_2)
 (kx_VALUE_PARTS_3:TreeAt K (.str "vv") kv_VALUE_PARTS_3)
 (kx_VALUE_PARTS_4:TreeAt K (.str "vv") kv_VALUE_PARTS_4)
 (kx_VALUE_PARTS_5:TreeAt K (.str "tvv") kv_VALUE_PARTS_5)
 (ac_BadText:PySem.W.nsIn K mainGlobals "BadText"=some (some (.ref C_BadText)))
 (xb_BadText:PySem.W.subIn K (.ref C_BadText) (.type "BaseException")=some true)
 (xt_BadText:PySem.W.typeIn K (.ref C_BadText)=some (.type "type"))
 (xl_BadText:K.lookup C_BadText=some (excClassObj nm_BadText q_BadText C_BadText N_BadText bs_BadText bm_BadText true sn_BadText sub_BadText ab_BadText col_BadText dd_BadText k0_BadText k1_BadText k2_BadText k3_BadText k5_BadText "ValueError.__new__"))
 (rv_BadText:PySem.HandSPX.refsVE bm_BadText=true)
 (xk_BadText:PySem.W.keepIn K (.ref C_BadText)=true)
 (xs_BadText:PySem.W.findIn K (.ref C_BadText) "__setattr__"=some (some (.builtin "object.__setattr__")))
 (xn_BadText_at:PySem.W.findIn K (.ref C_BadText) "at"=some none)
 (xa_BadText:PySem.W.findIn K (.ref C_BadText) "__init__"=some (some (.ref fi_BadText)))
 (xm_BadText:K.lookup fi_BadText=some ⟨oi_BadText,odi_BadText,.func (PySem.W.fnOf "__init__" "BadText.__init__" (defArgs s_BadText_init) (defBody s_BadText_init) (defScope s_BadText_init) (.ref Tx_BadText) ki_BadText di_BadText pi_BadText ai_BadText ci_BadText ti_BadText),si_BadText⟩)
 (xc_BadText:PySem.W.codeIn K ci_BadText "BadText.__init__"=true)
 (xp_BadText:PySem.W.keepIn K (.ref fi_BadText)=true)
 (tvx_BadText:K.lookup Tx_BadText=some tox_BadText)
 (tvd_BadText:tox_BadText.data= .seq tix_BadText.toArray tnx_BadText)
 (tvs_BadText:tix_BadText=[wvx_BadText_0])
 (yvx_BadText_0:TreeAt K (.int 0) wvx_BadText_0)
 (xf_BadText:PySem.W.isFn K (.ref fi_BadText)=true)
 (ga_BadText:PySem.W.findIn K (.ref C_BadText) "__getattribute__"=some (some (.builtin "BaseException.__getattribute__")))
 (gg_BadText:PySem.W.findIn K (.ref C_BadText) "__getattr__"=some none)
 (gd_BadText:PySem.W.hasDictIn K C_BadText=true)
 (gf_BadText_at:PySem.W.findIn K (.ref C_BadText) "at"=some none)
 (xi_BadText:PySem.W.isClsIn K C_BadText=true)
 (ac_FormError:PySem.W.nsIn K mainGlobals "FormError"=some (some (.ref C_FormError)))
 (xb_FormError:PySem.W.subIn K (.ref C_FormError) (.type "BaseException")=some true)
 (xt_FormError:PySem.W.typeIn K (.ref C_FormError)=some (.type "type"))
 (vs_FormError:PySem.W.specialIn K (.ref C_FormError) "__getattribute__"=some (some (.builtin "type.__getattribute__")))
 (vr_FormError:PySem.W.readsIn K C_FormError (.type "type")=true)
 (vf_FormError:PySem.W.findCls K (.ref C_FormError) (.type "type") "__init__"=some (.val (.builtin "ValueError.__init__")))
 (ac_PourError:PySem.W.nsIn K mainGlobals "PourError"=some (some (.ref C_PourError)))
 (xb_PourError:PySem.W.subIn K (.ref C_PourError) (.type "BaseException")=some true)
 (xt_PourError:PySem.W.typeIn K (.ref C_PourError)=some (.type "type"))
 (xi_PourError:PySem.W.isClsIn K C_PourError=true)
 (s_BadText_BadText:PySem.W.subIn K (.ref C_BadText) (.ref C_BadText)=some true)
 (s_BadText_PourError:PySem.W.subIn K (.ref C_BadText) (.ref C_PourError)=some true)
 (lc:K.lookup cL=some ⟨.type "code",ddc,.fields vsc,slc⟩)
 (v11:vsc[11]? =some (.ref PL))
 (v18:vsc.getD 18 .none= .str file tf)
 (v7:vsc.getD 7 .none= .int flags tg)
 (v9:vsc.getD 9 .none= .bool inF)
 (v10:vsc.getD 10 .none= .int text tt)
 (ncP:(cL==PL)=false)
 (tP:PySem.W.typeIn K (.ref PL)=none):
 LamX.LawAtS l w K CX0 25 63 "_law_script" mg fa h:=by
 have m0:=PySem.W.mg_of X G a0
 have D_is_cell:DefAt K mg "is_cell" "is_cell" s_is_cell [] ["most"] [(.int 999999999999999999999999999999)]:=defAt_mk m0 l0 c0 k0 (.inl ⟨rfl,rfl⟩) (.inr ⟨D0,[w0_0],rfl,(.cons e0_0 .nil),rfl,fun q hq=>by simp only [List.zip_cons_cons,List.zip_nil_right,List.zip_nil_left,List.mem_cons,List.mem_nil_iff,or_false,List.not_mem_nil] at hq;rcases hq with rfl<;>first | exact q0_0⟩)
 have m1:=PySem.W.mg_of X G a1
 have D_is_name:DefAt K mg "is_name" "is_name" s_is_name [] [] []:=defAt_mk m1 l1 c1 k1 (.inl ⟨rfl,rfl⟩) (.inl ⟨rfl,rfl⟩)
 have m2:=PySem.W.mg_of X G a2
 have D_is_value:DefAt K mg "is_value" "is_value" s_is_value [] [] []:=defAt_mk m2 l2 c2 k2 (.inl ⟨rfl,rfl⟩) (.inl ⟨rfl,rfl⟩)
 have m3:=PySem.W.mg_of X G a3
 have D_is_truth:DefAt K mg "is_truth" "is_truth" s_is_truth [] [] []:=defAt_mk m3 l3 c3 k3 (.inl ⟨rfl,rfl⟩) (.inl ⟨rfl,rfl⟩)
 have m4:=PySem.W.mg_of X G a4
 have D_parts_fit:DefAt K mg "parts_fit" "parts_fit" s_parts_fit [] [] []:=defAt_mk m4 l4 c4 k4 (.inl ⟨rfl,rfl⟩) (.inl ⟨rfl,rfl⟩)
 have m5:=PySem.W.mg_of X G a5
 have D_read_cell:DefAt K mg "read_cell" "read_cell" s_read_cell [] [] []:=defAt_mk m5 l5 c5 k5 (.inl ⟨rfl,rfl⟩) (.inl ⟨rfl,rfl⟩)
 have m6:=PySem.W.mg_of X G a6
 have D_cut_parts:DefAt K mg "cut_parts" "cut_parts" s_cut_parts [] [] []:=defAt_mk m6 l6 c6 k6 (.inl ⟨rfl,rfl⟩) (.inl ⟨rfl,rfl⟩)
 have m7:=PySem.W.mg_of X G a7
 have D_read_word:DefAt K mg "read_word" "read_word" s_read_word [] [] []:=defAt_mk m7 l7 c7 k7 (.inl ⟨rfl,rfl⟩) (.inl ⟨rfl,rfl⟩)
 have m8:=PySem.W.mg_of X G a8
 have D_read_value:DefAt K mg "read_value" "read_value" s_read_value [] [] []:=defAt_mk m8 l8 c8 k8 (.inl ⟨rfl,rfl⟩) (.inl ⟨rfl,rfl⟩)
 have m9:=PySem.W.mg_of X G a9
 have D_read_truth:DefAt K mg "read_truth" "read_truth" s_read_truth [] [] []:=defAt_mk m9 l9 c9 k9 (.inl ⟨rfl,rfl⟩) (.inl ⟨rfl,rfl⟩)
 have m10:=PySem.W.mg_of X G a10
 have D_Lpot:DefAt K mg "_law_pot" "_law_pot" s_Lpot [] [] []:=defAt_mk m10 l10 c10 k10 (.inl ⟨rfl,rfl⟩) (.inl ⟨rfl,rfl⟩)
 have m11:=PySem.W.mg_of X G a11
 have D_Ltake:DefAt K mg "_law_take" "_law_take" s_Ltake [] [] []:=defAt_mk m11 l11 c11 k11 (.inl ⟨rfl,rfl⟩) (.inl ⟨rfl,rfl⟩)
 have m12:=PySem.W.mg_of X G a12
 have D_Lsame:DefAt K mg "_law_same" "_law_same" s_Lsame [] [] []:=defAt_mk m12 l12 c12 k12 (.inl ⟨rfl,rfl⟩) (.inl ⟨rfl,rfl⟩)
 have m13:=PySem.W.mg_of X G a13
 have D_Lnames:DefAt K mg "_law_names" "_law_names" s_Lnames [] [] []:=defAt_mk m13 l13 c13 k13 (.inl ⟨rfl,rfl⟩) (.inl ⟨rfl,rfl⟩)
 have m14:=PySem.W.mg_of X G a14
 have D_Lcell:DefAt K mg "_law_cell" "_law_cell" s_Lcell [] [] []:=defAt_mk m14 l14 c14 k14 (.inl ⟨rfl,rfl⟩) (.inl ⟨rfl,rfl⟩)
 have m15:=PySem.W.mg_of X G a15
 have D_Lvalue:DefAt K mg "_law_value" "_law_value" s_Lvalue [] [] []:=defAt_mk m15 l15 c15 k15 (.inl ⟨rfl,rfl⟩) (.inl ⟨rfl,rfl⟩)
 have m16:=PySem.W.mg_of X G a16
 have D_Ltruth:DefAt K mg "_law_truth" "_law_truth" s_Ltruth [] [] []:=defAt_mk m16 l16 c16 k16 (.inl ⟨rfl,rfl⟩) (.inl ⟨rfl,rfl⟩)
 have m17:=PySem.W.mg_of X G a17
 have D_Lwritten:DefAt K mg "_law_written" "_law_written" s_Lwritten [] [] []:=defAt_mk m17 l17 c17 k17 (.inl ⟨rfl,rfl⟩) (.inl ⟨rfl,rfl⟩)
 have m18:=PySem.W.mg_of X G a18
 have D_Lcell_read:DefAt K mg "_law_cell_read" "_law_cell_read" s_Lcell_read [] [] []:=defAt_mk m18 l18 c18 k18 (.inl ⟨rfl,rfl⟩) (.inl ⟨rfl,rfl⟩)
 have m19:=PySem.W.mg_of X G a19
 have D_Lcut:DefAt K mg "_law_cut" "_law_cut" s_Lcut [] [] []:=defAt_mk m19 l19 c19 k19 (.inl ⟨rfl,rfl⟩) (.inl ⟨rfl,rfl⟩)
 have m20:=PySem.W.mg_of X G a20
 have D_Lname_ok:DefAt K mg "_law_name_ok" "_law_name_ok" s_Lname_ok [] [] []:=defAt_mk m20 l20 c20 k20 (.inl ⟨rfl,rfl⟩) (.inl ⟨rfl,rfl⟩)
 have m21:=PySem.W.mg_of X G a21
 have D_Lread:DefAt K mg "_law_read" "_law_read" s_Lread [] [] []:=defAt_mk m21 l21 c21 k21 (.inl ⟨rfl,rfl⟩) (.inl ⟨rfl,rfl⟩)
 have m22:=PySem.W.mg_of X G a22
 have D_Lbent:DefAt K mg "_law_bent" "_law_bent" s_Lbent [] [] []:=defAt_mk m22 l22 c22 k22 (.inl ⟨rfl,rfl⟩) (.inl ⟨rfl,rfl⟩)
 have m23:=PySem.W.mg_of X G a23
 have m24:=PySem.W.mg_of X G a24
 have zb_abs:=PySem.W.mg_none_of X G z_abs
 have zb_all:=PySem.W.mg_none_of X G z_all
 have zb_bool:=PySem.W.mg_none_of X G z_bool
 have zb_enumerate:=PySem.W.mg_none_of X G z_enumerate
 have zb_int:=PySem.W.mg_none_of X G z_int
 have zb_isinstance:=PySem.W.mg_none_of X G z_isinstance
 have zb_len:=PySem.W.mg_none_of X G z_len
 have zb_list:=PySem.W.mg_none_of X G z_list
 have zb_max:=PySem.W.mg_none_of X G z_max
 have zb_min:=PySem.W.mg_none_of X G z_min
 have zb_range:=PySem.W.mg_none_of X G z_range
 have zb_str:=PySem.W.mg_none_of X G z_str
 have zb_tuple:=PySem.W.mg_none_of X G z_tuple
 have zb_zip:=PySem.W.mg_none_of X G z_zip
 obtain ⟨v_LONGEST,r1_LONGEST,r2_LONGEST⟩:TreeAt K (.int 30) u_LONGEST:=r_LONGEST
 obtain ⟨v_MOST,r1_MOST,r2_MOST⟩:TreeAt K (.int 999999999999999999999999999999) u_MOST:=r_MOST
 obtain ⟨v_MOST_DEEP,r1_MOST_DEEP,r2_MOST_DEEP⟩:TreeAt K (.int 8) u_MOST_DEEP:=r_MOST_DEEP
 have mk_TRUTH_PARTS:=PySem.W.mg_of X G kn_TRUTH_PARTS
 have ak_TRUTH_PARTS:(csOf w K mg).at_ "TRUTH_PARTS"=D_TRUTH_PARTS:=csOf_at mk_TRUTH_PARTS
 have KD_TRUTH_PARTS:KdAt K w D_TRUTH_PARTS [("yes",(.str "")),("is",(.str "vv")),("below",(.str "vv")),("lacks",(.str "v")),("not",(.str "t")),("both",(.str "tt")),("either",(.str "tt"))]:=kdAt_mk kl_TRUTH_PARTS ko_TRUTH_PARTS ke_TRUTH_PARTS (.cons kx_TRUTH_PARTS_0 (.cons kx_TRUTH_PARTS_1 (.cons kx_TRUTH_PARTS_2 (.cons kx_TRUTH_PARTS_3 (.cons kx_TRUTH_PARTS_4 (.cons kx_TRUTH_PARTS_5 (.cons kx_TRUTH_PARTS_6 .nil)))))))
 have mk_VALUE_PARTS:=PySem.W.mg_of X G kn_VALUE_PARTS
 have ak_VALUE_PARTS:(csOf w K mg).at_ "VALUE_PARTS"=D_VALUE_PARTS:=csOf_at mk_VALUE_PARTS
 have KD_VALUE_PARTS:KdAt K w D_VALUE_PARTS [("plus",(.str "vv")),("minus",(.str "vv")),("times",(.str "vv")),("least",(.str "vv")),("most",(.str "vv")),("choose",(.str "tvv"))]:=kdAt_mk kl_VALUE_PARTS ko_VALUE_PARTS ke_VALUE_PARTS (.cons kx_VALUE_PARTS_0 (.cons kx_VALUE_PARTS_1 (.cons kx_VALUE_PARTS_2 (.cons kx_VALUE_PARTS_3 (.cons kx_VALUE_PARTS_4 (.cons kx_VALUE_PARTS_5 .nil))))))
 have mc_BadText:=PySem.W.mg_of X G ac_BadText
 have at_BadText:(csOf w K mg).at_ "BadText"=C_BadText:=csOf_at mc_BadText
 have mc_FormError:=PySem.W.mg_of X G ac_FormError
 have at_FormError:(csOf w K mg).at_ "FormError"=C_FormError:=csOf_at mc_FormError
 have mc_PourError:=PySem.W.mg_of X G ac_PourError
 have at_PourError:(csOf w K mg).at_ "PourError"=C_PourError:=csOf_at mc_PourError
 have T:Top w K mg:=⟨D_is_cell,
  D_is_name,
  D_is_value,
  D_is_truth,
  D_parts_fit,
  D_read_cell,
  D_cut_parts,
  D_read_word,
  D_read_value,
  D_read_truth,
  D_Lpot,
  D_Ltake,
  D_Lsame,
  D_Lnames,
  D_Lcell,
  D_Lvalue,
  D_Ltruth,
  D_Lwritten,
  D_Lcell_read,
  D_Lcut,
  D_Lname_ok,
  D_Lread,
  D_Lbent,
  zb_abs,
  zb_all,
  zb_bool,
  zb_enumerate,
  zb_int,
  zb_isinstance,
  zb_len,
  zb_list,
  zb_max,
  zb_min,
  zb_range,
  zb_str,
  zb_tuple,
  zb_zip,
  ⟨u_LONGEST,v_LONGEST,PySem.W.mg_of X G g_LONGEST,r1_LONGEST,r2_LONGEST⟩,
  ⟨u_MOST,v_MOST,PySem.W.mg_of X G g_MOST,r1_MOST,r2_MOST⟩,
  ⟨u_MOST_DEEP,v_MOST_DEEP,PySem.W.mg_of X G g_MOST_DEEP,r1_MOST_DEEP,r2_MOST_DEEP⟩,
  (by rw [ak_TRUTH_PARTS];exact mk_TRUTH_PARTS),
  (by rw [ak_TRUTH_PARTS];exact KD_TRUTH_PARTS),
  (by rw [ak_VALUE_PARTS];exact mk_VALUE_PARTS),
  (by rw [ak_VALUE_PARTS];exact KD_VALUE_PARTS),
  ⟨by rw [at_FormError];exact mc_FormError,by rw [at_FormError];exact vs_FormError,by rw [at_FormError];exact vr_FormError,by rw [at_FormError];exact vf_FormError⟩,
  (by rw [at_BadText];exact methAt_mk xa_BadText xm_BadText xc_BadText xp_BadText (.inr ⟨by simp,Tx_BadText,tox_BadText,tix_BadText,tnx_BadText,rfl,tvx_BadText,tvd_BadText,by rw [tvs_BadText];exact (.cons yvx_BadText_0 .nil)⟩) (.inl ⟨rfl,rfl⟩)),
  ⟨by rw [at_BadText];exact mc_BadText,by rw [at_BadText];exact oex_mk xl_BadText rv_BadText xs_BadText xb_BadText xt_BadText xk_BadText,by rw [at_BadText];intro f hf;simp only [List.mem_cons,List.not_mem_nil,or_false] at hf;rcases hf with rfl<;>first | exact xn_BadText_at,fun fI h=>by rw [at_BadText,xa_BadText] at h;cases h;exact xf_BadText⟩,
  (by rw [at_BadText];exact ⟨ga_BadText,gg_BadText,xb_BadText,gd_BadText⟩),
  (by rw [at_BadText];exact gf_BadText_at),
  (by rw [at_BadText];exact mc_BadText),
  (by rw [at_PourError];exact mc_PourError),
  ⟨by rw [at_BadText];exact exm_mk xb_BadText xi_BadText xt_BadText s_BadText_BadText,by rw [at_BadText,at_PourError];exact exm_mk xb_PourError xi_PourError xt_PourError s_BadText_PourError⟩⟩
 have e:=hfa.symm.trans m24
 cases e
 have F_why:=fun_mk (st:=s_Lwhy) l23 c23 k23
 have b_why:=F_why.binds (ps:=["_law_act"]) fun _ _ _ _ _ _ us hl=>match us,hl with | [_],_=>rfl
 refine ⟨PySem.W.fnOf "law" "law" (defArgs s_law) (defBody s_law) (defScope s_law) .none kV24 dc24 pm24 an24 (.ref cL) ct24,[(cL,PL)],spLawT K PL,fun p hp=> ?_,fun p hp=> ?_,fun p hp=> ?_,fun s v=>.of_eq rfl,fun H a ns _ _ hT hS=>⟨a,ns,rfl,hS,hT (cL,PL) (List.mem_singleton.mpr rfl),fun _=>rfl⟩,fun base _ _ TB=>ok_law T base (law_plain _ T.cs) l24 c24 (TB (cL,PL) (List.mem_singleton.mpr rfl)) m23 k23 l23 c23 b_why⟩
 · cases List.mem_singleton.mp hp
   exact own cL PL _ _ _ _ _ _ l24 rfl rfl lc v11
 · cases List.mem_singleton.mp hp
   exact no_of_type tP
 · cases List.mem_singleton.mp hp
   exact ⟨_,vsc,file,tf,flags,tg,inF,text,tt,X _ _ lc,rfl,rfl,v11,(by rw [Array.getD_eq_getD_getElem?,v11];rfl),v18,v7,v9,v10,fun (z:cL=PL)=>by rw [z] at ncP;simp at ncP⟩
theorem walkL {l:PySem.W.OpenLaw} {q:Program} {loose:List Str} {XP:(Str→Option Value)→Heap→Prop} {YP:World→Heap→Prop} {d:DefRec} {K:Params→PySem.W.Frag} (hn:l.most=some 63) (hdf:d.params.defaults=[]) (hrec:((PyProof.Rows.recsOf q).any fun e=>e.name==d.name)=true)
 (hY:∀(w:World) (h:Heap),YP w h→(K w.params).In h)
 (F:∀(w:World) (mg:Str→Option Value) (fa:Addr) (h:Heap),(K w.params).In h→h.Ns mainGlobals mg→mg d.name=some (.ref fa)→LamX.OwnTab (K w.params) fa h→LamX.LawAtS l w (K w.params) CX0 25 63 "_law_script" mg fa h):
 PySem.W.WalkO q loose XP YP l.row.toRowW d [] (fun f vs=>PySem.call f vs):=
 LamX.walk_ofOwn (n:=63) (k:=25) (x:="_law_script") (CX:=fun _=>CX0) hn (by decide) hdf ⟨rfl,by decide,by decide⟩ hrec hY (fun w mg fa h _ KX G hm ow=>F w mg fa h KX G hm ow) fun _ _ _ _ _ z=>z
end Law
open PySem PySem.W PyProof.Rows
set_option maxRecDepth 100000 in
set_option maxHeartbeats 0 in
theorem PySem.Challenge.cw_onepour_k10_texts_of_no_word_holds : PySem.Challenge.rw_onepour_k10_texts_of_no_word.Holds := by
 w_on;o_law;k_head;(case hw=>w_witness2)
 k_fill
 refine Law.walkL (l:=PySem.Challenge.rw_onepour_k10_texts_of_no_word) rfl rfl (by decide +kernel) (fun w h Y=>PySem.W.km_in_of Y) ?F
 case F=>
  intro w mg fa h KX G hmg own
  refine' Law.all_mk KX G hmg own ?a0 ?l0 ?c0 ?k0 ?q0_0 ?e0_0 ?a1 ?l1 ?c1 ?k1 ?a2 ?l2 ?c2 ?k2 ?a3 ?l3 ?c3 ?k3 ?a4 ?l4 ?c4 ?k4 ?a5 ?l5 ?c5 ?k5 ?a6 ?l6 ?c6 ?k6 ?a7 ?l7 ?c7 ?k7 ?a8 ?l8 ?c8 ?k8 ?a9 ?l9 ?c9 ?k9 ?a10 ?l10 ?c10 ?k10 ?a11 ?l11 ?c11 ?k11 ?a12 ?l12 ?c12 ?k12 ?a13 ?l13 ?c13 ?k13 ?a14 ?l14 ?c14 ?k14 ?a15 ?l15 ?c15 ?k15 ?a16 ?l16 ?c16 ?k16 ?a17 ?l17 ?c17 ?k17 ?a18 ?l18 ?c18 ?k18 ?a19 ?l19 ?c19 ?k19 ?a20 ?l20 ?c20 ?k20 ?a21 ?l21 ?c21 ?k21 ?a22 ?l22 ?c22 ?k22 ?a23 ?l23 ?c23 ?k23 ?a24 ?l24 ?c24 ?k24 ?z_abs ?z_all ?z_bool ?z_enumerate ?z_int ?z_isinstance ?z_len ?z_list ?z_max ?z_min ?z_range ?z_str ?z_tuple ?z_zip ?g_LONGEST ?r_LONGEST ?g_MOST ?r_MOST ?g_MOST_DEEP ?r_MOST_DEEP ?kn_TRUTH_PARTS ?kl_TRUTH_PARTS ?ko_TRUTH_PARTS ?ke_TRUTH_PARTS ?kx_TRUTH_PARTS_0 ?kx_TRUTH_PARTS_1 ?kx_TRUTH_PARTS_2 ?kx_TRUTH_PARTS_3 ?kx_TRUTH_PARTS_4 ?kx_TRUTH_PARTS_5 ?kx_TRUTH_PARTS_6 ?kn_VALUE_PARTS ?kl_VALUE_PARTS ?ko_VALUE_PARTS ?ke_VALUE_PARTS ?kx_VALUE_PARTS_0 ?kx_VALUE_PARTS_1 ?kx_VALUE_PARTS_2 ?kx_VALUE_PARTS_3 ?kx_VALUE_PARTS_4 ?kx_VALUE_PARTS_5 ?ac_BadText ?xb_BadText ?xt_BadText ?xl_BadText ?rv_BadText ?xk_BadText ?xs_BadText ?xn_BadText_at ?xa_BadText ?xm_BadText ?xc_BadText ?xp_BadText ?tvx_BadText ?tvd_BadText ?tvs_BadText ?yvx_BadText_0 ?xf_BadText ?ga_BadText ?gg_BadText ?gd_BadText ?gf_BadText_at ?xi_BadText ?ac_FormError ?xb_FormError ?xt_FormError ?vs_FormError ?vr_FormError ?vf_FormError ?ac_PourError ?xb_PourError ?xt_PourError ?xi_PourError ?s_BadText_BadText ?s_BadText_PourError ?lc ?v11 ?v18 ?v7 ?v9 ?v10 ?ncP ?tP
  (case a0=>k_is)
  (case l0=>k_is)
  (case c0=>k_is)
  (case k0=>k_is)
  (case q0_0=>k_is)
  (case e0_0=>exact M3.treeAt_int)
  (case a1=>k_is)
  (case l1=>k_is)
  (case c1=>k_is)
  (case k1=>k_is)
  (case a2=>k_is)
  (case l2=>k_is)
  (case c2=>k_is)
  (case k2=>k_is)
  (case a3=>k_is)
  (case l3=>k_is)
  (case c3=>k_is)
  (case k3=>k_is)
  (case a4=>k_is)
  (case l4=>k_is)
  (case c4=>k_is)
  (case k4=>k_is)
  (case a5=>k_is)
  (case l5=>k_is)
  (case c5=>k_is)
  (case k5=>k_is)
  (case a6=>k_is)
  (case l6=>k_is)
  (case c6=>k_is)
  (case k6=>k_is)
  (case a7=>k_is)
  (case l7=>k_is)
  (case c7=>k_is)
  (case k7=>k_is)
  (case a8=>k_is)
  (case l8=>k_is)
  (case c8=>k_is)
  (case k8=>k_is)
  (case a9=>k_is)
  (case l9=>k_is)
  (case c9=>k_is)
  (case k9=>k_is)
  (case a10=>k_is)
  (case l10=>k_is)
  (case c10=>k_is)
  (case k10=>k_is)
  (case a11=>k_is)
  (case l11=>k_is)
  (case c11=>k_is)
  (case k11=>k_is)
  (case a12=>k_is)
  (case l12=>k_is)
  (case c12=>k_is)
  (case k12=>k_is)
  (case a13=>k_is)
  (case l13=>k_is)
  (case c13=>k_is)
  (case k13=>k_is)
  (case a14=>k_is)
  (case l14=>k_is)
  (case c14=>k_is)
  (case k14=>k_is)
  (case a15=>k_is)
  (case l15=>k_is)
  (case c15=>k_is)
  (case k15=>k_is)
  (case a16=>k_is)
  (case l16=>k_is)
  (case c16=>k_is)
  (case k16=>k_is)
  (case a17=>k_is)
  (case l17=>k_is)
  (case c17=>k_is)
  (case k17=>k_is)
  (case a18=>k_is)
  (case l18=>k_is)
  (case c18=>k_is)
  (case k18=>k_is)
  (case a19=>k_is)
  (case l19=>k_is)
  (case c19=>k_is)
  (case k19=>k_is)
  (case a20=>k_is)
  (case l20=>k_is)
  (case c20=>k_is)
  (case k20=>k_is)
  (case a21=>k_is)
  (case l21=>k_is)
  (case c21=>k_is)
  (case k21=>k_is)
  (case a22=>k_is)
  (case l22=>k_is)
  (case c22=>k_is)
  (case k22=>k_is)
  (case a23=>k_is)
  (case l23=>k_is)
  (case c23=>k_is)
  (case k23=>k_is)
  (case a24=>k_is)
  (case l24=>k_is)
  (case c24=>k_is)
  (case k24=>k_is)
  (case z_abs=>k_is)
  (case z_all=>k_is)
  (case z_bool=>k_is)
  (case z_enumerate=>k_is)
  (case z_int=>k_is)
  (case z_isinstance=>k_is)
  (case z_len=>k_is)
  (case z_list=>k_is)
  (case z_max=>k_is)
  (case z_min=>k_is)
  (case z_range=>k_is)
  (case z_str=>k_is)
  (case z_tuple=>k_is)
  (case z_zip=>k_is)
  (case g_LONGEST=>k_is)
  (case r_LONGEST=>exact M3.treeAt_int)
  (case g_MOST=>k_is)
  (case r_MOST=>exact M3.treeAt_int)
  (case g_MOST_DEEP=>k_is)
  (case r_MOST_DEEP=>exact M3.treeAt_int)
  (case kn_TRUTH_PARTS=>k_is)
  (case kl_TRUTH_PARTS=>k_is)
  (case ko_TRUTH_PARTS=>decide +kernel)
  (case ke_TRUTH_PARTS=>rfl)
  (case kx_TRUTH_PARTS_0=>exact M3.treeAt_str)
  (case kx_TRUTH_PARTS_1=>exact M3.treeAt_str)
  (case kx_TRUTH_PARTS_2=>exact M3.treeAt_str)
  (case kx_TRUTH_PARTS_3=>exact M3.treeAt_str)
  (case kx_TRUTH_PARTS_4=>exact M3.treeAt_str)
  (case kx_TRUTH_PARTS_5=>exact M3.treeAt_str)
  (case kx_TRUTH_PARTS_6=>exact M3.treeAt_str)
  (case kn_VALUE_PARTS=>k_is)
  (case kl_VALUE_PARTS=>k_is)
  (case ko_VALUE_PARTS=>decide +kernel)
  (case ke_VALUE_PARTS=>rfl)
  (case kx_VALUE_PARTS_0=>exact M3.treeAt_str)
  (case kx_VALUE_PARTS_1=>exact M3.treeAt_str)
  (case kx_VALUE_PARTS_2=>exact M3.treeAt_str)
  (case kx_VALUE_PARTS_3=>exact M3.treeAt_str)
  (case kx_VALUE_PARTS_4=>exact M3.treeAt_str)
  (case kx_VALUE_PARTS_5=>exact M3.treeAt_str)
  (case ac_BadText=>k_is)
  (case xb_BadText=>k_is)
  (case xt_BadText=>k_is)
  (case xl_BadText=>k_is)
  (case rv_BadText=>decide +kernel)
  (case xk_BadText=>k_is)
  (case xs_BadText=>k_is)
  (case xn_BadText_at=>k_is)
  (case xa_BadText=>k_is)
  (case xm_BadText=>k_is)
  (case xc_BadText=>k_is)
  (case xp_BadText=>k_is)
  (case tvx_BadText=>k_is)
  (case tvd_BadText=>rfl)
  (case tvs_BadText=>rfl)
  (case yvx_BadText_0=>exact M3.treeAt_int)
  (case xf_BadText=>k_is)
  (case ga_BadText=>k_is)
  (case gg_BadText=>k_is)
  (case gd_BadText=>k_is)
  (case gf_BadText_at=>k_is)
  (case xi_BadText=>k_is)
  (case ac_FormError=>k_is)
  (case xb_FormError=>k_is)
  (case xt_FormError=>k_is)
  (case vs_FormError=>k_is)
  (case vr_FormError=>k_is)
  (case vf_FormError=>k_is)
  (case ac_PourError=>k_is)
  (case xb_PourError=>k_is)
  (case xt_PourError=>k_is)
  (case xi_PourError=>k_is)
  (case s_BadText_BadText=>first | rfl | k_is)
  (case s_BadText_PourError=>first | rfl | k_is)
  (case lc=>k_is)
  (case v11=>rfl)
  (case v18=>rfl)
  (case v7=>rfl)
  (case v9=>rfl)
  (case v10=>rfl)
  (case ncP=>decide +kernel)
  (case tP=>k_is)
#print axioms PySem.Challenge.cw_onepour_k10_texts_of_no_word_holds
