import PyProof.Rows.All
import Wide.All
import OpenK.AllK
import Wide.FinOn
import HandS.ForMost
import HandS.Wide
import HandS.IsInst
import HandS.Defaults
import HandS.EndBits
import HandS.Exc
import HandS.Flow
import HandS.TupAny
import HandS.TupMul
import HandS.Zip
import HandS.Lambda
import HandS.Style
import HandS.TryMany
import HandS.ExcOwn
import HandS.WordsExc
import HandS.EndOwn
import HandS.Deep
import HandS.MakeKwOnly
import HandS.MakeKw
import KE.KUnpackStar
import KE.DataCmp
import HandS.ExcValue
import PyProof.Rows.TupIter
import HandS.Strs
import KE.KDictZip
import KE.GoesZip
import KE.GoesMore
import HandS.More
import HandS.ExcInit
import HandS.ExcField
import HandS.FStr
import KE.KDflt
import KE.KDictPairs
import HandS.CallLocal
import HandS.ReCall
import PyProof.FactsAll.tuple_2
import PyProof.FactsAll.tuple_3
import KE.KEqNest
import PyProof.NeKinds
import HandS.DictComp
import KE.DataMinMax
import HandS.SortKw
import HandS.Set
import HandS.SetTxt0
import HandS.SetBool
import PySem.Challenge.RW_onepour_k06_deep_words_and_their_columns
set_option Elab.async false
set_option linter.all false
set_option maxRecDepth 100000
set_option maxHeartbeats 4000000
/-! L3Z: tuples that are known whole from their birth: their object has no dict. -/
namespace M3
open PySem L2
section
variable {X : Cx}
/-- a new tuple -/
def newT (H : Hp) (xs : List V) (Q : VK) : Prop := ∀ (p : Addr) (o : Obj), H p = none → o.dict = none → Q (.ref p) (upd H p (.frz o (.tup xs)))
theorem frz_tup {P : Program} {w : World} {H : Hp} {h : Heap} {xs : List V} {its : List Value} {o : Obj} (ho : o = { cls := .type "tuple", data := .seq its.toArray }) (hz : xs.length ≤ sizeLine) (r : Vals xs its) : ObjOk P w H (h.push o) h.objs.size (.frz o (.tup xs)) := by
  subst ho
  exact ⟨Heap.get?_push_size _ rfl, hz, its, r, PyProof.Rows.IsTup.new _ _⟩
theorem lay_tup {pins : List (Addr × Obj)} {σ : St} {H : Hp} {s : Shared} {xs : List V} {its : List Value} {Q : VK} (I : Inv X pins σ H s) (hz : xs.length ≤ sizeLine) (r : Vals xs its) (q : newT H xs Q) :
    EP X pins σ Q (.ref s.heap.objs.size) { s with heap := s.heap.push { cls := .type "tuple", data := .seq its.toArray } } :=
  ⟨.ref s.heap.objs.size, _, I.laid (t' := s.toks) (fun _ _ e => Heap.get?_push_of_some _ e) (Nat.le_refl _) (frz_tup rfl hz r), rfl, q _ _ (I.hok.fresh (Nat.le_refl _)) rfl⟩
def tTup (t : TA) : TE := fun σ H Q => t σ H fun xs H1 => xs.length ≤ sizeLine ∧ newT H1 xs Q
theorem pe_tup {x1} {es : List Expr} {t : TA} {pos : Pos} (h : PA X es t) : PE X (.Tuple es x1 pos) (tTup t) := by
  constructor
  intro pins s σ H Q I hq
  refine wpAny_Tuple_spliced (thn (h.run pos pins s σ H _ I hq) ?_)
  rintro us s1 ⟨xs, H1, I1, r, z, q⟩
  exact ⟨by rw [← r.length]; exact z, lay_tup I1 z r q⟩
/-- tuple(x) -/
def rTup (K : PySem.W.Frag) (xs : List V) (H : Hp) (Q : VK) : Prop := ∃ p ys, xs = [.ref p] ∧ ((SqL K H p ys ∧ newT H ys Q) ∨ (SqT K H p ys ∧ Q (.ref p) H))
theorem call_tupleF : CallR X (.type "tuple") (rTup X.K) := by
  intro pins s σ H xs us Q I r h
  obtain ⟨p, ys, rfl, h⟩ := h
  obtain ⟨u, rfl, ru⟩ := vals1 r
  cases ru
  rcases h with ⟨hs, q⟩ | ⟨hs, q⟩
  · obtain ⟨its, rv, pl, hz⟩ := I.list hs
    refine call_tuple_list pl.isList (fun h' kp => ?_) (by rw [List.size_toArray, ← rv.length]; exact hz)
    exact lay_tup (s := { s with heap := h' }) (I.kept (t' := s.toks) kp) hz rv q
  · obtain ⟨its, _, p1, _⟩ := I.tuple hs
    exact call_tuple_same (items := its.toArray) p1 ⟨.ref p, H, I, rfl, q⟩
/-- t[lo:hi] -/
def rSlF (K : PySem.W.Frag) : V → Option Int → Option Int → Hp → VK → Prop := fun x lo hi H Q => ∃ a xs, x = .ref a ∧ SqT K H a xs ∧
  ((HT.sIx xs.length 0 lo = 0 ∧ HT.sIx xs.length xs.length hi = xs.length) → Q (.ref a) H) ∧ (¬ (HT.sIx xs.length 0 lo = 0 ∧ HT.sIx xs.length xs.length hi = xs.length) → newT H (cutV xs lo hi) Q)
theorem sl_tupF : SlR X (rSlF X.K) := by
  intro pins s σ H x v vl vu lo hi sl Q I rx hs pl pu h
  obtain ⟨a, xs, rfl, hx, q1, q2⟩ := h
  cases rx
  obtain ⟨its, r, ht, hz⟩ := I.tuple hx
  have el : its.toArray.size = xs.length := by rw [List.size_toArray]; exact r.length.symm
  refine ⟨"tuple", _, PyProof.Rows.slot_tuple_getitem.lookup, ht.typeIs, ?_⟩
  by_cases hw : HT.sIx xs.length 0 lo = 0 ∧ HT.sIx xs.length xs.length hi = xs.length
  · exact getItem_tuple_whole ht hs pl pu (by rw [el]; exact hw) ⟨.ref a, H, I, rfl, q1 hw⟩
  · refine HT.getItem_tuple_cut ht hs pl pu (by rw [el]; exact hw) ?_ (by rw [el]; exact hz)
    rw [el]
    exact lay_tup I (Nat.le_trans (cutV_length xs lo hi) hz) ((r.drop (HT.sIx xs.length 0 lo)).take (HT.sIx xs.length xs.length hi - HT.sIx xs.length 0 lo)) (q2 hw)
/-- t + u -/
def rCatF (K : PySem.W.Frag) : R2 := fun x y H Q => ∃ a b xs ys, x = .ref a ∧ y = .ref b ∧ SqT K H a xs ∧ SqT K H b ys ∧ xs.length + ys.length ≤ sizeLine ∧
  (xs = [] → Q (.ref b) H) ∧ (xs ≠ [] → ys = [] → Q (.ref a) H) ∧ (xs ≠ [] → ys ≠ [] → newT H (xs ++ ys) Q)
theorem op_catF : OpR X (binaryOp .Add) (rCatF X.K) := by
  intro pins s σ H x y v u Q I rx ry h
  obtain ⟨a, b, xs, ys, rfl, rfl, ha, hb, hz, q0, q1, q2⟩ := h
  cases rx
  cases ry
  obtain ⟨its, r1, p1, _⟩ := I.tuple ha
  obtain ⟨jts, r2, p2, _⟩ := I.tuple hb
  by_cases hx : xs = []
  · subst hx
    cases r1
    exact cat_tup0 p1 p2 ⟨.ref b, H, I, rfl, q0 rfl⟩
  · refine HT.cat_tup p1 p2 (fun z => hx (r1.nil_iff.mp z)) (fun z => ⟨.ref a, H, I, rfl, q1 hx (r2.nil_iff.mp z)⟩) (fun z => ?_) (by rw [← r1.length, ← r2.length]; exact hz)
    exact lay_tup I (by rw [List.length_append]; exact hz) (r1.append r2) (q2 hx fun w => z (r2.nil_iff.mpr w))
end
end M3

/-! L3A: trees over the hand layer. A value is read as a tree (T); what may change is hidden. -/
namespace M3
open PySem L2
/-- a value as a tree -/
inductive T where
  | non | bl (b : Bool) | int (i : Int) | str (x : Str) | ty (n : String) | ref (a : Addr)
  | tup (xs : List T) | lst (xs : List T) | dic (kvs : List (Key × T)) | ins (C : Addr) (fs : List (Str × T))
/-! ### hidden addresses -/
/-- a code object's table is never seen: it may grow -/
def vis : HO → Bool
  | .tbl _ => false
  | _ => true
/-- the heap without some addresses -/
def out (S : List Addr) (H : Hp) : Hp := fun a => if a ∈ S then none else H a
theorem out_in {S : List Addr} {H : Hp} {a : Addr} (h : a ∈ S) : out S H a = none := by unfold out; rw [if_pos h]
theorem out_out {S : List Addr} {H : Hp} {a : Addr} (h : a ∉ S) : out S H a = H a := by unfold out; rw [if_neg h]
theorem out_some {S : List Addr} {H : Hp} {a : Addr} {o : HO} (h : out S H a = some o) : H a = some o ∧ a ∉ S := by
  by_cases e : a ∈ S
  · rw [out_in e] at h; cases h
  · rw [out_out e] at h; exact ⟨h, e⟩
def hid (S : List Addr) (H : Hp) : Hp := fun a => (out S H a).bind fun o => if vis o = true then some o else none
theorem hid_in {S : List Addr} {H : Hp} {a : Addr} (h : a ∈ S) : hid S H a = none := by unfold hid; rw [out_in h]; rfl
theorem hid_all {S : List Addr} {H : Hp} {a : Addr} {o : HO} (h : hid S H a = some o) : H a = some o ∧ a ∉ S ∧ vis o = true := by
  unfold hid at h
  cases e : out S H a with
  | none => rw [e] at h; cases h
  | some u =>
    rw [e] at h
    have h : (if vis u = true then some u else none) = some o := h
    by_cases v : vis u = true
    · rw [if_pos v] at h
      cases h
      exact ⟨(out_some e).1, (out_some e).2, v⟩
    · rw [if_neg v] at h; cases h
theorem hid_some {S : List Addr} {H : Hp} {a : Addr} {o : HO} (h : hid S H a = some o) : H a = some o ∧ a ∉ S := ⟨(hid_all h).1, (hid_all h).2.1⟩
theorem hid_vis {S : List Addr} {H : Hp} {a : Addr} {o : HO} (h : hid S H a = some o) : vis o = true := (hid_all h).2.2
theorem hid_mk {S : List Addr} {H : Hp} {a : Addr} {o : HO} (h : H a = some o) (n : a ∉ S) (v : vis o = true := by first | rfl | exact hid_vis (by assumption)) : hid S H a = some o := by
  unfold hid
  rw [out_out n, h]
  show (if vis o = true then some o else none) = some o
  rw [if_pos v]
theorem hid_same {S : List Addr} {H : Hp} : Same (hid S H) H := fun _ _ h => (hid_some h).1
theorem hid_mono {S S' : List Addr} {H : Hp} (h : ∀ a ∈ S', a ∈ S) : Same (hid S H) (hid S' H) := fun a _ e => by
  obtain ⟨e1, e2⟩ := hid_some e
  exact hid_mk e1 fun z => e2 (h a z)
theorem Same.rd {H H' : Hp} (e : Same H H') {a : Addr} {u : HO} (h : Rd H a u) : Rd H' a u := by
  rcases h with h | ⟨o, h⟩
  · exact .inl (e _ _ h)
  · exact .inr ⟨o, e _ _ h⟩
theorem Same.sqT {K : PySem.W.Frag} {H H' : Hp} {a : Addr} {xs : List V} (e : Same H H') (h : SqT K H a xs) : SqT K H' a xs := by
  rcases h with h | h
  · exact .inl (Same.rd e h)
  · exact .inr h
/-- a tuple that is known whole -/
def FqT (K : PySem.W.Frag) (H : Hp) (a : Addr) (xs : List V) : Prop :=
  (∃ o : Obj, o.dict = none ∧ H a = some (.frz o (.tup xs))) ∨
    ∃ (o : Obj) (its : Array Value) (n : Nat), K.lookup a = some o ∧ o.dict = none ∧ o.cls = .type "tuple" ∧ o.data = .seq its n ∧ its.size ≤ sizeLine ∧ Vals xs its.toList
theorem FqT.sq {K : PySem.W.Frag} {H : Hp} {a : Addr} {xs : List V} (h : FqT K H a xs) : SqT K H a xs := by
  rcases h with ⟨o, _, h⟩ | ⟨o, its, n, h1, _, h2, h3, h4, h5⟩
  · exact .inl (.inr ⟨o, h⟩)
  · exact .inr ⟨o, its, n, h1, h2, h3, h4, h5⟩
theorem FqT.of {K : PySem.W.Frag} {H : Hp} {a : Addr} {xs : List V} {o : Obj} (d : o.dict = none) (h : H a = some (.frz o (.tup xs))) : FqT K H a xs := .inl ⟨o, d, h⟩
theorem Same.fqT {K : PySem.W.Frag} {H H' : Hp} {a : Addr} {xs : List V} (e : Same H H') (h : FqT K H a xs) : FqT K H' a xs := by
  rcases h with ⟨o, d, h⟩ | h
  · exact .inl ⟨o, d, e _ _ h⟩
  · exact .inr h
theorem Same.sqL {K : PySem.W.Frag} {H H' : Hp} {a : Addr} {xs : List V} (e : Same H H') (h : SqL K H a xs) : SqL K H' a xs := by
  rcases h with h | h
  · exact .inl (Same.rd e h)
  · exact .inr h
/-! ### what a tree is in a heap -/
inductive Rep (K : PySem.W.Frag) (H : Hp) : V → T → Prop where
  | non : Rep K H .non .non
  | bl (b : Bool) : Rep K H (.bl b) (.bl b)
  | int (i : Int) : Rep K H (.int i) (.int i)
  | str (x : Str) : Rep K H (.str x) (.str x)
  | ty (n : String) : Rep K H (.ty n) (.ty n)
  | ref (a : Addr) : Rep K H (.ref a) (.ref a)
  | tup {a : Addr} {vs : List V} {ts : List T} (h : FqT K H a vs) (hl : vs.length = ts.length) (hr : ∀ (i : Nat) v t, vs[i]? = some v → ts[i]? = some t → Rep K H v t) : Rep K H (.ref a) (.tup ts)
  | lst {a : Addr} {vs : List V} {ts : List T} (h : H a = some (.lst vs)) (hl : vs.length = ts.length) (hr : ∀ (i : Nat) v t, vs[i]? = some v → ts[i]? = some t → Rep K H v t) : Rep K H (.ref a) (.lst ts)
  | dic {a : Addr} {kvs : List (Key × V)} {ts : List (Key × T)} (h : ∃ o, H a = some (.frz o (.dK kvs))) (hk : kvs.map (·.1) = ts.map (·.1))
      (hr : ∀ (i : Nat) v t, (kvs.map (·.2))[i]? = some v → (ts.map (·.2))[i]? = some t → Rep K H v t) : Rep K H (.ref a) (.dic ts)
  | ins {a C dx : Addr} {fs : List (Str × V)} {ts : List (Str × T)} (h : H a = some (.ins C dx fs)) (hk : fs.map (·.1) = ts.map (·.1))
      (hr : ∀ (i : Nat) v t, (fs.map (·.2))[i]? = some v → (ts.map (·.2))[i]? = some t → Rep K H v t) : Rep K H (.ref a) (.ins C ts)
abbrev RepL (K : PySem.W.Frag) (H : Hp) : List V → List T → Prop := Paired (Rep K H)
section
variable {K : PySem.W.Frag} {H H' : Hp} {v : V} {t : T} {vs : List V} {ts : List T} {a : Addr}
theorem Rep.mono (r : Rep K H v t) (e : Same H H') : Rep K H' v t := by
  induction r with
  | non => exact .non
  | bl b => exact .bl b
  | int i => exact .int i
  | str x => exact .str x
  | ty n => exact .ty n
  | ref a => exact .ref a
  | tup h hl _ ih => exact .tup (Same.fqT e h) hl ih
  | lst h hl _ ih => exact .lst (e _ _ h) hl ih
  | dic h hk _ ih => exact .dic (let ⟨o, q⟩ := h; ⟨o, e _ _ q⟩) hk ih
  | ins h hk _ ih => exact .ins (e _ _ h) hk ih
theorem repL_mk : ∀ {vs : List V} {ts : List T}, vs.length = ts.length → (∀ (i : Nat) v t, vs[i]? = some v → ts[i]? = some t → Rep K H v t) → RepL K H vs ts
  | [], [], _, _ => .nil
  | v :: vs, t :: ts, hl, hr => .cons (hr 0 v t rfl rfl) (repL_mk (by simpa using hl) fun i v t h1 h2 => hr (i + 1) v t (by simpa using h1) (by simpa using h2))
  | [], _ :: _, hl, _ => by simp at hl
  | _ :: _, [], hl, _ => by simp at hl
theorem RepL.length (r : RepL K H vs ts) : vs.length = ts.length := Paired.length r
theorem RepL.at : ∀ {vs : List V} {ts : List T} {i : Nat} {v : V} {t : T}, RepL K H vs ts → vs[i]? = some v → ts[i]? = some t → Rep K H v t
  | _, _, _, _, _, .nil, e, _ => by simp at e
  | _, _, 0, _, _, .cons r _, e, f => by simp at e f; subst e; subst f; exact r
  | _, _, i + 1, v, t, .cons _ q, e, f => RepL.at (i := i) (v := v) (t := t) q (by simpa using e) (by simpa using f)
theorem RepL.get : ∀ {vs : List V} {ts : List T} {i : Nat} {t : T}, RepL K H vs ts → ts[i]? = some t → ∃ v, vs[i]? = some v ∧ Rep K H v t
  | _, _, _, _, .nil, e => by simp at e
  | _, _, 0, _, .cons r _, e => by simp at e; subst e; exact ⟨_, rfl, r⟩
  | _, _, i + 1, t, .cons _ q, e => by
    obtain ⟨v, h1, h2⟩ := RepL.get (i := i) (t := t) q (by simpa using e)
    exact ⟨v, by simpa using h1, h2⟩
theorem RepL.mono (r : RepL K H vs ts) (e : Same H H') : RepL K H' vs ts := Paired.mapP r fun _ _ z => z.mono e
theorem RepL.append : ∀ {vs ws : List V} {ts us : List T}, RepL K H vs ts → RepL K H ws us → RepL K H (vs ++ ws) (ts ++ us)
  | _, _, _, _, .nil, s => s
  | _, _, _, _, .cons r t, s => .cons r (RepL.append t s)
theorem RepL.take : ∀ {vs : List V} {ts : List T} (n : Nat), RepL K H vs ts → RepL K H (vs.take n) (ts.take n)
  | _, _, 0, _ => .nil
  | _, _, _ + 1, .nil => .nil
  | _, _, n + 1, .cons r t => .cons r (RepL.take n t)
theorem RepL.drop : ∀ {vs : List V} {ts : List T} (n : Nat), RepL K H vs ts → RepL K H (vs.drop n) (ts.drop n)
  | _, _, 0, r => r
  | _, _, _ + 1, .nil => .nil
  | _, _, n + 1, .cons _ t => RepL.drop n t
theorem RepL.set {v : V} {t : T} (r : Rep K H v t) : ∀ {vs : List V} {ts : List T} (i : Nat), RepL K H vs ts → RepL K H (vs.set i v) (ts.set i t)
  | _, _, _, .nil => .nil
  | _, _, 0, .cons _ q => .cons r q
  | _, _, i + 1, .cons p q => .cons p (RepL.set r i q)
theorem Rep.mkT (h : FqT K H a vs) (r : RepL K H vs ts) : Rep K H (.ref a) (.tup ts) := .tup h r.length fun _ _ _ => r.at
theorem Rep.mkL (h : H a = some (.lst vs)) (r : RepL K H vs ts) : Rep K H (.ref a) (.lst ts) := .lst h r.length fun _ _ _ => r.at
theorem Rep.tupI (r : Rep K H v (.tup ts)) : ∃ a vs, v = .ref a ∧ SqT K H a vs ∧ RepL K H vs ts := by
  cases r with
  | tup h hl hr => exact ⟨_, _, rfl, h.sq, repL_mk hl hr⟩
theorem Rep.tupF (r : Rep K H v (.tup ts)) : ∃ a vs, v = .ref a ∧ FqT K H a vs ∧ RepL K H vs ts := by
  cases r with
  | tup h hl hr => exact ⟨_, _, rfl, h, repL_mk hl hr⟩
/-- what an iterator gives out: w tells that it may be a tuple that is used again -/
def RepB (K : PySem.W.Frag) (w : Bool) (H : Hp) (v : V) (t : T) : Prop := Rep K H v t ∨ (w = true ∧ ∃ a vs ts, v = .ref a ∧ t = .tup ts ∧ SqT K H a vs ∧ RepL K H vs ts)
theorem RepB.f (r : RepB K false H v t) : Rep K H v t := by
  rcases r with r | ⟨z, _⟩
  · exact r
  · cases z
theorem RepB.tupI {w : Bool} (r : RepB K w H v (.tup ts)) : ∃ a vs, v = .ref a ∧ SqT K H a vs ∧ RepL K H vs ts := by
  rcases r with r | ⟨_, a, vs, us, rfl, e, h, q⟩
  · exact r.tupI
  · cases e; exact ⟨a, vs, rfl, h, q⟩
theorem Rep.lstI (r : Rep K H v (.lst ts)) : ∃ a vs, v = .ref a ∧ H a = some (.lst vs) ∧ RepL K H vs ts := by
  cases r with
  | lst h hl hr => exact ⟨_, _, rfl, h, repL_mk hl hr⟩
theorem Rep.intI {i : Int} (r : Rep K H v (.int i)) : v = .int i := by cases r; rfl
theorem Rep.blI {b : Bool} (r : Rep K H v (.bl b)) : v = .bl b := by cases r; rfl
theorem Rep.strI {x : Str} (r : Rep K H v (.str x)) : v = .str x := by cases r; rfl
theorem Rep.nonI (r : Rep K H v .non) : v = .non := by cases r; rfl
theorem Rep.tyI {n : String} (r : Rep K H v (.ty n)) : v = .ty n := by cases r; rfl
theorem Rep.refI (r : Rep K H v (.ref a)) : v = .ref a := by cases r; rfl
end
/-! ### the state -/
inductive Sl where
  | no | val (t : T) | own (t : T)
/-- things known by what is true of their object (code objects) stay -/
def SameX (H H' : Hp) : Prop := ∀ a q, H a = some (LamX.CodeO a q) → H' a = some (LamX.CodeO a q)
/-- what is hidden from the trees for good: its addresses, and what is true of them -/
structure Cf where
  S0 : List Addr
  I : Hp → Prop
  st : ∀ H H', (∀ a ∈ S0, H' a = H a) → SameX H H' → I H → I H'
  on : ∀ H, I H → ∀ a ∈ S0, H a ≠ none
  gOk : HO → Prop
  gL : ∀ vs, gOk (.lst vs)
  gV : ∀ o, vis o = true → gOk o
def addrs (A : List (Option Addr)) : List Addr := A.filterMap id
def Cf.S (c : Cf) (G : List Addr) (A : List (Option Addr)) : List Addr := c.S0 ++ G ++ addrs A
def OwnRep (K : PySem.W.Frag) (Hv H : Hp) (a : Addr) : T → Prop
  | .lst xs => ∃ vs, H a = some (.lst vs) ∧ RepL K Hv vs xs
  | .dic kvs => ∃ ks, H a = some (.dK ks) ∧ ks.map (·.1) = kvs.map (·.1) ∧ RepL K Hv (ks.map (·.2)) (kvs.map (·.2))
  | .tup xs => ∃ x C fs, xs = [.ref x, .ins C fs] ∧ a = x ∧ ∃ dx ks, H a = some (.ins C dx ks) ∧ ks.map (·.1) = fs.map (·.1) ∧ RepL K Hv (ks.map (·.2)) (fs.map (·.2))
  | _ => False
def SlRep (K : PySem.W.Frag) (Hv H : Hp) (s : Sl) (o : Option Addr) (x : Option V) : Prop :=
  match s with
  | .no => o = none
  | .val t => o = none ∧ ∃ v, x = some v ∧ Rep K Hv v t
  | .own t => ∃ a, o = some a ∧ x = some (.ref a) ∧ OwnRep K Hv H a t
structure R3 (K : PySem.W.Frag) (c : Cf) (Hb : Hp) (G : List Addr) (A : List (Option Addr)) (σ3 : List Sl) (σ : St) (H : Hp) : Prop where
  inv : c.I H
  base : Same (hid (c.S0 ++ G) Hb) (hid (c.S G A) H)
  gk : ∀ a ∈ G, H a = Hb a ∧ H a ≠ none ∧ a ∉ c.S0
  gv : ∀ a ∈ G, ∀ o, H a = some o → c.gOk o
  nd : (addrs A).Nodup
  ns : ∀ a ∈ addrs A, a ∉ c.S0 ++ G
  l1 : A.length = σ3.length
  l2 : σ.length = σ3.length
  at_ : ∀ (i : Nat) s o x, σ3[i]? = some s → A[i]? = some o → σ[i]? = some x → SlRep K (hid (c.S G A) H) H s o x
/-- from one heap to a later one, while an expression is reckoned -/
structure Le (c : Cf) (G : List Addr) (A : List (Option Addr)) (H H' : Hp) : Prop where
  vis : Same (hid (c.S G A) H) (hid (c.S G A) H')
  own : ∀ a ∈ G ++ addrs A, H' a = H a
  inv : c.I H'
theorem Le.trans {c : Cf} {G : List Addr} {A : List (Option Addr)} {H H1 H2 : Hp} (a : Le c G A H H1) (b : Le c G A H1 H2) : Le c G A H H2 :=
  ⟨Same.trans a.vis b.vis, fun x h => (b.own x h).trans (a.own x h), b.inv⟩
theorem Le.refl {c : Cf} {G : List Addr} {A : List (Option Addr)} {H : Hp} (h : c.I H) : Le c G A H H := ⟨Same.refl _, fun _ _ => rfl, h⟩
theorem mem_S {c : Cf} {G : List Addr} {A : List (Option Addr)} {a : Addr} : a ∈ c.S G A ↔ a ∈ c.S0 ∨ a ∈ G ∨ a ∈ addrs A := by
  unfold Cf.S
  rw [List.mem_append, List.mem_append, or_assoc]
theorem mem_addrs {A : List (Option Addr)} {a : Addr} : a ∈ addrs A ↔ some a ∈ A := by
  unfold addrs
  rw [List.mem_filterMap]
  exact ⟨fun ⟨x, h, e⟩ => by cases e; exact h, fun h => ⟨_, h, rfl⟩⟩
section
variable {K : PySem.W.Frag} {c : Cf} {Hb H H' : Hp} {G : List Addr} {A : List (Option Addr)} {σ3 : List Sl} {σ : St} {v : V} {t : T}
theorem OwnRep.mono {Hv Hv' : Hp} {a : Addr} {t : T} (r : OwnRep K Hv H a t) (e : Same Hv Hv') (h : H' a = H a) : OwnRep K Hv' H' a t := by
  cases t with
  | lst xs => obtain ⟨vs, h1, h2⟩ := r; exact ⟨vs, h.trans h1, h2.mono e⟩
  | dic kvs => obtain ⟨ks, h1, h2, h3⟩ := r; exact ⟨ks, h.trans h1, h2, h3.mono e⟩
  | tup xs => obtain ⟨x, C, fs, h0, h4, dx, ks, h1, h2, h3⟩ := r; exact ⟨x, C, fs, h0, h4, dx, ks, h.trans h1, h2, h3.mono e⟩
  | _ => exact r
theorem OwnRep.there {Hv : Hp} {a : Addr} {t : T} (r : OwnRep K Hv H a t) : H a ≠ none := by
  cases t with
  | lst xs => obtain ⟨vs, h1, h2⟩ := r; rw [h1]; intro z; cases z
  | dic kvs => obtain ⟨ks, h1, h2, h3⟩ := r; rw [h1]; intro z; cases z
  | tup xs => obtain ⟨x, C, fs, h0, h4, dx, ks, h1, h2, h3⟩ := r; rw [h1]; intro z; cases z
  | _ => exact r.elim
theorem R3.le (r : R3 K c Hb G A σ3 σ H) (l : Le c G A H H') : R3 K c Hb G A σ3 σ H' where
  inv := l.inv
  base := Same.trans r.base l.vis
  gk := fun a h => ⟨(l.own a (List.mem_append.mpr (.inl h))).trans (r.gk a h).1, by rw [l.own a (List.mem_append.mpr (.inl h))]; exact (r.gk a h).2.1, (r.gk a h).2.2⟩
  gv := fun a h o e => r.gv a h o (by rw [← l.own a (List.mem_append.mpr (.inl h))]; exact e)
  nd := r.nd
  ns := r.ns
  l1 := r.l1
  l2 := r.l2
  at_ := fun i s o x h1 h2 h3 => by
    have z := r.at_ i s o x h1 h2 h3
    cases s with
    | no => exact z
    | val t => obtain ⟨e, v, e2, q⟩ := z; exact ⟨e, v, e2, q.mono l.vis⟩
    | own t =>
      obtain ⟨a, e, e2, q⟩ := z
      refine ⟨a, e, e2, q.mono l.vis (l.own a (List.mem_append.mpr (.inr (mem_addrs.mpr ?_))))⟩
      subst e
      exact List.mem_of_getElem? h2
theorem R3.get (r : R3 K c Hb G A σ3 σ H) {i : Nat} (h : σ3[i]? = some (.val t)) : ∃ v, σ[i]? = some (some v) ∧ Rep K (hid (c.S G A) H) v t := by
  have hl : i < σ3.length := (List.getElem?_eq_some_iff.mp h).1
  have h1 : i < A.length := by rw [r.l1]; exact hl
  have h2 : i < σ.length := by rw [r.l2]; exact hl
  obtain ⟨_, v, e, q⟩ := r.at_ i _ _ _ h (List.getElem?_eq_getElem h1) (List.getElem?_eq_getElem h2)
  exact ⟨v, by rw [List.getElem?_eq_getElem h2, e], q⟩
/-- every hidden address is taken -/
theorem R3.there (r : R3 K c Hb G A σ3 σ H) {a : Addr} (h : a ∈ c.S G A) : H a ≠ none := by
  rcases mem_S.mp h with h | h | h
  · exact c.on H r.inv a h
  · exact (r.gk a h).2.1
  · have h' := mem_addrs.mp h
    obtain ⟨i, hi⟩ := List.getElem?_of_mem h'
    have hl : i < A.length := (List.getElem?_eq_some_iff.mp hi).1
    have h1 : i < σ3.length := by rw [← r.l1]; exact hl
    have h2 : i < σ.length := by rw [r.l2]; exact h1
    have z := r.at_ i _ _ _ (List.getElem?_eq_getElem h1) hi (List.getElem?_eq_getElem h2)
    cases e : σ3[i] with
    | no => rw [e] at z; cases z
    | val t => rw [e] at z; obtain ⟨z, _⟩ := z; cases z
    | own t =>
      rw [e] at z
      obtain ⟨b, e1, e2, q⟩ := z
      cases e1
      exact q.there
theorem R3.free (r : R3 K c Hb G A σ3 σ H) {p : Addr} (h : H p = none) : p ∉ c.S G A := fun z => r.there z h
/-- a new object -/
theorem R3.new (r : R3 K c Hb G A σ3 σ H) {p : Addr} {o : HO} (h : H p = none) : Le c G A H (upd H p o) where
  vis := fun a u e => by
    obtain ⟨e1, e2⟩ := hid_some e
    exact hid_mk (by rw [upd_ne (ne_of_none e1 h)]; exact e1) e2
  own := fun a ha => by
    have hm : a ∈ c.S G A := mem_S.mpr (by rcases List.mem_append.mp ha with z | z; exact .inr (.inl z); exact .inr (.inr z))
    have : a ≠ p := fun z => by subst z; exact r.there hm h
    rw [upd_ne this]
  inv := c.st H _ (fun a ha => by
    have hm : a ∈ c.S G A := mem_S.mpr (.inl ha)
    have : a ≠ p := fun z => by subst z; exact r.there hm h
    rw [upd_ne this]) (fun a φ e => by rw [upd_ne (ne_of_none e h)]; exact e) r.inv
theorem R3.newAt (r : R3 K c Hb G A σ3 σ H) {p : Addr} {o : HO} (h : H p = none) (v : vis o = true := by rfl) : hid (c.S G A) (upd H p o) p = some o := hid_mk upd_same (r.free h) v
theorem getElem?_set_cases {α : Type} {l : List α} {i j : Nat} {x y : α} (h : (l.set i x)[j]? = some y) : (i = j ∧ y = x ∧ i < l.length) ∨ (i ≠ j ∧ l[j]? = some y) := by
  by_cases e : i = j
  · subst e
    have hl : i < l.length := by
      have := (List.getElem?_eq_some_iff.mp h).1
      simpa using this
    rw [List.getElem?_set_self hl] at h
    cases h
    exact .inl ⟨rfl, rfl, hl⟩
  · rw [List.getElem?_set_ne e] at h
    exact .inr ⟨e, h⟩
theorem addrs_set_sub {A : List (Option Addr)} {i : Nat} : ∀ a ∈ addrs (A.set i none), a ∈ addrs A := fun a h => by
  have h' := mem_addrs.mp h
  obtain ⟨j, hj⟩ := List.getElem?_of_mem h'
  rcases getElem?_set_cases hj with ⟨_, e, _⟩ | ⟨_, e⟩
  · cases e
  · exact mem_addrs.mpr (List.mem_of_getElem? e)
theorem S_sub {A A' : List (Option Addr)} (h : ∀ a ∈ addrs A', a ∈ addrs A) : ∀ a ∈ c.S G A', a ∈ c.S G A := fun a z => by
  rcases mem_S.mp z with z | z | z
  · exact mem_S.mpr (.inl z)
  · exact mem_S.mpr (.inr (.inl z))
  · exact mem_S.mpr (.inr (.inr (h a z)))
theorem nodup_filterMap_set : ∀ {A : List (Option Addr)} {i : Nat}, (addrs A).Nodup → (addrs (A.set i none)).Nodup
  | [], i, h => by simpa using h
  | none :: A, 0, h => h
  | some a :: A, 0, h => (List.nodup_cons.mp (show (a :: addrs A).Nodup from h)).2
  | none :: A, i + 1, h => nodup_filterMap_set (A := A) (i := i) h
  | some a :: A, i + 1, h => by
    have h' := List.nodup_cons.mp (show (a :: addrs A).Nodup from h)
    exact List.nodup_cons.mpr ⟨fun z => h'.1 (addrs_set_sub a z), nodup_filterMap_set (A := A) (i := i) h'.2⟩
/-- a slot is stored with a value -/
theorem R3.set (r : R3 K c Hb G A σ3 σ H) (i : Nat) (q : Rep K (hid (c.S G A) H) v t) : R3 K c Hb G (A.set i none) (σ3.set i (.val t)) (σ.set i (some v)) H := by
  have sub : Same (hid (c.S G A) H) (hid (c.S G (A.set i none)) H) := hid_mono (S_sub addrs_set_sub)
  refine ⟨r.inv, Same.trans r.base sub, r.gk, r.gv, nodup_filterMap_set (A := A) r.nd, fun a h => r.ns a (addrs_set_sub a h), by rw [List.length_set, List.length_set, r.l1], by rw [List.length_set, List.length_set, r.l2], ?_⟩
  intro j s o x h1 h2 h3
  rcases getElem?_set_cases h1 with ⟨e, e1, _⟩ | ⟨e, e1⟩
  · subst e
    subst e1
    rcases getElem?_set_cases h2 with ⟨_, e2, _⟩ | ⟨e2, _⟩
    · subst e2
      rcases getElem?_set_cases h3 with ⟨_, e3, _⟩ | ⟨e3, _⟩
      · subst e3
        exact ⟨rfl, v, rfl, q.mono sub⟩
      · exact absurd rfl e3
    · exact absurd rfl e2
  · rw [List.getElem?_set_ne e] at h2 h3
    have z := r.at_ j s o x e1 h2 h3
    cases s with
    | no => exact z
    | val t => obtain ⟨e, v, e2, q⟩ := z; exact ⟨e, v, e2, q.mono sub⟩
    | own t => obtain ⟨a, e, e2, q⟩ := z; exact ⟨a, e, e2, q.mono sub rfl⟩
/-- a slot is forgotten -/
theorem R3.wipe1 (r : R3 K c Hb G A σ3 σ H) (i : Nat) (x : Option V) : R3 K c Hb G (A.set i none) (σ3.set i .no) (σ.set i x) H := by
  have sub : Same (hid (c.S G A) H) (hid (c.S G (A.set i none)) H) := hid_mono (S_sub addrs_set_sub)
  refine ⟨r.inv, Same.trans r.base sub, r.gk, r.gv, nodup_filterMap_set (A := A) r.nd, fun a h => r.ns a (addrs_set_sub a h), by rw [List.length_set, List.length_set, r.l1], by rw [List.length_set, List.length_set, r.l2], ?_⟩
  intro j s o x' h1 h2 h3
  rcases getElem?_set_cases h1 with ⟨e, e1, _⟩ | ⟨e, e1⟩
  · subst e
    subst e1
    rcases getElem?_set_cases h2 with ⟨_, e2, _⟩ | ⟨e2, _⟩
    · exact e2
    · exact absurd rfl e2
  · rw [List.getElem?_set_ne e] at h2 h3
    have z := r.at_ j s o x' e1 h2 h3
    cases s with
    | no => exact z
    | val t => obtain ⟨e, v, e2, q⟩ := z; exact ⟨e, v, e2, q.mono sub⟩
    | own t => obtain ⟨a, e, e2, q⟩ := z; exact ⟨a, e, e2, q.mono sub rfl⟩
end
end M3

/-! L3B: the readings of the hand layer, lifted to trees: expressions, statements. -/
namespace M3
open PySem L2
/-- an exception: its class, its fields -/
structure Xn where
  cls : Value
  fs : List (Str × T)
def XRep (K : PySem.W.Frag) (Hv : Hp) (cls : Value) (dd : Option Addr) (x : Xn) : Prop :=
  x.cls = cls ∧ match dd with
    | none => x.fs = []
    | some d => ∃ fs, Hv d = some (.xd fs) ∧ fs.map (·.1) = x.fs.map (·.1) ∧ RepL K Hv (fs.map (·.2)) (x.fs.map (·.2))
abbrev X3 := Xn → Prop
abbrev G3 (β : Type) := List Sl → (β → Prop) → X3 → Prop
abbrev E3 := G3 T
abbrev B3 := G3 Bool
abbrev A3 := G3 (List T)
/-- the one lifting: te at values is t at trees -/
def LiftG (K : PySem.W.Frag) (c : Cf) (W : WX) {α β : Type} (rel : Hp → α → β → Prop) (te : St → Hp → (α → Hp → Prop) → Prop) (t : G3 β) : Prop :=
  ∀ σ3 Q3 X, t σ3 Q3 X → ∀ Hb G A σ H Q, R3 K c Hb G A σ3 σ H →
    (∀ v d H', Le c G A H H' → rel (hid (c.S G A) H') v d → Q3 d → Q v H') →
    (∀ cls dd x H', Le c G A H H' → XRep K (hid (c.S G A) H') cls dd x → X x → W cls dd σ H') → te σ H Q
abbrev Lift (K : PySem.W.Frag) (c : Cf) (W : WX) (te : TE) (t : E3) : Prop := LiftG K c W (Rep K) te t
abbrev LiftT (K : PySem.W.Frag) (c : Cf) (W : WX) (te : TT) (t : B3) : Prop := LiftG K c W (fun _ (b b' : Bool) => b = b') te t
abbrev LiftA (K : PySem.W.Frag) (c : Cf) (W : WX) (te : TA) (t : A3) : Prop := LiftG K c W (RepL K) te t
abbrev LiftO (K : PySem.W.Frag) (c : Cf) (W : WX) (te : TO) (t : G3 (Option Int)) : Prop := LiftG K c W (fun _ (b b' : Option Int) => b = b') te t
/-! ### readings over trees -/
/-- what is there -/
def ob {α : Type} (o : Option α) (Q : α → Prop) : Prop := match o with | some a => Q a | none => False
@[simp] theorem ob_some {α : Type} (a : α) (Q : α → Prop) : ob (some a) Q = Q a := rfl
@[simp] theorem ob_none {α : Type} (Q : α → Prop) : ob none Q = False := rfl
theorem ob_iff {α : Type} {o : Option α} {Q : α → Prop} : ob o Q ↔ ∃ a, o = some a ∧ Q a := by
  cases o with
  | none => exact ⟨fun h => h.elim, fun ⟨_, h, _⟩ => by cases h⟩
  | some a => exact ⟨fun h => ⟨a, rfl, h⟩, fun ⟨_, h, q⟩ => by cases h; exact q⟩
def asI : T → Option Int
  | .int i => some i
  | _ => none
def asL : T → Option (List T)
  | .lst i => some i
  | _ => none
def asT : T → Option (List T)
  | .tup i => some i
  | _ => none
def asS : T → Option Str
  | .str i => some i
  | _ => none
def asN : T → Option Unit
  | .non => some ()
  | _ => none
def asB : T → Option Bool
  | .bl b => some b
  | _ => none
def one {α : Type} : List α → Option α
  | [x] => some x
  | _ => none
def two {α : Type} : List α → Option (α × α)
  | [x, y] => some (x, y)
  | _ => none
@[simp] theorem asI_non  : asI .non = none := rfl
@[simp] theorem asI_bl (b : Bool) : asI (.bl b) = none := rfl
@[simp] theorem asI_int (b : Int) : asI (.int b) = some b := rfl
@[simp] theorem asI_str (b : Str) : asI (.str b) = none := rfl
@[simp] theorem asI_tup (b : List T) : asI (.tup b) = none := rfl
@[simp] theorem asI_lst (b : List T) : asI (.lst b) = none := rfl
@[simp] theorem asL_non  : asL .non = none := rfl
@[simp] theorem asL_bl (b : Bool) : asL (.bl b) = none := rfl
@[simp] theorem asL_int (b : Int) : asL (.int b) = none := rfl
@[simp] theorem asL_str (b : Str) : asL (.str b) = none := rfl
@[simp] theorem asL_tup (b : List T) : asL (.tup b) = none := rfl
@[simp] theorem asL_lst (b : List T) : asL (.lst b) = some b := rfl
@[simp] theorem asT_non  : asT .non = none := rfl
@[simp] theorem asT_bl (b : Bool) : asT (.bl b) = none := rfl
@[simp] theorem asT_int (b : Int) : asT (.int b) = none := rfl
@[simp] theorem asT_str (b : Str) : asT (.str b) = none := rfl
@[simp] theorem asT_tup (b : List T) : asT (.tup b) = some b := rfl
@[simp] theorem asT_lst (b : List T) : asT (.lst b) = none := rfl
@[simp] theorem asS_non  : asS .non = none := rfl
@[simp] theorem asS_bl (b : Bool) : asS (.bl b) = none := rfl
@[simp] theorem asS_int (b : Int) : asS (.int b) = none := rfl
@[simp] theorem asS_str (b : Str) : asS (.str b) = some b := rfl
@[simp] theorem asS_tup (b : List T) : asS (.tup b) = none := rfl
@[simp] theorem asS_lst (b : List T) : asS (.lst b) = none := rfl
@[simp] theorem asN_non  : asN .non = some () := rfl
@[simp] theorem asN_bl (b : Bool) : asN (.bl b) = none := rfl
@[simp] theorem asN_int (b : Int) : asN (.int b) = none := rfl
@[simp] theorem asN_str (b : Str) : asN (.str b) = none := rfl
@[simp] theorem asN_tup (b : List T) : asN (.tup b) = none := rfl
@[simp] theorem asN_lst (b : List T) : asN (.lst b) = none := rfl
@[simp] theorem asB_non  : asB .non = none := rfl
@[simp] theorem asB_bl (b : Bool) : asB (.bl b) = some b := rfl
@[simp] theorem asB_int (b : Int) : asB (.int b) = none := rfl
@[simp] theorem asB_str (b : Str) : asB (.str b) = none := rfl
@[simp] theorem asB_tup (b : List T) : asB (.tup b) = none := rfl
@[simp] theorem asB_lst (b : List T) : asB (.lst b) = none := rfl
@[simp] theorem one_1 {α : Type} (x : α) : one [x] = some x := rfl
@[simp] theorem two_2 {α : Type} (x y : α) : two [x, y] = some (x, y) := rfl
theorem asI_is {x : T} {i : Int} (h : asI x = some i) : x = .int i := by cases x <;> cases h; rfl
theorem asL_is {x : T} {i : List T} (h : asL x = some i) : x = .lst i := by cases x <;> cases h; rfl
theorem asT_is {x : T} {i : List T} (h : asT x = some i) : x = .tup i := by cases x <;> cases h; rfl
theorem asS_is {x : T} {i : Str} (h : asS x = some i) : x = .str i := by cases x <;> cases h; rfl
theorem asN_is {x : T} {i : Unit} (h : asN x = some i) : x = .non := by cases x <;> cases h; rfl
theorem asB_is {x : T} {i : Bool} (h : asB x = some i) : x = .bl i := by cases x <;> cases h; rfl
theorem one_is {α : Type} {l : List α} {x : α} (h : one l = some x) : l = [x] := by
  match l, h with
  | [y], h => cases h; rfl
theorem two_is {α : Type} {l : List α} {x : α × α} (h : two l = some x) : l = [x.1, x.2] := by
  match l, h with
  | [y, z], h => cases h; rfl
def slot (σ : List Sl) (i : Nat) : Option T := match σ[i]? with | some (.val t) => some t | _ => none
def v3 (i : Nat) : E3 := fun σ Q _ => ob (slot σ i) Q
def k3 (t : T) : E3 := fun _ Q _ => Q t
def op3 (r : T → T → (T → Prop) → Prop) (a b : E3) : E3 := fun σ Q X => a σ (fun x => b σ (fun y => r x y Q) X) X
def un3 (r : T → (T → Prop) → Prop) (a : E3) : E3 := fun σ Q X => a σ (fun x => r x Q) X
def nil3 : A3 := fun _ Q _ => Q []
def cons3 (a : E3) (r : A3) : A3 := fun σ Q X => a σ (fun x => r σ (fun xs => Q (x :: xs)) X) X
def call3 (r : List T → (T → Prop) → Prop) (a : A3) : E3 := fun σ Q X => a σ (fun xs => r xs Q) X
/-- a value operation, lifted -/
def RL2 (K : PySem.W.Frag) (r : R2) (r3 : T → T → (T → Prop) → Prop) : Prop :=
  ∀ (c : Cf) x y Q3, r3 x y Q3 → ∀ Hb G A σ3 σ H vx vy Q, R3 K c Hb G A σ3 σ H → Rep K (hid (c.S G A) H) vx x → Rep K (hid (c.S G A) H) vy y →
    (∀ v d H', Le c G A H H' → Rep K (hid (c.S G A) H') v d → Q3 d → Q v H') → r vx vy H Q
def RL1 (K : PySem.W.Frag) (r : V → Hp → VK → Prop) (r3 : T → (T → Prop) → Prop) : Prop :=
  ∀ (c : Cf) x Q3, r3 x Q3 → ∀ Hb G A σ3 σ H vx Q, R3 K c Hb G A σ3 σ H → Rep K (hid (c.S G A) H) vx x →
    (∀ v d H', Le c G A H H' → Rep K (hid (c.S G A) H') v d → Q3 d → Q v H') → r vx H Q
def RLn (K : PySem.W.Frag) (r : List V → Hp → VK → Prop) (r3 : List T → (T → Prop) → Prop) : Prop :=
  ∀ (c : Cf) xs Q3, r3 xs Q3 → ∀ Hb G A σ3 σ H vs Q, R3 K c Hb G A σ3 σ H → RepL K (hid (c.S G A) H) vs xs →
    (∀ v d H', Le c G A H H' → Rep K (hid (c.S G A) H') v d → Q3 d → Q v H') → r vs H Q
section
variable {K : PySem.W.Frag} {c : Cf} {W : WX} {ta tb te : TE} {a b e : E3}
theorem slot_get {σ : List Sl} {i : Nat} {t : T} (h : slot σ i = some t) : σ[i]? = some (.val t) := by
  unfold slot at h
  split at h
  · cases h; assumption
  · cases h
theorem lift_v (i : Nat) : Lift K c W (tVar i) (v3 i) := by
  intro σ3 Q3 X h Hb G A σ H Q R k e
  obtain ⟨t, h1, h2⟩ := ob_iff.mp h
  obtain ⟨v, h3, h4⟩ := R.get (slot_get h1)
  exact ⟨v, h3, k v t H (Le.refl R.inv) h4 h2⟩
theorem lift_k {v : V} {t : T} (r : ∀ H, Rep K H v t) : Lift K c W (tC v) (k3 t) := by
  intro σ3 Q3 X h Hb G A σ H Q R k e
  exact k v t H (Le.refl R.inv) (r _) h
theorem lift_int (i : Int) : Lift K c W (tC (.int i)) (k3 (.int i)) := lift_k fun _ => .int i
theorem lift_str (x : Str) : Lift K c W (tC (.str x)) (k3 (.str x)) := lift_k fun _ => .str x
theorem lift_bl (b : Bool) : Lift K c W (tC (.bl b)) (k3 (.bl b)) := lift_k fun _ => .bl b
theorem lift_non : Lift K c W (tC .non) (k3 .non) := lift_k fun _ => .non
theorem lift_ty (n : String) : Lift K c W (tC (.ty n)) (k3 (.ty n)) := lift_k fun _ => .ty n
theorem lift_ref (a : Addr) : Lift K c W (tC (.ref a)) (k3 (.ref a)) := lift_k fun _ => .ref a
theorem lift_op {r : R2} {r3 : T → T → (T → Prop) → Prop} (hr : RL2 K r r3) (ha : Lift K c W ta a) (hb : Lift K c W tb b) : Lift K c W (tOp r ta tb) (op3 r3 a b) := by
  intro σ3 Q3 X h Hb G A σ H Q R k e
  refine ha _ _ _ h Hb G A σ H _ R (fun vx x H1 L1 rx hx => ?_) e
  refine hb _ _ _ hx Hb G A σ H1 _ (R.le L1) (fun vy y H2 L2 ry hy => ?_) (fun cls dd x H' L => e cls dd x H' (L1.trans L))
  exact hr c _ _ _ hy Hb G A σ3 σ H2 vx vy Q ((R.le L1).le L2) (rx.mono L2.vis) ry (fun v d H3 L3 => k v d H3 ((L1.trans L2).trans L3))
theorem lift_un {r : V → Hp → VK → Prop} {r3 : T → (T → Prop) → Prop} (hr : RL1 K r r3) (ha : Lift K c W ta a) : Lift K c W (tUn r ta) (un3 r3 a) := by
  intro σ3 Q3 X h Hb G A σ H Q R k e
  refine ha _ _ _ h Hb G A σ H _ R (fun vx x H1 L1 rx hx => ?_) e
  exact hr c _ _ hx Hb G A σ3 σ H1 vx Q (R.le L1) rx (fun v d H3 L3 => k v d H3 (L1.trans L3))
theorem lift_nil : LiftA K c W tNil nil3 := by
  intro σ3 Q3 X h Hb G A σ H Q R k e
  exact k [] [] H (Le.refl R.inv) .nil h
theorem lift_cons {tr : TA} {r : A3} (ha : Lift K c W ta a) (hr : LiftA K c W tr r) : LiftA K c W (tCons ta tr) (cons3 a r) := by
  intro σ3 Q3 X h Hb G A σ H Q R k e
  refine ha _ _ _ h Hb G A σ H _ R (fun vx x H1 L1 rx hx => ?_) e
  refine hr _ _ _ hx Hb G A σ H1 _ (R.le L1) (fun vy y H2 L2 ry hy => ?_) (fun cls dd x H' L => e cls dd x H' (L1.trans L))
  exact k _ _ H2 (L1.trans L2) (.cons (rx.mono L2.vis) ry) hy
theorem lift_cb {r : List V → Hp → VK → Prop} {r3 : List T → (T → Prop) → Prop} {t : TA} {x : A3} (hr : RLn K r r3) (ha : LiftA K c W t x) : Lift K c W (tCB r t) (call3 r3 x) := by
  intro σ3 Q3 X h Hb G A σ H Q R k e
  refine ha _ _ _ h Hb G A σ H _ R (fun vx x H1 L1 rx hx => ?_) e
  exact hr c _ _ hx Hb G A σ3 σ H1 vx Q (R.le L1) rx (fun v d H3 L3 => k v d H3 (L1.trans L3))
/-- (a, b, ..), [a, b, ..] -/
def tup3 (x : A3) : E3 := fun σ Q X => x σ (fun xs => xs.length ≤ sizeLine ∧ Q (.tup xs)) X
def lst3 (x : A3) : E3 := fun σ Q X => x σ (fun xs => xs.length ≤ sizeLine ∧ Q (.lst xs)) X
theorem lift_tup {t : TA} {x : A3} (ha : LiftA K c W t x) : Lift K c W (tTup t) (tup3 x) := by
  intro σ3 Q3 X h Hb G A σ H Q R k e
  refine ha _ _ _ h Hb G A σ H _ R (fun vs xs H1 L1 rx hx => ?_) e
  refine ⟨by rw [rx.length]; exact hx.1, fun p o hp hd => ?_⟩
  have L2 := (R.le L1).new (o := .frz o (.tup vs)) hp
  exact k _ _ _ (L1.trans L2) (.mkT (FqT.of hd ((R.le L1).newAt hp)) (rx.mono L2.vis)) hx.2
theorem lift_lst {t : TA} {x : A3} (ha : LiftA K c W t x) : Lift K c W (tLst t) (lst3 x) := by
  intro σ3 Q3 X h Hb G A σ H Q R k e
  refine ha _ _ _ h Hb G A σ H _ R (fun vs xs H1 L1 rx hx => ?_) e
  refine ⟨by rw [rx.length]; exact hx.1, fun p hp => ?_⟩
  have L2 := (R.le L1).new (o := .lst vs) hp
  exact k _ _ _ (L1.trans L2) (.mkL ((R.le L1).newAt hp) (rx.mono L2.vis)) hx.2
/-! ### tests -/
def tst3 (a : E3) : B3 := fun σ Q X => a σ (fun x => ob (asB x) Q) X
def and3 (a b : B3) : B3 := fun σ Q X => a σ (fun x => if x = true then b σ Q X else Q false) X
def or3 (a b : B3) : B3 := fun σ Q X => a σ (fun x => if x = true then Q true else b σ Q X) X
def not3 (a : B3) : B3 := fun σ Q X => a σ (fun x => Q (!x)) X
def andV3 (a b : E3) : E3 := fun σ Q X => a σ (fun x => ob (asB x) fun k => if k = true then b σ Q X else Q (.bl false)) X
def orV3 (a b : E3) : E3 := fun σ Q X => a σ (fun x => ob (asB x) fun k => if k = true then Q (.bl true) else b σ Q X) X
def notV3 (a : E3) : E3 := fun σ Q X => a σ (fun x => ob (asB x) fun k => Q (.bl (!k))) X
def if3 (t : B3) (a b : E3) : E3 := fun σ Q X => t σ (fun x => if x = true then a σ Q X else b σ Q X) X
theorem lift_tst (ha : Lift K c W ta a) : LiftT K c W (tTest ta) (tst3 a) := by
  intro σ3 Q3 X h Hb G A σ H Q R k e
  refine ha _ _ _ h Hb G A σ H _ R (fun vx x H1 L1 rx hx => ?_) e
  obtain ⟨b, eb, q⟩ := ob_iff.mp hx
  cases asB_is eb
  exact ⟨b, rx.blI, k b b H1 L1 rfl q⟩
theorem lift_tB (ha : Lift K c W ta a) : LiftT K c W (tB ta) (tst3 a) := lift_tst ha
theorem lift_and {t u : TT} {x y : B3} (ha : LiftT K c W t x) (hb : LiftT K c W u y) : LiftT K c W (tAnd t u) (and3 x y) := by
  intro σ3 Q3 X h Hb G A σ H Q R k e
  refine ha _ _ _ h Hb G A σ H _ R (fun vx x H1 L1 rx hx => ?_) e
  subst rx
  cases vx with
  | true => exact iteT (hb _ _ _ (by simpa using hx) Hb G A σ H1 _ (R.le L1) (fun v d H' L => k v d H' (L1.trans L)) (fun cls dd x H' L => e cls dd x H' (L1.trans L)))
  | false => exact iteF (k false false H1 L1 rfl (by simpa using hx))
theorem lift_or {t u : TT} {x y : B3} (ha : LiftT K c W t x) (hb : LiftT K c W u y) : LiftT K c W (tOr t u) (or3 x y) := by
  intro σ3 Q3 X h Hb G A σ H Q R k e
  refine ha _ _ _ h Hb G A σ H _ R (fun vx x H1 L1 rx hx => ?_) e
  subst rx
  cases vx with
  | false => exact iteF (hb _ _ _ (by simpa using hx) Hb G A σ H1 _ (R.le L1) (fun v d H' L => k v d H' (L1.trans L)) (fun cls dd x H' L => e cls dd x H' (L1.trans L)))
  | true => exact iteT (k true true H1 L1 rfl (by simpa using hx))
theorem lift_not {t : TT} {x : B3} (ha : LiftT K c W t x) : LiftT K c W (tNot t) (not3 x) := by
  intro σ3 Q3 X h Hb G A σ H Q R k e
  refine ha _ _ _ h Hb G A σ H _ R (fun vx x H1 L1 rx hx => ?_) e
  subst rx
  exact k _ _ H1 L1 rfl hx
theorem lift_andV (ha : Lift K c W ta a) (hb : Lift K c W tb b) : Lift K c W (tAndV ta tb) (andV3 a b) := by
  intro σ3 Q3 X h Hb G A σ H Q R k e
  refine ha _ _ _ h Hb G A σ H _ R (fun vx x H1 L1 rx hx => ?_) e
  obtain ⟨z, eb, hy⟩ := ob_iff.mp hx
  cases asB_is eb
  refine ⟨z, rx.blI, ?_⟩
  cases z with
  | true => exact iteT (hb _ _ _ (by simpa using hy) Hb G A σ H1 _ (R.le L1) (fun v d H' L => k v d H' (L1.trans L)) (fun cls dd x H' L => e cls dd x H' (L1.trans L)))
  | false => exact iteF (k _ _ H1 L1 (.bl false) (by simpa using hy))
theorem lift_orV (ha : Lift K c W ta a) (hb : Lift K c W tb b) : Lift K c W (tOrV ta tb) (orV3 a b) := by
  intro σ3 Q3 X h Hb G A σ H Q R k e
  refine ha _ _ _ h Hb G A σ H _ R (fun vx x H1 L1 rx hx => ?_) e
  obtain ⟨z, eb, hy⟩ := ob_iff.mp hx
  cases asB_is eb
  refine ⟨z, rx.blI, ?_⟩
  cases z with
  | false => exact iteF (hb _ _ _ (by simpa using hy) Hb G A σ H1 _ (R.le L1) (fun v d H' L => k v d H' (L1.trans L)) (fun cls dd x H' L => e cls dd x H' (L1.trans L)))
  | true => exact iteT (k _ _ H1 L1 (.bl true) (by simpa using hy))
theorem lift_notV (ha : Lift K c W ta a) : Lift K c W (tNotV ta) (notV3 a) := by
  intro σ3 Q3 X h Hb G A σ H Q R k e
  refine ha _ _ _ h Hb G A σ H _ R (fun vx x H1 L1 rx hx => ?_) e
  obtain ⟨z, eb, hy⟩ := ob_iff.mp hx
  cases asB_is eb
  exact ⟨z, rx.blI, k _ _ H1 L1 (.bl _) hy⟩
theorem lift_if {t : TT} {x : B3} (ht : LiftT K c W t x) (ha : Lift K c W ta a) (hb : Lift K c W tb b) : Lift K c W (tIf t ta tb) (if3 x a b) := by
  intro σ3 Q3 X h Hb G A σ H Q R k e
  refine ht _ _ _ h Hb G A σ H _ R (fun vx x H1 L1 rx hx => ?_) e
  subst rx
  cases vx with
  | true => exact iteT (ha _ _ _ (by simpa using hx) Hb G A σ H1 _ (R.le L1) (fun v d H' L => k v d H' (L1.trans L)) (fun cls dd x H' L => e cls dd x H' (L1.trans L)))
  | false => exact iteF (hb _ _ _ (by simpa using hx) Hb G A σ H1 _ (R.le L1) (fun v d H' L => k v d H' (L1.trans L)) (fun cls dd x H' L => e cls dd x H' (L1.trans L)))
/-- a comparison chain a < b < c -/
def chain3 (r r' : T → T → (T → Prop) → Prop) (a b d : E3) : E3 := fun σ Q X => a σ (fun x => b σ (fun y => r x y fun z => ob (asB z) fun k => if k = true then d σ (fun w => r' y w Q) X else Q (.bl false)) X) X
theorem lift_chain {r r' : R2} {q q' : T → T → (T → Prop) → Prop} {tc : TE} {d : E3} (hr : RL2 K r q) (hr' : RL2 K r' q') (ha : Lift K c W ta a) (hb : Lift K c W tb b) (hc : Lift K c W tc d) : Lift K c W (tChain r r' ta tb tc) (chain3 q q' a b d) := by
  intro σ3 Q3 X h Hb G A σ H Q R k e
  refine ha _ _ _ h Hb G A σ H _ R (fun vx x H1 L1 rx hx => ?_) e
  refine hb _ _ _ hx Hb G A σ H1 _ (R.le L1) (fun vy y H2 L2 ry hy => ?_) (fun cls dd x H' L => e cls dd x H' (L1.trans L))
  refine hr c _ _ _ hy Hb G A σ3 σ H2 vx vy _ ((R.le L1).le L2) (rx.mono L2.vis) ry (fun vz z H3 L3 rz hz => ?_)
  obtain ⟨j, eb, hz2⟩ := ob_iff.mp hz
  cases asB_is eb
  refine ⟨j, rz.blI, ?_⟩
  have L := (L1.trans L2).trans L3
  cases j with
  | false => exact iteF (k _ _ H3 L (.bl false) (by simpa using hz2))
  | true =>
    refine iteT ?_
    refine hc _ _ _ (show d σ3 _ X by simpa using hz2) Hb G A σ H3 _ (R.le L) (fun vw w H4 L4 rw' hw => ?_) (fun cls dd x H' L' => e cls dd x H' (L.trans L'))
    exact hr' c _ _ _ hw Hb G A σ3 σ H4 vy vw Q ((R.le L).le L4) (ry.mono (Same.trans L3.vis L4.vis)) rw' (fun v d H5 L5 => k v d H5 ((L.trans L4).trans L5))
end
/-! ### statements -/
structure N3 where
  nx : List Sl → Prop
  rt : T → Prop
  bk : List Sl → Prop := fun _ => False
  ct : List Sl → Prop := fun _ => False
  xn : List Sl → Xn → Prop := fun _ _ => False
abbrev S3 := N3 → List Sl → Prop
/-- what is left behind a return -/
structure Fin3 (K : PySem.W.Frag) (c : Cf) (Hb : Hp) (G : List Addr) (H : Hp) : Prop where
  inv : c.I H
  base : Same (hid (c.S0 ++ G) Hb) (hid (c.S0 ++ G) H)
  gk : ∀ a ∈ G, H a = Hb a
theorem R3.fin {K : PySem.W.Frag} {c : Cf} {Hb H : Hp} {G : List Addr} {A : List (Option Addr)} {σ3 : List Sl} {σ : St} (r : R3 K c Hb G A σ3 σ H) : Fin3 K c Hb G H :=
  ⟨r.inv, Same.trans r.base (hid_mono fun a h => by rcases List.mem_append.mp h with h | h; exact mem_S.mpr (.inl h); exact mem_S.mpr (.inr (.inl h))), fun a h => (r.gk a h).1⟩
theorem hid_fin {c : Cf} {H : Hp} {G : List Addr} {A : List (Option Addr)} : Same (hid (c.S G A) H) (hid (c.S0 ++ G) H) :=
  hid_mono fun a h => by rcases List.mem_append.mp h with h | h; exact mem_S.mpr (.inl h); exact mem_S.mpr (.inr (.inl h))
/-- the ends at trees lead to the ends at values -/
structure To (K : PySem.W.Frag) (c : Cf) (W : WX) (Hb : Hp) (G : List Addr) (N : N3) (D : Ends) : Prop where
  nx : ∀ A σ3 σ H, R3 K c Hb G A σ3 σ H → N.nx σ3 → D.nx σ H
  rt : ∀ v d H, Fin3 K c Hb G H → Rep K (hid (c.S0 ++ G) H) v d → N.rt d → D.rt v H
  bk : ∀ A σ3 σ H, R3 K c Hb G A σ3 σ H → N.bk σ3 → D.bk σ H
  ct : ∀ A σ3 σ H, R3 K c Hb G A σ3 σ H → N.ct σ3 → D.ct σ H
  xn : ∀ A σ3 σ H cls dd x, R3 K c Hb G A σ3 σ H → XRep K (hid (c.S G A) H) cls dd x → N.xn σ3 x → W cls dd σ H
def LiftS (K : PySem.W.Frag) (c : Cf) (W : WX) (ts : TS) (t : S3) : Prop :=
  ∀ N σ3, t N σ3 → ∀ Hb G A σ H (D : Ends), R3 K c Hb G A σ3 σ H → To K c W Hb G N D → ts D σ H
def next3 : S3 := fun N σ => N.nx σ
def seq3 (t u : S3) : S3 := fun N σ => t { N with nx := u N } σ
def brk3 : S3 := fun N σ => N.bk σ
def cont3 : S3 := fun N σ => N.ct σ
def drop3 (a : E3) : S3 := fun N σ => a σ (fun _ => N.nx σ) (N.xn σ)
def ret3 (a : E3) : S3 := fun N σ => a σ N.rt (N.xn σ)
def retN3 : S3 := fun N _ => N.rt .non
def ifs3 (c : B3) (t u : S3) : S3 := fun N σ => c σ (fun b => if b = true then t N σ else u N σ) (N.xn σ)
/-- a target -/
abbrev TG3 := T → List Sl → (List Sl → Prop) → Prop
def name3 (i : Nat) : TG3 := fun d σ Q => Q (σ.set i (.val d))
/-- only the slots vs were stored -/
def Sets (vs : List Nat) (A A' : List (Option Addr)) (σ σ' : St) : Prop := σ'.length = σ.length ∧ (∀ j : Nat, j ∉ vs → σ'[j]? = σ[j]? ∧ A'[j]? = A[j]?) ∧ ∀ a ∈ addrs A', a ∈ addrs A
theorem Sets.mono {vs ws : List Nat} {A A' : List (Option Addr)} {σ σ' : St} (h : Sets vs A A' σ σ') (s : ∀ j ∈ vs, j ∈ ws) : Sets ws A A' σ σ' := ⟨h.1, fun j hj => h.2.1 j fun z => hj (s j z), h.2.2⟩
theorem Sets.trans {vs : List Nat} {A A1 A2 : List (Option Addr)} {σ σ1 σ2 : St} (a : Sets vs A A1 σ σ1) (b : Sets vs A1 A2 σ1 σ2) : Sets vs A A2 σ σ2 :=
  ⟨b.1.trans a.1, fun j hj => ⟨(b.2.1 j hj).1.trans (a.2.1 j hj).1, (b.2.1 j hj).2.trans (a.2.1 j hj).2⟩, fun x z => a.2.2 x (b.2.2 x z)⟩
def LiftTgB (K : PySem.W.Frag) (c : Cf) (w : Bool) (vs : List Nat) (g : TG) (g3 : TG3) : Prop :=
  ∀ d σ3 Q3, g3 d σ3 Q3 → ∀ Hb G A σ H v Q, R3 K c Hb G A σ3 σ H → RepB K w (hid (c.S G A) H) v d →
    (∀ A' σ3' σ' H', R3 K c Hb G A' σ3' σ' H' → H' = H → Sets vs A A' σ σ' → Q3 σ3' → Q σ' H') → g v σ H Q
abbrev LiftTg (K : PySem.W.Frag) (c : Cf) (vs : List Nat) (g : TG) (g3 : TG3) : Prop := LiftTgB K c false vs g g3
def asg3 (a : E3) (g : TG3) : S3 := fun N σ => a σ (fun d => g d σ N.nx) (N.xn σ)
section
variable {K : PySem.W.Frag} {c : Cf} {W : WX} {ta tb te : TE} {a b e : E3} {t u : TS} {x y : S3}
theorem lift_next : LiftS K c W tNext next3 := fun N σ3 h Hb G A σ H D R Z => Z.nx _ _ _ _ R h
theorem lift_seq (h1 : LiftS K c W t x) (h2 : LiftS K c W u y) : LiftS K c W (tSeq t u) (seq3 x y) := by
  intro N σ3 h Hb G A σ H D R Z
  exact h1 _ _ h Hb G A σ H _ R ⟨fun A' σ3' σ' H' R' q => h2 _ _ q Hb G A' σ' H' D R' Z, Z.rt, Z.bk, Z.ct, Z.xn⟩
theorem lift_brk : LiftS K c W tBreak brk3 := fun N σ3 h Hb G A σ H D R Z => Z.bk _ _ _ _ R h
theorem lift_cont : LiftS K c W tCont cont3 := fun N σ3 h Hb G A σ H D R Z => Z.ct _ _ _ _ R h
theorem lift_drop (ha : Lift K c W ta a) : LiftS K c W (tDrop ta) (drop3 a) := by
  intro N σ3 h Hb G A σ H D R Z
  exact ha _ _ _ h Hb G A σ H _ R (fun v d H' L _ q => Z.nx _ _ _ _ (R.le L) q) (fun cls dd x H' L r q => Z.xn _ _ _ _ _ _ _ (R.le L) r q)
theorem lift_ret (ha : Lift K c W ta a) : LiftS K c W (tRet ta) (ret3 a) := by
  intro N σ3 h Hb G A σ H D R Z
  exact ha _ _ _ h Hb G A σ H _ R (fun v d H' L r q => Z.rt _ _ _ (R.le L).fin (r.mono hid_fin) q) (fun cls dd x H' L r q => Z.xn _ _ _ _ _ _ _ (R.le L) r q)
theorem lift_retN : LiftS K c W tRetN retN3 := by
  intro N σ3 h Hb G A σ H D R Z
  exact Z.rt _ _ _ R.fin .non h
theorem lift_ifs {k : TT} {z : B3} (hc : LiftT K c W k z) (h1 : LiftS K c W t x) (h2 : LiftS K c W u y) : LiftS K c W (tIfS k t u) (ifs3 z x y) := by
  intro N σ3 h Hb G A σ H D R Z
  refine hc _ _ _ h Hb G A σ H _ R (fun vx w H' L r q => ?_) (fun cls dd x H' L r q => Z.xn _ _ _ _ _ _ _ (R.le L) r q)
  subst r
  cases vx with
  | true => exact iteT (h1 _ _ (by simpa using q) Hb G A σ H' D (R.le L) Z)
  | false => exact iteF (h2 _ _ (by simpa using q) Hb G A σ H' D (R.le L) Z)
theorem lift_name (i : Nat) {vs : List Nat} (hi : i ∈ vs) : LiftTg K c vs (gName i) (name3 i) := by
  intro d σ3 Q3 h Hb G A σ H v Q R r k
  exact k _ _ _ _ (R.set i r.f) rfl ⟨by rw [List.length_set], fun j hj => by
    have : i ≠ j := fun z => by subst z; exact hj hi
    rw [List.getElem?_set_ne this, List.getElem?_set_ne this]; exact ⟨rfl, rfl⟩, addrs_set_sub⟩ h
theorem lift_asg {vs : List Nat} {g : TG} {g3 : TG3} (ha : Lift K c W ta a) (hg : LiftTg K c vs g g3) : LiftS K c W (tAsg ta g) (asg3 a g3) := by
  intro N σ3 h Hb G A σ H D R Z
  refine ha _ _ _ h Hb G A σ H _ R (fun v d H' L r q => ?_) (fun cls dd x H' L r q => Z.xn _ _ _ _ _ _ _ (R.le L) r q)
  exact hg _ _ _ q Hb G A σ H' v _ (R.le L) (.inl r) (fun A' σ3' σ' H2 R' _ _ q' => Z.nx _ _ _ _ R' q')
end
/-! ### several targets -/
def gnil3 : List T → List Sl → (List Sl → Prop) → Prop := fun ds σ Q => match ds with | [] => Q σ | _ => False
def gcons3 (g : TG3) (r : List T → List Sl → (List Sl → Prop) → Prop) : List T → List Sl → (List Sl → Prop) → Prop := fun ds σ Q => match ds with | d :: l => g d σ fun σ' => r l σ' Q | [] => False
def gtup3 (n : Nat) (r : List T → List Sl → (List Sl → Prop) → Prop) : TG3 := fun d σ Q => ob (asT d) fun ds => ds.length = n ∧ r ds σ Q
def LiftTgs (K : PySem.W.Frag) (c : Cf) (ws : List Nat) (g : TGs) (g3 : List T → List Sl → (List Sl → Prop) → Prop) : Prop :=
  ∀ ds σ3 Q3, g3 ds σ3 Q3 → ∀ Hb G A σ H vs Q, R3 K c Hb G A σ3 σ H → RepL K (hid (c.S G A) H) vs ds →
    (∀ A' σ3' σ' H', R3 K c Hb G A' σ3' σ' H' → H' = H → Sets ws A A' σ σ' → Q3 σ3' → Q σ' H') → g vs σ H Q
section
variable {K : PySem.W.Frag} {c : Cf} {ws : List Nat}
theorem lift_gnil : LiftTgs K c ws gNil gnil3 := by
  intro ds σ3 Q3 h Hb G A σ H vs Q R r k
  cases r with
  | cons _ _ => exact h.elim
  | nil => exact ⟨rfl, k _ _ _ _ R rfl ⟨rfl, fun _ _ => ⟨rfl, rfl⟩, fun _ z => z⟩ h⟩
theorem lift_gcons {g : TG} {g3 : TG3} {u : TGs} {u3 : List T → List Sl → (List Sl → Prop) → Prop} (h1 : LiftTg K c ws g g3) (h2 : LiftTgs K c ws u u3) : LiftTgs K c ws (gCons g u) (gcons3 g3 u3) := by
  intro ds σ3 Q3 h Hb G A σ H vs Q R r k
  cases r with
  | nil => exact h.elim
  | cons r1 r2 =>
    refine ⟨_, _, rfl, h1 _ _ _ h Hb G A σ H _ _ R (.inl r1) (fun A' σ3' σ' H' R' e sub q => ?_)⟩
    subst e
    exact h2 _ _ _ q Hb G A' σ' H' _ _ R' (RepL.mono r2 (hid_mono (S_sub sub.2.2))) (fun A2 σ2 σ2' H2 R2 e2 sub2 q2 => k _ _ _ _ R2 e2 (sub.trans sub2) q2)
theorem lift_gtup {n : Nat} {u : TGs} {u3 : List T → List Sl → (List Sl → Prop) → Prop} {w : Bool} (h : LiftTgs K c ws u u3) : LiftTgB K c w ws (gTup K n u) (gtup3 n u3) := by
  intro d σ3 Q3 hh Hb G A σ H v Q R r k
  obtain ⟨ds, ed, hl, hh1⟩ := ob_iff.mp hh
  cases asT_is ed
  obtain ⟨a, vs, rfl, hs, rl⟩ := r.tupI
  exact ⟨a, vs, rfl, Same.sqT hid_same hs, by rw [rl.length]; exact hl, h _ _ _ hh1 Hb G A σ H vs Q R rl k⟩
end
/-! ### a def's promise at trees -/
abbrev F3 := List T → (T → Prop) → X3 → Prop
/-- a def that changes nothing: S is what the caller hides -/
def sp3 (K : PySem.W.Frag) (n : Nat) (f : F3) : Sp := fun vs H Q E => ∃ S ds, ds.length = n ∧ RepL K (hid S H) vs ds ∧ (∀ a ∈ S, H a ≠ none) ∧ ∃ Q3 X, f ds Q3 X ∧
  (∀ v d H', Same (hid S H) (hid S H') → (∀ a ∈ S, H' a = H a) → Rep K (hid S H') v d → Q3 d → Q v H') ∧
  (∀ cls dd x H', Same (hid S H) (hid S H') → (∀ a ∈ S, H' a = H a) → XRep K (hid S H') cls dd x → X x → E cls dd H')
theorem sp3_len {K : PySem.W.Frag} {n : Nat} {f : F3} {ps : List Str} (h : ps.length = n) : ∀ vs H Q E, sp3 K n f vs H Q E → vs.length = ps.length := by
  intro vs H Q E h'
  obtain ⟨S, ds, hl, r, _⟩ := h'
  rw [r.length, hl, h]
/-- nothing is hidden for good -/
def cf0 : Cf := ⟨[], fun _ => True, fun _ _ _ _ h => h, fun _ _ a h => (by cases h), fun _ => True, fun _ => trivial, fun _ _ => trivial⟩
/-- the slots at the start -/
def start3 (n : Nat) (ds : List T) : List Sl := ds.map Sl.val ++ List.replicate (n - ds.length) Sl.no
theorem start_eq (N : List Str) (vs : List V) : start N vs = vs.map some ++ List.replicate (N.length - vs.length) none := rfl
theorem r3_start {K : PySem.W.Frag} {c : Cf} {H : Hp} {G : List Addr} {N : List Str} {vs : List V} {ds : List T} (hI : c.I H) (hG : ∀ a ∈ G, H a ≠ none ∧ a ∉ c.S0) (hV : ∀ o, c.gOk o) (r : RepL K (hid (c.S0 ++ G) H) vs ds) :
    R3 K c H G (List.replicate ((start3 N.length ds).length) none) (start3 N.length ds) (start N vs) H := by
  have hA : addrs (List.replicate ((start3 N.length ds).length) none) = [] := by
    unfold addrs
    rw [List.filterMap_replicate_of_none rfl]
  have hS : c.S G (List.replicate ((start3 N.length ds).length) none) = c.S0 ++ G := by
    unfold Cf.S
    rw [hA, List.append_nil]
  have hl := r.length
  refine ⟨hI, by rw [hS]; exact Same.refl _, fun a h => ⟨rfl, hG a h⟩, fun a _ o _ => hV o, by rw [hA]; exact List.nodup_nil, (by rw [hA]; intro a h; cases h), (by simp), (by rw [start_eq]; unfold start3; simp [hl]), ?_⟩
  rw [hS]
  intro i s o x h1 h2 h3
  have ho : o = none := by
    have := List.mem_of_getElem? h2
    exact (List.mem_replicate.mp this).2
  subst ho
  unfold start3 at h1
  rw [start_eq] at h3
  by_cases hi : i < ds.length
  · rw [List.getElem?_append_left (by simpa using hi), List.getElem?_map] at h1
    rw [List.getElem?_append_left (by rw [List.length_map, hl]; exact hi), List.getElem?_map] at h3
    cases e1 : ds[i]? with
    | none => rw [e1] at h1; cases h1
    | some d =>
      rw [e1] at h1
      cases h1
      obtain ⟨v, e2, rv⟩ := r.get e1
      rw [e2] at h3
      cases h3
      exact ⟨rfl, v, rfl, rv⟩
  · rw [List.getElem?_append_right (by simpa using hi)] at h1
    have := List.mem_of_getElem? h1
    have hs := (List.mem_replicate.mp this).2
    subst hs
    rfl
/-- the body of such a def, at trees -/
theorem body3 {K : PySem.W.Frag} {n : Nat} {f : F3} {N : List Str} {t : TS} {x : S3} {W : WX} {vs : List V} {H : Hp} {Q : VK} {E : XK} (h : sp3 K n f vs H Q E) (hW : ∀ cls dd σ H', E cls dd H' → W cls dd σ H')
    (lt : LiftS K cf0 W t x) (hb : ∀ ds Q3 X, ds.length = n → f ds Q3 X → x { nx := fun _ => Q3 .non, rt := Q3, xn := fun _ => X } (start3 N.length ds)) : t { nx := fun _ H' => Q .non H', rt := Q } (start N vs) H := by
  obtain ⟨S, ds, hl, r, hS, Q3, X, hf, hq, hx⟩ := h
  refine lt _ _ (hb ds Q3 X hl hf) H S _ _ H _ (r3_start (c := cf0) (N := N) trivial (fun a h => ⟨hS a h, fun z => by cases z⟩) (fun _ => trivial) r) ⟨?_, ?_, fun _ _ _ _ _ z => z.elim, fun _ _ _ _ _ z => z.elim, ?_⟩
  · intro A σ3 σ H' R q
    exact hq _ _ _ R.fin.base (fun a h => R.fin.gk a h) .non q
  · intro v d H' F rv q
    exact hq _ _ _ F.base (fun a h => F.gk a h) rv q
  · intro A σ3 σ H' cls dd xn R rx q
    refine hW _ _ _ _ (hx cls dd xn H' R.fin.base (fun a h => R.fin.gk a h) ?_ q)
    obtain ⟨e, rx⟩ := rx
    refine ⟨e, ?_⟩
    cases dd with
    | none => exact rx
    | some d =>
      obtain ⟨fs, h1, h2, h3⟩ := rx
      exact ⟨fs, hid_fin _ _ h1, h2, h3.mono hid_fin⟩
/-- the call of such a def: nothing that is hidden changes -/
theorem sameX_of {S : List Addr} {H H' : Hp} (s1 : Same (hid S H) (hid S H')) (s2 : ∀ a ∈ S, H' a = H a) : SameX H H' := fun a φ e => by
  by_cases h : a ∈ S
  · rw [s2 a h]; exact e
  · exact (hid_some (s1 _ _ (hid_mk e h))).1
theorem sp3_call {K : PySem.W.Frag} {c : Cf} {n : Nat} {f : F3} {Hb H1 : Hp} {G : List Addr} {A : List (Option Addr)} {σ3 : List Sl} {σ : St} {vs : List V} {ds : List T} {Q : VK} {E : XK} {Q3 : T → Prop} {X : X3} (R1 : R3 K c Hb G A σ3 σ H1)
    (rx : RepL K (hid (c.S G A) H1) vs ds) (hl : ds.length = n) (hf : f ds Q3 X) (k : ∀ v d H', Le c G A H1 H' → Rep K (hid (c.S G A) H') v d → Q3 d → Q v H') (e : ∀ cls dd x H', Le c G A H1 H' → XRep K (hid (c.S G A) H') cls dd x → X x → E cls dd H') : sp3 K n f vs H1 Q E := by
  have le : ∀ H', Same (hid (c.S G A) H1) (hid (c.S G A) H') → (∀ a ∈ c.S G A, H' a = H1 a) → Le c G A H1 H' := fun H' s1 s2 =>
    ⟨s1, fun a ha => s2 a (mem_S.mpr (by rcases List.mem_append.mp ha with z | z; exact .inr (.inl z); exact .inr (.inr z))), c.st H1 H' (fun a ha => s2 a (mem_S.mpr (.inl ha))) (sameX_of s1 s2) R1.inv⟩
  exact ⟨c.S G A, ds, hl, rx, fun a h => R1.there h, Q3, X, hf, fun v d H' s1 s2 rv q => k v d H' (le H' s1 s2) rv q, fun cls dd xn H' s1 s2 rv q => e cls dd xn H' (le H' s1 s2) rv q⟩
def fn3 (n : Nat) (f : F3) (x : A3) (dvs : List T) : E3 := fun σ Q X => x σ (fun ds => (ds ++ dvs).length = n ∧ f (ds ++ dvs) Q X) X
/-- f(e, ..): f raises nothing here -/
def fn30 (n : Nat) (f : F3) (x : A3) (dvs : List T) : E3 := fun σ Q X => x σ (fun ds => (ds ++ dvs).length = n ∧ f (ds ++ dvs) Q (fun _ => False)) X
theorem lift_call0 {K : PySem.W.Frag} {c : Cf} {n : Nat} {f : F3} {W : WX} {E : XK} {t : TA} {x : A3} {dvs : List V} {dts : List T} (ha : LiftA K c W t x) (hd : ∀ H, RepL K H dvs dts) :
    Lift K c W (tCall (sp3 K n f) dvs E t) (fn30 n f x dts) := by
  intro σ3 Q3 X h Hb G A σ H Q R k e
  refine ha _ _ _ h Hb G A σ H _ R (fun vs ds H1 L1 rx hx => ?_) e
  exact sp3_call (R.le L1) (rx.append (hd _)) hx.1 hx.2 (fun v d H' L r q => k v d H' (L1.trans L) r q) (fun cls dd x H' L r q => q.elim)
theorem lift_call {K : PySem.W.Frag} {c : Cf} {n : Nat} {f : F3} {W : WX} {E : XK} {t : TA} {x : A3} {dvs : List V} {dts : List T} (hE : ∀ cls dd σ H, W cls dd σ H → E cls dd H) (ha : LiftA K c W t x) (hd : ∀ H, RepL K H dvs dts) :
    Lift K c W (tCall (sp3 K n f) dvs E t) (fn3 n f x dts) := by
  intro σ3 Q3 X h Hb G A σ H Q R k e
  refine ha _ _ _ h Hb G A σ H _ R (fun vs ds H1 L1 rx hx => ?_) e
  exact sp3_call (R.le L1) (rx.append (hd _)) hx.1 hx.2 (fun v d H' L r q => k v d H' (L1.trans L) r q) (fun cls dd x H' L r q => hE _ _ σ _ (e cls dd x H' (L1.trans L) r q))
end M3

/-! L3C: operations on trees; loops and comprehensions. -/
namespace M3
open PySem L2
/-! ### ints -/
def i2 (g : Int → Int → T) : T → T → (T → Prop) → Prop := fun x y Q => ob (asI x) fun i => ob (asI y) fun j => Q (g i j)
def i2c (C : Int → Int → Prop) (g : Int → Int → T) : T → T → (T → Prop) → Prop := fun x y Q => ob (asI x) fun i => ob (asI y) fun j => C i j ∧ Q (g i j)
def i1 (g : Int → T) : T → (T → Prop) → Prop := fun x Q => ob (asI x) fun i => Q (g i)
section
variable {K : PySem.W.Frag}
theorem rl_I0 {g : Int → Int → V} {g3 : Int → Int → T} (h : ∀ i j H, Rep K H (g i j) (g3 i j)) : RL2 K (rI0 g) (i2 g3) := by
  intro c x y Q3 hh Hb G A σ3 σ H vx vy Q R rx ry k
  obtain ⟨i, ei, hh1⟩ := ob_iff.mp hh
  obtain ⟨j, ej, q⟩ := ob_iff.mp hh1
  cases asI_is ei
  cases asI_is ej
  exact ⟨i, j, rx.intI, ry.intI, k _ _ H (Le.refl R.inv) (h i j _) q⟩
theorem rl_I {C : Int → Int → Prop} {g : Int → Int → V} {g3 : Int → Int → T} (h : ∀ i j H, Rep K H (g i j) (g3 i j)) : RL2 K (rI C g) (i2c C g3) := by
  intro c x y Q3 hh Hb G A σ3 σ H vx vy Q R rx ry k
  obtain ⟨i, ei, hh1⟩ := ob_iff.mp hh
  obtain ⟨j, ej, hc, q⟩ := ob_iff.mp hh1
  cases asI_is ei
  cases asI_is ej
  exact ⟨i, j, rx.intI, ry.intI, hc, k _ _ H (Le.refl R.inv) (h i j _) q⟩
theorem rl_U {g : Int → V} {g3 : Int → T} (h : ∀ i H, Rep K H (g i) (g3 i)) : RL1 K (rU g) (i1 g3) := by
  intro c x Q3 hh Hb G A σ3 σ H vx Q R rx k
  obtain ⟨i, ei, q⟩ := ob_iff.mp hh
  cases asI_is ei
  exact ⟨i, rx.intI, k _ _ H (Le.refl R.inv) (h i _) q⟩
abbrev add3 := i2 fun i j => .int (i + j)
abbrev sub3 := i2 fun i j => .int (i - j)
abbrev mul3 := i2c CMul fun i j => .int (i * j)
abbrev mulW3 := i2c CMulW fun i j => .int (i * j)
abbrev fdivW3 := i2c CDivW fun i j => .int (i / j)
abbrev fdiv3 := i2c CDiv fun i j => .int (i / j)
abbrev mod3 := i2c (fun _ j => 0 < j) fun i j => .int (i % j)
abbrev pow3 := i2c CPow fun i j => .int (i ^ j.toNat)
abbrev lt3 := i2 fun i j => .bl (decide (i < j))
abbrev le3 := i2 fun i j => .bl (decide (i ≤ j))
abbrev gt3 := i2 fun i j => .bl (decide (j < i))
abbrev ge3 := i2 fun i j => .bl (decide (j ≤ i))
abbrev neg3 := i1 fun i => .int (-i)
theorem rl_add : RL2 K (rI0 fun i j => .int (i + j)) add3 := rl_I0 fun _ _ _ => .int _
theorem rl_sub : RL2 K (rI0 fun i j => .int (i - j)) sub3 := rl_I0 fun _ _ _ => .int _
theorem rl_mul : RL2 K (rI CMul fun i j => .int (i * j)) mul3 := rl_I fun _ _ _ => .int _
theorem rl_mulW : RL2 K (rI CMulW fun i j => .int (i * j)) mulW3 := rl_I fun _ _ _ => .int _
theorem rl_fdivW : RL2 K (rI CDivW fun i j => .int (i / j)) fdivW3 := rl_I fun _ _ _ => .int _
theorem rl_fdiv : RL2 K (rI CDiv fun i j => .int (i / j)) fdiv3 := rl_I fun _ _ _ => .int _
theorem rl_mod : RL2 K (rI (fun _ j => 0 < j) fun i j => .int (i % j)) mod3 := rl_I fun _ _ _ => .int _
theorem rl_pow : RL2 K (rI CPow fun i j => .int (i ^ j.toNat)) pow3 := rl_I fun _ _ _ => .int _
theorem rl_lt : RL2 K (rI0 fun i j => .bl (decide (i < j))) lt3 := rl_I0 fun _ _ _ => .bl _
theorem rl_le : RL2 K (rI0 fun i j => .bl (decide (i ≤ j))) le3 := rl_I0 fun _ _ _ => .bl _
theorem rl_gt : RL2 K (rI0 fun i j => .bl (decide (j < i))) gt3 := rl_I0 fun _ _ _ => .bl _
theorem rl_ge : RL2 K (rI0 fun i j => .bl (decide (j ≤ i))) ge3 := rl_I0 fun _ _ _ => .bl _
theorem rl_neg : RL1 K (rU fun i => .int (-i)) neg3 := rl_U fun _ _ => .int _
/-! ### is None; == of scalars -/
def isNon : T → Bool
  | .non => true
  | _ => false
def isN3 : T → T → (T → Prop) → Prop := fun x y Q => ob (asN y) fun _ => Q (.bl (isNon x))
def notN3 : T → T → (T → Prop) → Prop := fun x y Q => ob (asN y) fun _ => Q (.bl (!isNon x))
theorem Rep.isNon {H : Hp} {v : V} {t : T} (r : Rep K H v t) : decide (v = .non) = M3.isNon t := by cases r <;> rfl
theorem rl_isN : RL2 K (fun x y H Q => y = .non ∧ Q (.bl (decide (x = .non))) H) isN3 := by
  intro c x y Q3 hh Hb G A σ3 σ H vx vy Q R rx ry k
  obtain ⟨_, en, q⟩ := ob_iff.mp hh
  cases asN_is en
  exact ⟨ry.nonI, by rw [rx.isNon]; exact k _ _ H (Le.refl R.inv) (.bl _) q⟩
theorem rl_notN : RL2 K (fun x y H Q => y = .non ∧ Q (.bl (!decide (x = .non))) H) notN3 := by
  intro c x y Q3 hh Hb G A σ3 σ H vx vy Q R rx ry k
  obtain ⟨_, en, q⟩ := ob_iff.mp hh
  cases asN_is en
  exact ⟨ry.nonI, by rw [rx.isNon]; exact k _ _ H (Le.refl R.inv) (.bl _) q⟩
/-- the scalars: told apart by == as data -/
def flatT : T → Option V
  | .non => some .non
  | .bl b => some (.bl b)
  | .int i => some (.int i)
  | .str x => some (.str x)
  | _ => none
theorem Rep.flat {H : Hp} {v w : V} {t : T} (r : Rep K H v t) (h : flatT t = some w) : v = w := by cases r <;> cases h <;> rfl
def eqS3 : T → T → (T → Prop) → Prop := fun x y Q => ob (flatT x) fun v => ob (flatT y) fun w => scal v w = true ∧ Q (.bl (decide (v = w)))
def neS3 : T → T → (T → Prop) → Prop := fun x y Q => ob (flatT x) fun v => ob (flatT y) fun w => scal v w = true ∧ Q (.bl (!decide (v = w)))
theorem rl_eqS : RL2 K rEq eqS3 := by
  intro c x y Q3 hh Hb G A σ3 σ H vx vy Q R rx ry k
  obtain ⟨v, h1, hh1⟩ := ob_iff.mp hh
  obtain ⟨w, h2, h3, q⟩ := ob_iff.mp hh1
  rw [rx.flat h1, ry.flat h2]
  exact ⟨h3, k _ _ H (Le.refl R.inv) (.bl _) q⟩
theorem rl_neS : RL2 K rNe neS3 := by
  intro c x y Q3 hh Hb G A σ3 σ H vx vy Q R rx ry k
  obtain ⟨v, h1, hh1⟩ := ob_iff.mp hh
  obtain ⟨w, h2, h3, q⟩ := ob_iff.mp hh1
  rw [rx.flat h1, ry.flat h2]
  exact ⟨h3, k _ _ H (Le.refl R.inv) (.bl _) q⟩
/-! ### is True, is False: of bools -/
/-! ### sequences -/
def items : T → Option (List T)
  | .lst xs => some xs
  | .tup xs => some xs
  | _ => none
def ixL3 : T → T → (T → Prop) → Prop := fun x y Q => ob (asL x) fun xs => ob (asI y) fun i => ob (atI xs i) Q
def ixT3 : T → T → (T → Prop) → Prop := fun x y Q => ob (asT x) fun xs => ob (asI y) fun i => ob (atI xs i) Q
theorem RepL.atI {H : Hp} {vs : List V} {ts : List T} {i : Int} {t : T} (r : RepL K H vs ts) (h : L2.atI ts i = some t) : ∃ v, L2.atI vs i = some v ∧ Rep K H v t := by
  unfold L2.atI at h ⊢
  rw [r.length]
  cases e : ixN ts.length i with
  | none => rw [e] at h; cases h
  | some j =>
    rw [e] at h
    exact r.get h
theorem rl_ixL : RL2 K (rIxL K) ixL3 := by
  intro c x y Q3 hh Hb G A σ3 σ H vx vy Q R rx ry k
  obtain ⟨xs, ex, hh1⟩ := ob_iff.mp hh
  obtain ⟨i, ei, hh2⟩ := ob_iff.mp hh1
  obtain ⟨t, h, q⟩ := ob_iff.mp hh2
  cases asL_is ex
  cases asI_is ei
  obtain ⟨a, vs, rfl, ha, rl⟩ := rx.lstI
  obtain ⟨v, h1, h2⟩ := rl.atI h
  exact ⟨a, vs, i, v, rfl, ry.intI, SqL.of (hid_same _ _ ha), h1, k _ _ H (Le.refl R.inv) h2 q⟩
theorem rl_ixT : RL2 K (rIxT K) ixT3 := by
  intro c x y Q3 hh Hb G A σ3 σ H vx vy Q R rx ry k
  obtain ⟨xs, ex, hh1⟩ := ob_iff.mp hh
  obtain ⟨i, ei, hh2⟩ := ob_iff.mp hh1
  obtain ⟨t, h, q⟩ := ob_iff.mp hh2
  cases asT_is ex
  cases asI_is ei
  obtain ⟨a, vs, rfl, ha, rl⟩ := rx.tupI
  obtain ⟨v, h1, h2⟩ := rl.atI h
  exact ⟨a, vs, i, v, rfl, ry.intI, Same.sqT hid_same ha, h1, k _ _ H (Le.refl R.inv) h2 q⟩
def ixS3 : T → T → (T → Prop) → Prop := fun x y Q => ob (asS x) fun z => ob (asI y) fun i => z.length ≤ sizeLine ∧ ob (atI z.cps.toList i) fun c => Q (.str ⟨#[c]⟩)
theorem rl_ixS : RL2 K rIxS ixS3 := by
  intro c x y Q3 hh Hb G A σ3 σ H vx vy Q R rx ry k
  obtain ⟨z, ez, hh1⟩ := ob_iff.mp hh
  obtain ⟨i, ei, h, hh2⟩ := ob_iff.mp hh1
  obtain ⟨t, h1, q⟩ := ob_iff.mp hh2
  cases asS_is ez
  cases asI_is ei
  exact ⟨z, i, t, rx.strI, ry.intI, h, h1, k _ _ H (Le.refl R.inv) (.str _) q⟩
theorem RL2.or {r r' : R2} {q q' : T → T → (T → Prop) → Prop} (h : RL2 K r q) (h' : RL2 K r' q') : RL2 K (fun x y H Q => r x y H Q ∨ r' x y H Q) (fun x y Q => q x y Q ∨ q' x y Q) := by
  intro c x y Q3 hh Hb G A σ3 σ H vx vy Q R rx ry k
  rcases hh with hh | hh
  · exact .inl (h c x y Q3 hh Hb G A σ3 σ H vx vy Q R rx ry k)
  · exact .inr (h' c x y Q3 hh Hb G A σ3 σ H vx vy Q R rx ry k)
theorem RLn.or {r r' : List V → Hp → VK → Prop} {q q' : List T → (T → Prop) → Prop} (h : RLn K r q) (h' : RLn K r' q') : RLn K (fun x H Q => r x H Q ∨ r' x H Q) (fun x Q => q x Q ∨ q' x Q) := by
  intro c x Q3 hh Hb G A σ3 σ H vx Q R rx k
  rcases hh with hh | hh
  · exact .inl (h c x Q3 hh Hb G A σ3 σ H vx Q R rx k)
  · exact .inr (h' c x Q3 hh Hb G A σ3 σ H vx Q R rx k)
/-- len of a list, a tuple, a text -/
def lenT : T → Option Nat
  | .lst xs => some xs.length
  | .tup xs => some xs.length
  | .str z => if z.length ≤ sizeLine then some z.length else none
  | _ => none
def len3 : List T → (T → Prop) → Prop := fun xs Q => ob (one xs) fun x => ob (lenT x) fun n => Q (.int n)
theorem repL_one {H : Hp} {vs : List V} {t : T} (r : RepL K H vs [t]) : ∃ v, vs = [v] ∧ Rep K H v t := by
  cases r with
  | cons r q => cases q; exact ⟨_, rfl, r⟩
theorem repL_two {H : Hp} {vs : List V} {t u : T} (r : RepL K H vs [t, u]) : ∃ v w, vs = [v, w] ∧ Rep K H v t ∧ Rep K H w u := by
  cases r with
  | cons r q =>
    obtain ⟨w, rfl, h⟩ := repL_one q
    exact ⟨_, w, rfl, r, h⟩
theorem rl_len : RLn K (fun xs H Q => ∃ x n, xs = [x] ∧ LenV K x H n ∧ Q (.int n) H) len3 := by
  intro c xs Q3 hh Hb G A σ3 σ H vs Q R rx k
  obtain ⟨x, ex, hh1⟩ := ob_iff.mp hh
  obtain ⟨n, hn, q⟩ := ob_iff.mp hh1
  cases one_is ex
  obtain ⟨v, rfl, r⟩ := repL_one rx
  refine ⟨v, n, rfl, ?_, k _ _ H (Le.refl R.inv) (.int _) q⟩
  cases x with
  | lst xs =>
    cases hn
    obtain ⟨a, vs, rfl, ha, rl⟩ := r.lstI
    exact .inl ⟨vs, SqL.of (hid_same _ _ ha), by rw [rl.length]⟩
  | tup xs =>
    cases hn
    obtain ⟨a, vs, rfl, ha, rl⟩ := r.tupI
    exact .inr ⟨vs, Same.sqT hid_same ha, by rw [rl.length]⟩
  | str z =>
    cases r.strI
    replace hn : (if z.length ≤ sizeLine then some z.length else none) = some n := hn
    by_cases hz : z.length ≤ sizeLine
    · rw [if_pos hz] at hn; cases hn; exact ⟨hz, rfl⟩
    · rw [if_neg hz] at hn; cases hn
  | _ => cases hn
/-- all(xs) of a list of bools -/
def bls : List T → Option (List Bool)
  | [] => some []
  | .bl b :: r => (bls r).map (b :: ·)
  | _ => none
theorem bls_map : ∀ bs : List Bool, bls (bs.map T.bl) = some bs
  | [] => rfl
  | b :: bs => by show (bls (bs.map T.bl)).map (b :: ·) = _; rw [bls_map bs]; rfl
theorem RepL.bls {H : Hp} : ∀ {vs : List V} {ts : List T} {bs : List Bool}, RepL K H vs ts → M3.bls ts = some bs → vs = bs.map V.bl
  | _, [], bs, .nil, h => by cases h; rfl
  | _, t :: ts, bs, .cons r q, h => by
    cases t with
    | bl b =>
      cases e : M3.bls ts with
      | none =>
        have : (M3.bls ts).map (b :: ·) = some bs := h
        rw [e] at this; cases this
      | some l =>
        have h' : (M3.bls ts).map (b :: ·) = some bs := h
        rw [e] at h'
        cases h'
        rw [r.blI, RepL.bls q e, List.map_cons]
    | _ => cases h
def all3 : List T → (T → Prop) → Prop := fun xs Q => ob (one xs) fun x => ob (asL x) fun ts => ob (bls ts) fun bs => Q (.bl (bs.all id))
def any3 : List T → (T → Prop) → Prop := fun xs Q => ob (one xs) fun x => ob (asL x) fun ts => ob (bls ts) fun bs => Q (.bl (bs.any id))
theorem rl_all : RLn K (rAll K) all3 := by
  intro c xs Q3 hh Hb G A σ3 σ H vs Q R rx k
  obtain ⟨x, ex, hh1⟩ := ob_iff.mp hh
  obtain ⟨ts, et, hh2⟩ := ob_iff.mp hh1
  obtain ⟨bs, hn, q⟩ := ob_iff.mp hh2
  cases one_is ex
  cases asL_is et
  obtain ⟨v, rfl, r⟩ := repL_one rx
  obtain ⟨a, vs, rfl, ha, rl⟩ := r.lstI
  refine ⟨a, bs, rfl, ?_, k _ _ H (Le.refl R.inv) (.bl _) q⟩
  rw [← rl.bls hn]
  exact SqL.of (hid_same _ _ ha)
theorem rl_any : RLn K (rAny K) any3 := by
  intro c xs Q3 hh Hb G A σ3 σ H vs Q R rx k
  obtain ⟨x, ex, hh1⟩ := ob_iff.mp hh
  obtain ⟨ts, et, hh2⟩ := ob_iff.mp hh1
  obtain ⟨bs, hn, q⟩ := ob_iff.mp hh2
  cases one_is ex
  cases asL_is et
  obtain ⟨v, rfl, r⟩ := repL_one rx
  obtain ⟨a, vs, rfl, ha, rl⟩ := r.lstI
  refine ⟨a, bs, rfl, ?_, k _ _ H (Le.refl R.inv) (.bl _) q⟩
  rw [← rl.bls hn]
  exact SqL.of (hid_same _ _ ha)
/-! ### abs, max, min of two ints; int(bool) -/
def abs3 : List T → (T → Prop) → Prop := fun xs Q => ob (one xs) fun x => ob (asI x) fun i => Q (.int (if i < 0 then -i else i))
theorem rl_abs : RLn K (fun xs H Q => ∃ i, xs = [.int i] ∧ Q (.int (if i < 0 then -i else i)) H) abs3 := by
  intro c xs Q3 hh Hb G A σ3 σ H vs Q R rx k
  obtain ⟨x, ex, hh1⟩ := ob_iff.mp hh
  obtain ⟨i, ei, q⟩ := ob_iff.mp hh1
  cases one_is ex
  cases asI_is ei
  obtain ⟨v, rfl, r⟩ := repL_one rx
  cases r.intI
  exact ⟨i, rfl, k _ _ H (Le.refl R.inv) (.int _) q⟩
def max23 : List T → (T → Prop) → Prop := fun xs Q => ob (two xs) fun p => ob (asI p.1) fun i => ob (asI p.2) fun j => Q (.int (if j > i then j else i))
def min23 : List T → (T → Prop) → Prop := fun xs Q => ob (two xs) fun p => ob (asI p.1) fun i => ob (asI p.2) fun j => Q (.int (if j < i then j else i))
theorem rl_max2 : RLn K (fun xs H Q => ∃ i j, xs = [.int i, .int j] ∧ Q (.int (if j > i then j else i)) H) max23 := by
  intro c xs Q3 hh Hb G A σ3 σ H vs Q R rx k
  obtain ⟨⟨x, y⟩, ex, hh1⟩ := ob_iff.mp hh
  obtain ⟨i, ei, hh2⟩ := ob_iff.mp hh1
  obtain ⟨j, ej, q⟩ := ob_iff.mp hh2
  cases two_is ex
  cases asI_is ei
  cases asI_is ej
  obtain ⟨v, w, rfl, r, s⟩ := repL_two rx
  cases r.intI
  cases s.intI
  exact ⟨i, j, rfl, k _ _ H (Le.refl R.inv) (.int _) q⟩
theorem rl_min2 : RLn K (fun xs H Q => ∃ i j, xs = [.int i, .int j] ∧ Q (.int (if j < i then j else i)) H) min23 := by
  intro c xs Q3 hh Hb G A σ3 σ H vs Q R rx k
  obtain ⟨⟨x, y⟩, ex, hh1⟩ := ob_iff.mp hh
  obtain ⟨i, ei, hh2⟩ := ob_iff.mp hh1
  obtain ⟨j, ej, q⟩ := ob_iff.mp hh2
  cases two_is ex
  cases asI_is ei
  cases asI_is ej
  obtain ⟨v, w, rfl, r, s⟩ := repL_two rx
  cases r.intI
  cases s.intI
  exact ⟨i, j, rfl, k _ _ H (Le.refl R.inv) (.int _) q⟩
/-! ### isinstance with a built-in class -/
def tyn : T → Option String
  | .non => some "NoneType"
  | .bl _ => some "bool"
  | .int _ => some "int"
  | .str _ => some "str"
  | .tup _ => some "tuple"
  | .lst _ => some "list"
  | .dic _ => some "dict"
  | _ => none
theorem sqT_ty {H : Hp} {a : Addr} {vs : List V} (h : SqT K H a vs) : TyX K H (.ref a) (.type "tuple") := by
  rcases h with (h | ⟨o, h⟩) | ⟨o, its, n, h1, h2, _⟩
  · exact .base (.tup h)
  · exact .fTuple h
  · exact .kTuple h1 h2
theorem Rep.ty_ {H : Hp} {v : V} {t : T} {n : String} (r : Rep K H v t) (h : tyn t = some n) : TyX K H v (.type n) := by
  cases r with
  | non => cases h; exact .base .non
  | bl b => cases h; exact .base (.bl b)
  | int i => cases h; exact .base (.int i)
  | str x => cases h; exact .base (.str x)
  | ty n => cases h
  | ref a => cases h
  | tup h' => cases h; exact sqT_ty h'.sq
  | lst h' => cases h; exact .base (.lst h')
  | dic h' =>
    cases h
    obtain ⟨o, h'⟩ := h'
    exact .fDict h'
  | ins h' => cases h
def isiB (x c : T) : Option Bool := match c with | .ty n => (tyn x).bind fun a => kitB a n | _ => none
def isi3 : List T → (T → Prop) → Prop := fun xs Q => ob (two xs) fun p => ob (isiB p.1 p.2) fun b => Q (.bl b)
theorem TyX.mono {H H' : Hp} {v : V} {t : Value} (e : Same H H') (h : TyX K H v t) : TyX K H' v t := by
  cases h with
  | base h =>
    refine .base ?_
    cases h with
    | non => exact .non
    | bl b => exact .bl b
    | int i => exact .int i
    | str x => exact .str x
    | flt x => exact .flt x
    | lst h => exact .lst (e _ _ h)
    | frz h => exact .frz (e _ _ h)
    | tup h => exact .tup (e _ _ h)
    | dK h => exact .dK (e _ _ h)
    | dT h => exact .dT (e _ _ h)
    | ins h cl ha hn ht hm => exact .ins (e _ _ h) cl ha hn ht hm
  | byt b => exact .byt b
  | set h => exact .set (e _ _ h)
  | kList h c => exact .kList h c
  | kTuple h c => exact .kTuple h c
  | kDict h c => exact .kDict h c
  | fTuple h => exact .fTuple (e _ _ h)
  | fDict h => exact .fDict (e _ _ h)
theorem rl_isi : RLn K (rIsi K) isi3 := by
  intro c xs Q3 hh Hb G A σ3 σ H vs Q R rx k
  obtain ⟨⟨x, y⟩, ex, hh1⟩ := ob_iff.mp hh
  obtain ⟨b, hb, q⟩ := ob_iff.mp hh1
  cases two_is ex
  obtain ⟨n, a, rfl, h1, h2⟩ : ∃ n a, y = .ty n ∧ tyn x = some a ∧ kitB a n = some b := by
    cases y with
    | ty n =>
      cases e : tyn x with
      | none =>
        have hb : (tyn x).bind (fun a => kitB a n) = some b := hb
        rw [e] at hb
        cases hb
      | some a =>
        have hb : (tyn x).bind (fun a => kitB a n) = some b := hb
        rw [e] at hb
        exact ⟨n, a, rfl, rfl, hb⟩
    | _ => cases hb
  obtain ⟨v, w, rfl, r, s⟩ := repL_two rx
  cases s.tyI
  exact ⟨v, _, _, _, b, rfl, .ty n, TyX.mono hid_same (r.ty_ h1), kit_ty h2, k _ _ H (Le.refl R.inv) (.bl _) q⟩
end
theorem kb_non_bool : kitB "NoneType" "bool" = some false := by decide +kernel
theorem kb_non_int : kitB "NoneType" "int" = some false := by decide +kernel
theorem kb_non_str : kitB "NoneType" "str" = some false := by decide +kernel
theorem kb_non_list : kitB "NoneType" "list" = some false := by decide +kernel
theorem kb_non_tuple : kitB "NoneType" "tuple" = some false := by decide +kernel
theorem kb_bool_bool : kitB "bool" "bool" = some true := by decide +kernel
theorem kb_bool_int : kitB "bool" "int" = some true := by decide +kernel
theorem kb_bool_str : kitB "bool" "str" = some false := by decide +kernel
theorem kb_bool_list : kitB "bool" "list" = some false := by decide +kernel
theorem kb_bool_tuple : kitB "bool" "tuple" = some false := by decide +kernel
theorem kb_int_bool : kitB "int" "bool" = some false := by decide +kernel
theorem kb_int_int : kitB "int" "int" = some true := by decide +kernel
theorem kb_int_str : kitB "int" "str" = some false := by decide +kernel
theorem kb_int_list : kitB "int" "list" = some false := by decide +kernel
theorem kb_int_tuple : kitB "int" "tuple" = some false := by decide +kernel
theorem kb_str_bool : kitB "str" "bool" = some false := by decide +kernel
theorem kb_str_int : kitB "str" "int" = some false := by decide +kernel
theorem kb_str_str : kitB "str" "str" = some true := by decide +kernel
theorem kb_str_list : kitB "str" "list" = some false := by decide +kernel
theorem kb_str_tuple : kitB "str" "tuple" = some false := by decide +kernel
theorem kb_list_bool : kitB "list" "bool" = some false := by decide +kernel
theorem kb_list_int : kitB "list" "int" = some false := by decide +kernel
theorem kb_list_str : kitB "list" "str" = some false := by decide +kernel
theorem kb_list_list : kitB "list" "list" = some true := by decide +kernel
theorem kb_list_tuple : kitB "list" "tuple" = some false := by decide +kernel
theorem kb_tuple_bool : kitB "tuple" "bool" = some false := by decide +kernel
theorem kb_tuple_int : kitB "tuple" "int" = some false := by decide +kernel
theorem kb_tuple_str : kitB "tuple" "str" = some false := by decide +kernel
theorem kb_tuple_list : kitB "tuple" "list" = some false := by decide +kernel
theorem kb_tuple_tuple : kitB "tuple" "tuple" = some true := by decide +kernel
end M3

/-! L3D: loops and comprehensions over trees. -/
namespace M3
open PySem L2
/-- the iterator yields the trees ds, while what V0 shows stands -/
structure WalksB (K : PySem.W.Frag) (w : Bool) (V0 : Hp) (J : It) (ds : List T) : Prop where
  go : ∀ (i : Nat) d S H, ds[i]? = some d → Same V0 (hid S H) → J.go i H
  yld : ∀ (i : Nat) d S H x H', ds[i]? = some d → Same V0 (hid S H) → (∀ a ∈ S, H a ≠ none) → J.yld i H x H' → (H' = H ∨ ∃ p o, H p = none ∧ H' = upd H p o) ∧ RepB K w (hid S H') x d
  stop : ∀ S H, Same V0 (hid S H) → J.stop ds.length H
abbrev Walks (K : PySem.W.Frag) (V0 : Hp) (J : It) (ds : List T) : Prop := WalksB K false V0 J ds
def LiftIB (K : PySem.W.Frag) (c : Cf) (w : Bool) (W : WX) (wi : TI) (t : A3) : Prop :=
  ∀ σ3 Q3 X, t σ3 Q3 X → ∀ Hb G A σ H R', R3 K c Hb G A σ3 σ H →
    (∀ J ds H', Le c G A H H' → WalksB K w (hid (c.S G A) H') J ds → Q3 ds → R' J H') →
    (∀ cls dd x H', Le c G A H H' → XRep K (hid (c.S G A) H') cls dd x → X x → W cls dd σ H') → wi σ H R'
abbrev LiftI (K : PySem.W.Frag) (c : Cf) (W : WX) (wi : TI) (t : A3) : Prop := LiftIB K c false W wi t
section
variable {K : PySem.W.Frag} {c : Cf} {W : WX} {ta tb te : TE} {a b e : E3}
theorem walks_list {V0 : Hp} {a : Addr} {vs : List V} {ds : List T} (h : V0 a = some (.lst vs)) (r : RepL K V0 vs ds) : Walks K V0 (Itl K a) ds where
  go := fun i d S H hd e => by
    obtain ⟨v, hv, _⟩ := r.get hd
    exact ⟨vs, v, SqL.of (hid_same _ _ (e _ _ h)), hv⟩
  yld := fun i d S H x H' hd e _ y => by
    obtain ⟨v, hv, rv⟩ := r.get hd
    obtain ⟨rfl, y⟩ := y
    have z := y vs (SqL.of (hid_same _ _ (e _ _ h)))
    rw [hv] at z
    cases z
    exact ⟨.inl rfl, .inl (rv.mono e)⟩
  stop := fun S H e => ⟨vs, SqL.of (hid_same _ _ (e _ _ h)), by rw [r.length]; exact Nat.le_refl _⟩
theorem walks_tup {V0 : Hp} {a : Addr} {vs : List V} {ds : List T} (h : SqT K V0 a vs) (r : RepL K V0 vs ds) : Walks K V0 (Itt K a) ds where
  go := fun i d S H hd e => by
    obtain ⟨v, hv, _⟩ := r.get hd
    exact ⟨vs, v, Same.sqT hid_same (Same.sqT e h), hv⟩
  yld := fun i d S H x H' hd e _ y => by
    obtain ⟨v, hv, rv⟩ := r.get hd
    obtain ⟨rfl, y⟩ := y
    have z := y vs (Same.sqT hid_same (Same.sqT e h))
    rw [hv] at z
    cases z
    exact ⟨.inl rfl, .inl (rv.mono e)⟩
  stop := fun S H e => ⟨vs, Same.sqT hid_same (Same.sqT e h), by rw [r.length]; exact Nat.le_refl _⟩
def rangeT (lo : Int) (n : Nat) : List T := (List.range n).map fun i => .int (lo + (i : Nat))
theorem walks_range {V0 : Hp} (lo : Int) (n : Nat) : Walks K V0 (Itr lo n) (rangeT lo n) where
  go := fun i d S H hd e => by
    have := (List.getElem?_eq_some_iff.mp hd).1
    show i < n
    simpa [rangeT] using this
  yld := fun i d S H x H' hd e _ y => by
    obtain ⟨rfl, rfl⟩ := y
    have hl := (List.getElem?_eq_some_iff.mp hd).1
    have hl : i < n := by simpa [rangeT] using hl
    have z : (rangeT lo n)[i]? = some (.int (lo + (i : Nat))) := by
      unfold rangeT
      rw [List.getElem?_map, List.getElem?_range hl]
      rfl
    rw [z] at hd
    cases hd
    exact ⟨.inl rfl, .inl (.int _)⟩
  stop := fun S H e => by
    show n ≤ _
    simp [rangeT]
def iterL3 (a : E3) : A3 := fun σ Q X => a σ (fun d => ob (asL d) Q) X
def iterT3 (a : E3) : A3 := fun σ Q X => a σ (fun d => ob (asT d) Q) X
def iterR3 (x : A3) : A3 := fun σ Q X => x σ (fun ds => ob (one ds) fun d => ob (asI d) fun j => -(2 ^ 62) ≤ j ∧ j < 2 ^ 62 ∧ Q (rangeT 0 j.toNat)) X
def iterR23 (x : A3) : A3 := fun σ Q X => x σ (fun ds => ob (two ds) fun d => ob (asI d.1) fun i => ob (asI d.2) fun j => (-(2 ^ 62) ≤ i ∧ i < 2 ^ 62 ∧ -(2 ^ 62) ≤ j ∧ j < 2 ^ 62) ∧ Q (rangeT i (j - i).toNat)) X
theorem lift_iL (ha : Lift K c W ta a) : LiftI K c W (iList K ta) (iterL3 a) := by
  intro σ3 Q3 X h Hb G A σ H R' R k e
  refine ha _ _ _ h Hb G A σ H _ R (fun v d H1 L1 r q => ?_) e
  obtain ⟨xs, ex, q1⟩ := ob_iff.mp q
  cases asL_is ex
  obtain ⟨p, vs, rfl, hp, rl⟩ := r.lstI
  exact ⟨p, rfl, ⟨vs, SqL.of (hid_same _ _ hp)⟩, k _ _ H1 L1 (walks_list hp rl) q1⟩
theorem lift_iT (ha : Lift K c W ta a) : LiftI K c W (iTup K ta) (iterT3 a) := by
  intro σ3 Q3 X h Hb G A σ H R' R k e
  refine ha _ _ _ h Hb G A σ H _ R (fun v d H1 L1 r q => ?_) e
  obtain ⟨xs, ex, q1⟩ := ob_iff.mp q
  cases asT_is ex
  obtain ⟨p, vs, rfl, hp, rl⟩ := r.tupI
  exact ⟨p, rfl, ⟨vs, Same.sqT hid_same hp⟩, k _ _ H1 L1 (walks_tup hp rl) q1⟩
theorem lift_iR {t : TA} {x : A3} (ha : LiftA K c W t x) : LiftI K c W (iRng1 t) (iterR3 x) := by
  intro σ3 Q3 X h Hb G A σ H R' R k e
  refine ha _ _ _ h Hb G A σ H _ R (fun v d H1 L1 r q => ?_) e
  obtain ⟨d, ed, q1⟩ := ob_iff.mp q
  obtain ⟨j, ej, h1, h2, q2⟩ := ob_iff.mp q1
  cases one_is ed
  cases asI_is ej
  obtain ⟨v, rfl, rv⟩ := repL_one r
  cases rv.intI
  exact ⟨j, rfl, h1, h2, k _ _ H1 L1 (walks_range 0 j.toNat) q2⟩
theorem lift_iR2 {t : TA} {x : A3} (ha : LiftA K c W t x) : LiftI K c W (iRng2 t) (iterR23 x) := by
  intro σ3 Q3 X h Hb G A σ H R' R k e
  refine ha _ _ _ h Hb G A σ H _ R (fun v d H1 L1 r q => ?_) e
  obtain ⟨⟨d, d'⟩, ed, q1⟩ := ob_iff.mp q
  obtain ⟨i, ei, q2⟩ := ob_iff.mp q1
  obtain ⟨j, ej, h1, q3⟩ := ob_iff.mp q2
  cases two_is ed
  cases asI_is ei
  cases asI_is ej
  obtain ⟨v, w, rfl, rv, rw'⟩ := repL_two r
  cases rv.intI
  cases rw'.intI
  exact ⟨i, j, rfl, h1, k _ _ H1 L1 (walks_range i (j - i).toNat) q3⟩
/-! ### zip -/
def pairT : List T → List T → List T
  | x :: xs, y :: ys => .tup [x, y] :: pairT xs ys
  | _, _ => []
theorem pairT_get : ∀ {xs ys : List T} {i : Nat} {d : T}, (pairT xs ys)[i]? = some d → ∃ x y, xs[i]? = some x ∧ ys[i]? = some y ∧ d = .tup [x, y]
  | [], _, i, d, h => by simp [pairT] at h
  | _ :: _, [], i, d, h => by simp [pairT] at h
  | x :: xs, y :: ys, 0, d, h => ⟨x, y, rfl, rfl, by simpa [pairT] using h.symm⟩
  | x :: xs, y :: ys, i + 1, d, h => by
    have h' : (pairT xs ys)[i]? = some d := by simpa [pairT] using h
    obtain ⟨x', y', h1, h2, h3⟩ := pairT_get h'
    exact ⟨x', y', by simpa using h1, by simpa using h2, h3⟩
theorem pairT_len : ∀ (xs ys : List T), (pairT xs ys).length = min xs.length ys.length
  | [], _ => by simp [pairT]
  | _ :: _, [] => by simp [pairT]
  | x :: xs, y :: ys => by simp [pairT, pairT_len xs ys]
theorem yld_pair {S : List Addr} {H H' : Hp} {Tt : Addr} {v w : V} {x y : T} (hS : ∀ a ∈ S, H a ≠ none) (hT : H Tt = none) (e : H' = upd H Tt (.tup [v, w])) (r1 : Rep K (hid S H) v x) (r2 : Rep K (hid S H) w y) :
    (H' = H ∨ ∃ p o, H p = none ∧ H' = upd H p o) ∧ RepB K true (hid S H') (.ref Tt) (.tup [x, y]) := by
  subst e
  have hn : Tt ∉ S := fun z => hS Tt z hT
  have sm : Same (hid S H) (hid S (upd H Tt (.tup [v, w]))) := fun a o z => by
    obtain ⟨z1, z2⟩ := hid_some z
    exact hid_mk (by rw [upd_ne (ne_of_none z1 hT)]; exact z1) z2
  exact ⟨.inr ⟨Tt, _, hT, rfl⟩, .inr ⟨rfl, _, _, _, rfl, rfl, SqT.of (hid_mk upd_same hn), .cons (r1.mono sm) (.cons (r2.mono sm) .nil)⟩⟩
theorem walks_zipL {V0 : Hp} {a b : Addr} {vs ws : List V} {xs ys : List T} (ha : V0 a = some (.lst vs)) (hb : V0 b = some (.lst ws)) (r : RepL K V0 vs xs) (s : RepL K V0 ws ys) : WalksB K true V0 (Itz K a b) (pairT xs ys) where
  go := fun i d S H hd e => by
    obtain ⟨x, y, h1, h2, _⟩ := pairT_get hd
    obtain ⟨v, hv, _⟩ := r.get h1
    obtain ⟨w, hw, _⟩ := s.get h2
    exact ⟨vs, ws, v, w, SqL.of (hid_same _ _ (e _ _ ha)), SqL.of (hid_same _ _ (e _ _ hb)), hv, hw⟩
  yld := fun i d S H x H' hd e hS y => by
    obtain ⟨x1, y1, h1, h2, rfl⟩ := pairT_get hd
    obtain ⟨v, hv, rv⟩ := r.get h1
    obtain ⟨w, hw, rw'⟩ := s.get h2
    obtain ⟨Tt, p, q, rfl, hT, e', f1, f2⟩ := y
    have z1 := f1 vs (SqL.of (hid_same _ _ (e _ _ ha)))
    have z2 := f2 ws (SqL.of (hid_same _ _ (e _ _ hb)))
    rw [hv] at z1
    rw [hw] at z2
    cases z1
    cases z2
    exact yld_pair hS hT e' (rv.mono e) (rw'.mono e)
  stop := fun S H e => ⟨vs, ws, SqL.of (hid_same _ _ (e _ _ ha)), SqL.of (hid_same _ _ (e _ _ hb)), by rw [pairT_len, r.length, s.length]; omega⟩
theorem walks_zipT {V0 : Hp} {a b : Addr} {vs ws : List V} {xs ys : List T} (ha : SqT K V0 a vs) (hb : SqT K V0 b ws) (r : RepL K V0 vs xs) (s : RepL K V0 ws ys) : WalksB K true V0 (RZ.ItzT K a b) (pairT xs ys) where
  go := fun i d S H hd e => by
    obtain ⟨x, y, h1, h2, _⟩ := pairT_get hd
    obtain ⟨v, hv, _⟩ := r.get h1
    obtain ⟨w, hw, _⟩ := s.get h2
    exact ⟨vs, ws, v, w, Same.sqT hid_same (Same.sqT e ha), Same.sqT hid_same (Same.sqT e hb), hv, hw⟩
  yld := fun i d S H x H' hd e hS y => by
    obtain ⟨x1, y1, h1, h2, rfl⟩ := pairT_get hd
    obtain ⟨v, hv, rv⟩ := r.get h1
    obtain ⟨w, hw, rw'⟩ := s.get h2
    obtain ⟨Tt, p, q, rfl, hT, e', f1, f2⟩ := y
    have z1 := f1 vs (Same.sqT hid_same (Same.sqT e ha))
    have z2 := f2 ws (Same.sqT hid_same (Same.sqT e hb))
    rw [hv] at z1
    rw [hw] at z2
    cases z1
    cases z2
    exact yld_pair hS hT e' (rv.mono e) (rw'.mono e)
  stop := fun S H e => ⟨vs, ws, Same.sqT hid_same (Same.sqT e ha), Same.sqT hid_same (Same.sqT e hb), by rw [pairT_len, r.length, s.length]; omega⟩
/-- zip of two lists, of two tuples -/
def zipT : T → T → Option (List T)
  | .lst xs, .lst ys => some (pairT xs ys)
  | .tup xs, .tup ys => some (pairT xs ys)
  | _, _ => none
def iterZ3 (x : A3) : A3 := fun σ Q X => x σ (fun ds => ob (two ds) fun p => ob (zipT p.1 p.2) Q) X
theorem zipT_is {x y : T} {l : List T} (h : zipT x y = some l) : ∃ xs ys, l = pairT xs ys ∧ ((x = .lst xs ∧ y = .lst ys) ∨ (x = .tup xs ∧ y = .tup ys)) := by
  cases x <;> cases y <;> cases h <;> first | exact ⟨_, _, rfl, .inl ⟨rfl, rfl⟩⟩ | exact ⟨_, _, rfl, .inr ⟨rfl, rfl⟩⟩
theorem lift_iZ {t : TA} {x : A3} (ha : LiftA K c W t x) : LiftIB K c true W (RZ.iZipA K t) (iterZ3 x) := by
  intro σ3 Q3 X h Hb G A σ H R' R k e
  refine ha _ _ _ h Hb G A σ H _ R (fun v d H1 L1 r q => ?_) e
  obtain ⟨⟨d, d'⟩, ed, q1⟩ := ob_iff.mp q
  obtain ⟨l, el, q2⟩ := ob_iff.mp q1
  cases two_is ed
  obtain ⟨xs, ys, rfl, hh⟩ := zipT_is el
  rcases hh with ⟨rfl, rfl⟩ | ⟨rfl, rfl⟩
  · obtain ⟨v, w, rfl, rv, rw'⟩ := repL_two r
    obtain ⟨p, vs, rfl, hp, rl⟩ := rv.lstI
    obtain ⟨p2, ws, rfl, hp2, rl2⟩ := rw'.lstI
    exact ⟨p, p2, vs, ws, rfl, .inl ⟨SqL.of (hid_same _ _ hp), SqL.of (hid_same _ _ hp2), k _ _ H1 L1 (walks_zipL hp hp2 rl rl2) q2⟩⟩
  · obtain ⟨v, w, rfl, rv, rw'⟩ := repL_two r
    obtain ⟨p, vs, rfl, hp, rl⟩ := rv.tupI
    obtain ⟨p2, ws, rfl, hp2, rl2⟩ := rw'.tupI
    exact ⟨p, p2, vs, ws, rfl, .inr ⟨Same.sqT hid_same hp, Same.sqT hid_same hp2, k _ _ H1 L1 (walks_zipT hp hp2 rl rl2) q2⟩⟩
end
/-! ### a base anew -/
section
variable {K : PySem.W.Frag} {c : Cf} {Hb H H1 H' : Hp} {G : List Addr} {A A' : List (Option Addr)} {σ3 σ3' : List Sl} {σ σ' : St}
theorem R3.rebase (r : R3 K c Hb G A σ3 σ H) : R3 K c (out (addrs A) H) G A σ3 σ H where
  inv := r.inv
  base := fun a o e => by
    obtain ⟨e1, e2⟩ := hid_some e
    obtain ⟨e3, e4⟩ := out_some e1
    exact hid_mk e3 fun z => by
      rcases mem_S.mp z with z | z | z
      · exact e2 (List.mem_append.mpr (.inl z))
      · exact e2 (List.mem_append.mpr (.inr z))
      · exact e4 z
  gk := fun a h => ⟨by rw [out_out (fun z => r.ns a z (List.mem_append.mpr (.inr h)))], (r.gk a h).2⟩
  gv := r.gv
  nd := r.nd
  ns := r.ns
  l1 := r.l1
  l2 := r.l2
  at_ := r.at_
theorem rebase_vis : Same (hid (c.S G A) H1) (hid (c.S0 ++ G) (out (addrs A) H1)) := fun a o e => by
  obtain ⟨e1, e2⟩ := hid_some e
  refine hid_mk (by rw [out_out fun z => e2 (mem_S.mpr (.inr (.inr z)))]; exact e1) (fun z => e2 ?_)
  rcases List.mem_append.mp z with z | z
  · exact mem_S.mpr (.inl z)
  · exact mem_S.mpr (.inr (.inl z))
theorem Fin3.debase (r : R3 K c Hb G A σ3 σ H1) (q : Fin3 K c (out (addrs A) H1) G H') : Fin3 K c Hb G H' where
  inv := q.inv
  base := Same.trans r.base (Same.trans rebase_vis q.base)
  gk := fun a h => by rw [q.gk a h, out_out (fun z => r.ns a z (List.mem_append.mpr (.inr h))), (r.gk a h).1]
theorem R3.debase (r : R3 K c Hb G A σ3 σ H1) (q : R3 K c (out (addrs A) H1) G A' σ3' σ' H') : R3 K c Hb G A' σ3' σ' H' where
  inv := q.inv
  base := Same.trans r.base (Same.trans rebase_vis q.base)
  gk := fun a h => ⟨by rw [(q.gk a h).1, out_out (fun z => r.ns a z (List.mem_append.mpr (.inr h))), (r.gk a h).1], (q.gk a h).2⟩
  gv := q.gv
  nd := q.nd
  ns := q.ns
  l1 := q.l1
  l2 := q.l2
  at_ := q.at_
end
/-! ### for -/
def loop3 (g : TG3) (tb : S3) (N : N3) : List T → List Sl → Prop
  | [], σ => N.nx σ
  | x :: r, σ => g x σ fun σ' => tb { nx := loop3 g tb N r, ct := loop3 g tb N r, bk := N.nx, rt := N.rt, xn := N.xn } σ'
def for3 (s : A3) (g : TG3) (tb : S3) : S3 := fun N σ => s σ (fun ds => loop3 g tb N ds σ) (N.xn σ)
section
variable {K : PySem.W.Frag} {c : Cf} {W : WX}
theorem lift_for {wk : Bool} {vs : List Nat} {wi : TI} {s : A3} {g : TG} {g3 : TG3} {tb : TS} {b : S3} (hi : LiftIB K c wk W wi s) (hg : LiftTgB K c wk vs g g3) (hb : LiftS K c W tb b) : LiftS K c W (tFor wi g tb) (for3 s g3 b) := by
  intro N σ3 h Hb G A σ H D R Z
  refine hi _ _ _ h Hb G A σ H _ R (fun J ds H1 L1 w q => ?_) (fun cls dd x H' L r q => Z.xn _ _ _ _ _ _ _ (R.le L) r q)
  have R1 := R.le L1
  refine ⟨fun i m σ' H' => m = ds.length - i ∧ i ≤ ds.length ∧ ∃ A' σ3', R3 K c (out (addrs A) H1) G A' σ3' σ' H' ∧ loop3 g3 b N (ds.drop i) σ3', ⟨ds.length, rfl, Nat.zero_le _, A, σ3, R1.rebase, by simpa using q⟩, ?_⟩
  rintro i m σ' H' ⟨rfl, hi, A', σ3', R', q'⟩
  have vis : Same (hid (c.S G A) H1) (hid (c.S G A') H') := Same.trans rebase_vis R'.base
  by_cases hl : i = ds.length
  · subst hl
    left
    refine ⟨w.stop _ _ vis, Z.nx _ _ _ _ (R1.debase R') ?_⟩
    have e : ds.drop ds.length = [] := List.drop_length
    rw [e] at q'
    exact q'
  · right
    have hlt : i < ds.length := Nat.lt_of_le_of_ne hi hl
    have hd : ds[i]? = some ds[i] := List.getElem?_eq_getElem hlt
    rw [List.drop_eq_getElem_cons hlt] at q'
    refine ⟨w.go i _ _ _ hd vis, fun σ2 H2 => ∃ A2 σ32, R3 K c (out (addrs A) H1) G A2 σ32 σ2 H2 ∧ loop3 g3 b N (ds.drop (i + 1)) σ32, ?_, ?_⟩
    · rintro σ2 H2 ⟨A2, σ32, R2, q2⟩
      exact ⟨ds.length - (i + 1), by omega, rfl, hlt, A2, σ32, R2, q2⟩
    · intro x H2 y
      obtain ⟨hn, rx⟩ := w.yld i _ _ _ x H2 hd vis (fun a h => R'.there h) y
      have R2 : R3 K c (out (addrs A) H1) G A' σ3' σ' H2 := by
        rcases hn with rfl | ⟨p, o, hp, rfl⟩
        · exact R'
        · exact R'.le (R'.new hp)
      refine hg _ _ _ q' _ G A' σ' H2 x _ R2 rx (fun A4 σ4 σ4' H4 R4 _ _ q4 => ?_)
      refine hb _ _ q4 _ G A4 σ4' H4 _ R4 ⟨?_, ?_, ?_, ?_, ?_⟩
      · exact fun A5 σ5 σ5' H5 R5 q5 => ⟨A5, σ5, R5, q5⟩
      · exact fun v d H5 F rv q5 => Z.rt v d H5 (Fin3.debase R1 F) rv q5
      · exact fun A5 σ5 σ5' H5 R5 q5 => Z.nx _ _ _ _ (R1.debase R5) q5
      · exact fun A5 σ5 σ5' H5 R5 q5 => ⟨A5, σ5, R5, q5⟩
      · exact fun A5 σ5 σ5' H5 cls dd xn R5 rx q5 => Z.xn _ _ _ _ _ _ _ (R1.debase R5) rx q5
/-- a loop by its word: P holds between two turns -/
theorem loop3_inv {g : TG3} {tb : S3} {N : N3} (P : List T → List Sl → Prop) : ∀ (ds : List T) (σ : List Sl), P ds σ → (∀ σ, P [] σ → N.nx σ) →
    (∀ x r σ, P (x :: r) σ → g x σ fun σ' => ∀ nx : List Sl → Prop, (∀ σ2, P r σ2 → nx σ2) → tb { nx := nx, ct := nx, bk := N.nx, rt := N.rt, xn := N.xn } σ') →
    (∀ d σ (Q Q' : List Sl → Prop), (∀ σ, Q σ → Q' σ) → g d σ Q → g d σ Q') → loop3 g tb N ds σ
  | [], σ, h, h0, hs, hm => h0 σ h
  | x :: r, σ, h, h0, hs, hm => hm _ _ _ _ (fun σ' q => q (loop3 g tb N r) fun σ2 h2 => loop3_inv P r σ2 h2 h0 hs hm) (hs x r σ h)
end
/-! ### comprehensions -/
def wipe3 (σ : List Sl) : List Nat → List Sl
  | [] => σ
  | v :: vs => (wipe3 σ vs).set v .no
def comp3 (g : TG3) (tt : B3) (te : E3) (σ : List Sl) (X : X3) (Q : List T → Prop) : List T → List T → Prop
  | [], acc => Q acc
  | x :: r, acc => g x σ fun σ' => tt σ' (fun b => if b = true then te σ' (fun y => acc.length < sizeLine ∧ comp3 g tt te σ X Q r (acc ++ [y])) X else comp3 g tt te σ X Q r acc) X
def noOwn (σ : List Sl) (vs : List Nat) : Prop := ∀ i ∈ vs, ∀ t, σ[i]? ≠ some (.own t)
def lc3 (s : A3) (g : TG3) (tt : B3) (te : E3) (vs : List Nat) : E3 := fun σ Q X => noOwn σ vs ∧ s σ (fun ds => comp3 g tt te (wipe3 σ vs) X (fun ys => Q (.lst ys)) ds []) X
def yes3 : B3 := fun _ Q _ => Q true
section
variable {K : PySem.W.Frag} {c : Cf} {W : WX} {Hb H H1 H' : Hp} {G : List Addr} {A A' : List (Option Addr)} {σ3 σ3' : List Sl} {σ σ' : St}
theorem lift_yes : LiftT K c W tYes yes3 := by
  intro σ3 Q3 X h Hb G A σ H Q R k e
  exact k true true H (Le.refl R.inv) rfl h
theorem wipe3_own : ∀ {vs : List Nat} {σ : List Sl} {i : Nat} {t : T}, (wipe3 σ vs)[i]? = some (.own t) → σ[i]? = some (.own t)
  | [], _, _, _, h => h
  | v :: vs, σ, i, t, h => by
    rcases getElem?_set_cases (show ((wipe3 σ vs).set v .no)[i]? = some (.own t) from h) with ⟨_, e, _⟩ | ⟨_, e⟩
    · cases e
    · exact wipe3_own e
theorem set_eq_self {α : Type} {l : List α} {i : Nat} {x : α} (h : l[i]? = some x ∨ l.length ≤ i) : l.set i x = l := by
  apply List.ext_getElem?
  intro j
  by_cases e : i = j
  · subst e
    rcases h with h | h
    · rw [List.getElem?_set_self (List.getElem?_eq_some_iff.mp h).1, h]
    · rw [List.getElem?_eq_none (by simpa using h), List.getElem?_eq_none h]
  · rw [List.getElem?_set_ne e]
theorem R3.wiped (r : R3 K c Hb G A σ3 σ H) : ∀ {vs : List Nat}, noOwn σ3 vs → R3 K c Hb G A (wipe3 σ3 vs) (wipe σ vs) H
  | [], _ => r
  | v :: vs, h => by
    have ih := R3.wiped r (vs := vs) fun i hi => h i (List.mem_cons_of_mem _ hi)
    have z := ih.wipe1 v none
    have e : A.set v none = A := by
      apply set_eq_self
      by_cases hv : v < A.length
      · left
        have h1 : v < (wipe3 σ3 vs).length := by rw [← ih.l1]; exact hv
        have h2 : v < (wipe σ vs).length := by rw [ih.l2]; exact h1
        have q := ih.at_ v _ _ _ (List.getElem?_eq_getElem h1) (List.getElem?_eq_getElem hv) (List.getElem?_eq_getElem h2)
        rw [List.getElem?_eq_getElem hv]
        cases e : (wipe3 σ3 vs)[v] with
        | no => rw [e] at q; rw [q]
        | val t => rw [e] at q; rw [q.1]
        | own t =>
          have w1 : (wipe3 σ3 vs)[v]? = some (.own t) := by rw [List.getElem?_eq_getElem h1, e]
          exact absurd (wipe3_own w1) (h v (List.mem_cons_self ..) t)
      · exact .inr (Nat.le_of_not_lt hv)
    rw [e] at z
    exact z
theorem wipe_eq : ∀ {vs : List Nat} {σ σ' : St}, σ'.length = σ.length → (∀ j : Nat, j ∉ vs → σ'[j]? = σ[j]?) → wipe σ' vs = wipe σ vs := by
  intro vs σ σ' hl h
  apply List.ext_getElem?
  intro j
  by_cases hj : j ∈ vs
  · have z : ∀ {vs : List Nat} (σ : St), j ∈ vs → (wipe σ vs)[j]? = if j < σ.length then some none else none := by
      intro vs
      induction vs with
      | nil => intro σ h; cases h
      | cons v vs ih =>
        intro σ hm
        show ((wipe σ vs).set v none)[j]? = _
        by_cases e : v = j
        · subst e
          by_cases hv : v < σ.length
          · rw [List.getElem?_set_self (by rw [wipe_length]; exact hv), if_pos hv]
          · rw [List.getElem?_eq_none (by simp [wipe_length]; omega), if_neg hv]
        · rw [List.getElem?_set_ne e]
          rcases List.mem_cons.mp hm with q | q
          · exact absurd q.symm e
          · exact ih σ q
    rw [z σ' hj, z σ hj, hl]
  · rw [wipe_out hj, wipe_out hj, h j hj]
theorem wipe_wipe {vs : List Nat} {σ : St} : wipe (wipe σ vs) vs = wipe σ vs := wipe_eq (wipe_length _ _) fun j hj => wipe_out hj
/-- a list of our own at D is hidden too -/
theorem R3.under (r : R3 K c Hb G A σ3 σ H1) {D : Addr} {o : HO} (hD : H1 D = none) (hd : H D = some o) (vis : Same (hid (c.S G A) H1) (hid (D :: c.S G A) H)) (own : ∀ a ∈ G ++ addrs A, H a = H1 a) (inv : c.I H) (ho : c.gOk o) :
    R3 K c (out (addrs A) H) (D :: G) A σ3 σ H := by
  have nD : D ∉ c.S G A := r.free hD
  have sub : ∀ a, a ∈ c.S (D :: G) A ↔ a ∈ D :: c.S G A := fun a => by
    rw [mem_S, List.mem_cons, List.mem_cons, mem_S]
    exact ⟨fun h => by rcases h with h | (h | h) | h <;> simp [h], fun h => by rcases h with h | h | h | h <;> simp [h]⟩
  have vis2 : Same (hid (c.S G A) H1) (hid (c.S (D :: G) A) H) := Same.trans vis (hid_mono fun a h => (sub a).mp h)
  refine ⟨inv, ?_, ?_, ?_, r.nd, ?_, r.l1, r.l2, ?_⟩
  · intro a o e
    obtain ⟨e1, e2⟩ := hid_some e
    obtain ⟨e3, e4⟩ := out_some e1
    exact hid_mk e3 fun z => by
      rcases mem_S.mp z with z | z | z
      · exact e2 (List.mem_append.mpr (.inl z))
      · exact e2 (List.mem_append.mpr (.inr z))
      · exact e4 z
  · intro a h
    rcases List.mem_cons.mp h with rfl | h
    · exact ⟨by rw [out_out (fun z => nD (mem_S.mpr (.inr (.inr z))))], (by rw [hd]; intro z; cases z), fun z => nD (mem_S.mpr (.inl z))⟩
    · have e := own a (List.mem_append.mpr (.inl h))
      exact ⟨by rw [out_out (fun z => r.ns a z (List.mem_append.mpr (.inr h)))], by rw [e]; exact (r.gk a h).2.1, (r.gk a h).2.2⟩
  · intro a h u e
    rcases List.mem_cons.mp h with rfl | h
    · rw [hd] at e; cases e; exact ho
    · exact r.gv a h u (by rw [← own a (List.mem_append.mpr (.inl h))]; exact e)
  · intro a h z
    rcases List.mem_append.mp z with z | z
    · exact r.ns a h (List.mem_append.mpr (.inl z))
    · rcases List.mem_cons.mp z with rfl | z
      · exact nD (mem_S.mpr (.inr (.inr h)))
      · exact r.ns a h (List.mem_append.mpr (.inr z))
  · intro i s o x h1 h2 h3
    have z := r.at_ i s o x h1 h2 h3
    cases s with
    | no => exact z
    | val t => obtain ⟨e, v, e2, q⟩ := z; exact ⟨e, v, e2, q.mono vis2⟩
    | own t =>
      obtain ⟨a, e, e2, q⟩ := z
      refine ⟨a, e, e2, q.mono vis2 (own a (List.mem_append.mpr (.inr (mem_addrs.mpr ?_))))⟩
      subst e
      exact List.mem_of_getElem? h2
theorem hid_upd_in {S : List Addr} {H : Hp} {D : Addr} {o : HO} (h : D ∈ S) : hid S (upd H D o) = hid S H := by
  funext a
  by_cases e : a ∈ S
  · rw [hid_in e, hid_in e]
  · unfold hid
    rw [out_out e, out_out e, upd_ne (fun z => e (by rw [z]; exact h))]
theorem lift_lc {wk : Bool} {vs : List Nat} {wi : TI} {s : A3} {g : TG} {g3 : TG3} {tt : TT} {b : B3} {te : TE} {e3 : E3} (hi : LiftIB K c wk W wi s) (hg : LiftTgB K c wk vs g g3) (ht : LiftT K c W tt b) (he : Lift K c W te e3)
    (hW : ∀ cls dd σ σ' H, W cls dd σ H → W cls dd σ' H) : Lift K c W (tLc wi g tt te vs) (lc3 s g3 b e3 vs) := by
  intro σ3 Q3 X h Hb G A σ H Q R k e
  obtain ⟨no, h⟩ := h
  refine hi _ _ _ h Hb G A σ H _ R (fun J ds H1 L1 w q => ?_) e
  have R1 := R.le L1
  intro D hD
  have nD : D ∉ c.S G A := R1.free hD
  have RW := R1.wiped (vs := vs) no
  refine ⟨fun i m H' => m = ds.length - i ∧ i ≤ ds.length ∧ ∃ accV acc, H' D = some (.lst accV) ∧ RepL K (hid (D :: c.S G A) H') accV acc ∧ comp3 g3 b e3 (wipe3 σ3 vs) X (fun ys => Q3 (.lst ys)) (ds.drop i) acc ∧
    Same (hid (c.S G A) H1) (hid (D :: c.S G A) H') ∧ (∀ a ∈ G ++ addrs A, H' a = H1 a) ∧ c.I H', ⟨ds.length, rfl, Nat.zero_le _, [], [], upd_same, .nil, by simpa using q, ?_, ?_, ?_⟩, ?_⟩
  · rw [hid_upd_in (List.mem_cons_self ..)]
    intro a o z
    obtain ⟨z1, z2⟩ := hid_some z
    exact hid_mk z1 fun y => by
      rcases List.mem_cons.mp y with y | y
      · subst y; rw [hD] at z1; cases z1
      · exact z2 y
  · exact (R1.new (o := .lst []) hD).own
  · exact (R1.new (o := .lst []) hD).inv
  rintro i m H2 ⟨rfl, hi, accV, acc, hd2, racc, q2, vis, own, inv⟩
  have vis' : Same (hid (c.S G A) H1) (hid (c.S G A) H2) := Same.trans vis (hid_mono fun a h => List.mem_cons_of_mem _ h)
  by_cases hl : i = ds.length
  · subst hl
    left
    refine ⟨w.stop _ _ vis', ?_⟩
    have e' : ds.drop ds.length = [] := List.drop_length
    rw [e'] at q2
    exact k _ _ H2 (L1.trans ⟨vis', own, inv⟩) (.mkL (hid_mk hd2 nD) (racc.mono (hid_mono fun a h => List.mem_cons_of_mem _ h))) q2
  · right
    have hlt : i < ds.length := Nat.lt_of_le_of_ne hi hl
    have hdd : ds[i]? = some ds[i] := List.getElem?_eq_getElem hlt
    rw [List.drop_eq_getElem_cons hlt] at q2
    refine ⟨w.go i _ _ _ hdd vis', fun H3 => ∃ accV acc, H3 D = some (.lst accV) ∧ RepL K (hid (D :: c.S G A) H3) accV acc ∧ comp3 g3 b e3 (wipe3 σ3 vs) X (fun ys => Q3 (.lst ys)) (ds.drop (i + 1)) acc ∧
      Same (hid (c.S G A) H1) (hid (D :: c.S G A) H3) ∧ (∀ a ∈ G ++ addrs A, H3 a = H1 a) ∧ c.I H3, ?_, ?_⟩
    · rintro H3 ⟨accV, acc, z⟩
      exact ⟨ds.length - (i + 1), by omega, rfl, hlt, accV, acc, z⟩
    · intro x H3 y
      have RU := RW.under hD hd2 vis own inv (c.gL _)
      have sD : ∀ a, a ∈ c.S (D :: G) A ↔ a ∈ D :: c.S G A := fun a => by
        rw [mem_S, List.mem_cons, List.mem_cons, mem_S]
        exact ⟨fun h => by rcases h with h | (h | h) | h <;> simp [h], fun h => by rcases h with h | h | h | h <;> simp [h]⟩
      have sm1 : ∀ H, Same (hid (c.S (D :: G) A) H) (hid (D :: c.S G A) H) := fun H => hid_mono fun a h => (sD a).mpr h
      have sm2 : ∀ H, Same (hid (D :: c.S G A) H) (hid (c.S (D :: G) A) H) := fun H => hid_mono fun a h => (sD a).mp h
      obtain ⟨hn, rx⟩ := w.yld i _ (c.S (D :: G) A) _ x H3 hdd (Same.trans vis (sm2 _)) (fun a h => RU.there h) y
      have L3 : Le c (D :: G) A H2 H3 := by
        rcases hn with rfl | ⟨p, o, hp, rfl⟩
        · exact Le.refl inv
        · exact RU.new hp
      have R3' := RU.le L3
      have back : ∀ H', Le c (D :: G) A H2 H' → Same (hid (c.S G A) H1) (hid (D :: c.S G A) H') ∧ (∀ a ∈ G ++ addrs A, H' a = H1 a) ∧ c.I H' ∧ H' D = some (.lst accV) := fun H' L => by
        refine ⟨Same.trans vis (Same.trans (sm2 _) (Same.trans L.vis (sm1 _))), fun a h => ?_, L.inv, ?_⟩
        · rw [L.own a (by rcases List.mem_append.mp h with h | h <;> simp [h]), own a h]
        · rw [L.own D (by simp), hd2]
      have exn : ∀ (σ' : St) cls dd x H', Le c (D :: G) A H2 H' → XRep K (hid (c.S (D :: G) A) H') cls dd x → X x → W cls dd σ' H' := fun σ' cls dd x H' L r hx => by
        obtain ⟨b1, b2, b3, b4⟩ := back H' L
        refine hW cls dd σ σ' H' (e cls dd x H' (L1.trans ⟨Same.trans b1 (hid_mono fun a h => List.mem_cons_of_mem _ h), b2, b3⟩) ?_ hx)
        have sm : Same (hid (c.S (D :: G) A) H') (hid (c.S G A) H') := Same.trans (sm1 _) (hid_mono fun a h => List.mem_cons_of_mem _ h)
        obtain ⟨r1, r2⟩ := r
        refine ⟨r1, ?_⟩
        cases dd with
        | none => exact r2
        | some d =>
          obtain ⟨fs, f1, f2, f3⟩ := r2
          exact ⟨fs, sm _ _ f1, f2, f3.mono sm⟩
      refine hg _ _ _ q2 _ (D :: G) A _ H3 x _ R3' rx (fun A4 σ4 σ4' H4 R4 e4 st q4 => ?_)
      subst e4
      refine ⟨?_, ?_⟩
      · rw [wipe_eq st.1 (fun j hj => (st.2.1 j hj).1), wipe_wipe]
      have hA4 : A4 = A := by
        apply List.ext_getElem?
        intro j
        by_cases hj : j ∈ vs
        · have l4 : A4.length = A.length := by rw [R4.l1, RW.l1, ← RW.l2, ← R4.l2, st.1]
          by_cases hjl : j < A.length
          · have g4 : j < A4.length := by rw [l4]; exact hjl
            have hno : A[j]? = some none := by
              have h1 : j < (wipe3 σ3 vs).length := by rw [← RW.l1]; exact hjl
              have h2 : j < (wipe σ vs).length := by rw [RW.l2]; exact h1
              have z := RW.at_ j _ _ _ (List.getElem?_eq_getElem h1) (List.getElem?_eq_getElem hjl) (List.getElem?_eq_getElem h2)
              rw [List.getElem?_eq_getElem hjl]
              cases ee : (wipe3 σ3 vs)[j] with
              | no => rw [ee] at z; rw [z]
              | val t => rw [ee] at z; rw [z.1]
              | own t =>
                have w1 : (wipe3 σ3 vs)[j]? = some (.own t) := by rw [List.getElem?_eq_getElem h1, ee]
                exact absurd (wipe3_own w1) (no j hj t)
            rw [hno]
            cases ea : A4[j] with
            | none => rw [List.getElem?_eq_getElem g4, ea]
            | some p =>
              have m4 : p ∈ addrs A4 := mem_addrs.mpr (by rw [← ea]; exact List.getElem_mem g4)
              have m : p ∈ addrs A := st.2.2 p m4
              obtain ⟨i', hi'⟩ := List.getElem?_of_mem (mem_addrs.mp m)
              have hij : i' ≠ j := fun z => by subst z; rw [hno] at hi'; cases hi'
              by_cases hv : i' ∈ vs
              · have hjl' := (List.getElem?_eq_some_iff.mp hi').1
                have h1 : i' < (wipe3 σ3 vs).length := by rw [← RW.l1]; exact hjl'
                have h2 : i' < (wipe σ vs).length := by rw [RW.l2]; exact h1
                have z := RW.at_ i' _ _ _ (List.getElem?_eq_getElem h1) hi' (List.getElem?_eq_getElem h2)
                cases ee : (wipe3 σ3 vs)[i'] with
                | no => rw [ee] at z; cases z
                | val t => rw [ee] at z; cases z.1
                | own t =>
                  have w1 : (wipe3 σ3 vs)[i']? = some (.own t) := by rw [List.getElem?_eq_getElem h1, ee]
                  exact absurd (wipe3_own w1) (no i' hv t)
              · have : A4[i']? = some (some p) := by rw [(st.2.1 i' hv).2]; exact hi'
                have two : ∀ {B : List (Option Addr)} {i j : Nat}, (addrs B).Nodup → B[i]? = some (some p) → B[j]? = some (some p) → i = j := by
                  intro B
                  induction B with
                  | nil => intro i j _ h; simp at h
                  | cons b B ih =>
                    intro i j hN h1 h2
                    cases i with
                    | zero =>
                      cases j with
                      | zero => rfl
                      | succ j =>
                        simp at h1 h2
                        subst h1
                        exact absurd (mem_addrs.mpr (List.mem_of_getElem? h2)) (List.nodup_cons.mp (show (p :: addrs B).Nodup from hN)).1
                    | succ i =>
                      cases j with
                      | zero =>
                        simp at h1 h2
                        subst h2
                        exact absurd (mem_addrs.mpr (List.mem_of_getElem? h1)) (List.nodup_cons.mp (show (p :: addrs B).Nodup from hN)).1
                      | succ j =>
                        simp at h1 h2
                        have hN' : (addrs B).Nodup := by
                          cases b with
                          | none => exact hN
                          | some q => exact (List.nodup_cons.mp (show (q :: addrs B).Nodup from hN)).2
                        rw [ih hN' h1 h2]
                exact absurd (two R4.nd this (by rw [List.getElem?_eq_getElem g4, ea])) hij
          · rw [List.getElem?_eq_none (by omega), List.getElem?_eq_none (by omega)]
        · exact (st.2.1 j hj).2
      subst hA4
      refine ht _ _ _ q4 _ (D :: G) A4 σ4' H4 _ R4 (fun bv bb H5 L5 rb q5 => ?_) (fun cls dd x H' L => exn _ cls dd x H' (L3.trans L))
      subst rb
      cases bv with
      | false =>
        refine iteF ?_
        obtain ⟨b1, b2, b3, b4⟩ := back H5 (L3.trans L5)
        exact ⟨accV, acc, b4, racc.mono (Same.trans (sm2 _) (Same.trans (L3.trans L5).vis (sm1 _))), by simpa using q5, b1, b2, b3⟩
      | true =>
        refine iteT ?_
        refine he _ _ _ (show e3 σ4 _ X by simpa using q5) _ (D :: G) A4 σ4' H5 _ (R4.le L5) (fun y d H6 L6 ry q6 => ?_) (fun cls dd x H' L => exn _ cls dd x H' ((L3.trans L5).trans L))
        obtain ⟨b1, b2, b3, b4⟩ := back H6 ((L3.trans L5).trans L6)
        have racc6 := racc.mono (Same.trans (sm2 _) (Same.trans ((L3.trans L5).trans L6).vis (sm1 _)))
        refine ⟨accV, b4, by rw [racc.length]; exact q6.1, accV ++ [y], acc ++ [d], upd_same, ?_, q6.2, ?_, ?_, ?_⟩
        · rw [hid_upd_in (List.mem_cons_self ..)]
          exact racc6.append (.cons (ry.mono (sm1 _)) .nil)
        · rw [hid_upd_in (List.mem_cons_self ..)]
          exact b1
        · intro a ha
          have : a ≠ D := fun z => by
            subst z
            exact nD (mem_S.mpr (by rcases List.mem_append.mp ha with z | z; exact .inr (.inl z); exact .inr (.inr z)))
          rw [upd_ne this]
          exact b2 a ha
        · exact c.st H6 _ (fun a ha => by rw [upd_ne (fun z => nD (by rw [← z]; exact mem_S.mpr (.inl ha)))]) (fun a φ e => by rw [upd_ne (ne_of e b4 (by intro z; cases z))]; exact e) b3
end
end M3

/-! L3E: calls of defs by their promises, keywords, slices, further operations. -/
namespace M3
open PySem L2
/-! ### a def that may be called with positional arguments, the defaults dvs behind them -/
structure Cl (P : Program) (w : World) (K : PySem.W.Frag) (mg : Str → Option Value) (base : Heap) (CX : CXT) (x : Str) (k : Nat) (dvs : List V) (sp : Sp) : Prop where
  ex : ∃ (f : Addr) (fd : FuncData) (ps : List Str) (ds : List Value), FnOk P w K mg base CX k f fd ps sp ∧ mg x = some (.ref f) ∧ PySem.W.keepIn K (.ref f) = true ∧ Binds K fd ps ds ∧ Vals dvs ds
/-- .. with n positional arguments and the keywords ks -/
structure ClN (P : Program) (w : World) (K : PySem.W.Frag) (mg : Str → Option Value) (base : Heap) (CX : CXT) (x : Str) (k n : Nat) (ks : List Str) (gV : List V → List V → List V) (sp : Sp) : Prop where
  ex : ∃ (f : Addr) (fd : FuncData) (ps : List Str) (g : List Value → List Value → List Value), FnOk P w K mg base CX k f fd ps sp ∧ mg x = some (.ref f) ∧ PySem.W.keepIn K (.ref f) = true ∧ KBn K fd ps n ks g gV
section
variable {X : Cx} {CX : CXT} {k n : Nat} {sp : Sp} {dvs : List V} {E : XK} {x : Str} {p pos : Pos} {e : Expr} {es : List Expr} {kws : List Keyword} {ks : List Str} {t tk : TA} {gV : List V → List V → List V}
theorem pe_cl (C : Cl X.prog X.w X.K X.mg X.base CX x k dvs sp) (hr : Room k X.A) (hg : Gl X x) (hx : Passes CX X E)
    (ha : PA X (e :: es) t) (hdb : (x == ("__debug__" : Str)) = false := by decide) (he : starEach (e :: es) X.env = (false, eval e X.env) :: starEach es X.env := by rfl) (hpl : (backTo pos (starEach es X.env)).any (·.1) = false := by rfl) :
    PE X (.Call (.Name x p) (e :: es) [] pos) (tCall sp dvs E t) := by
  obtain ⟨f, fd, ps, ds, F, hm, hk, hb, hd⟩ := C.ex
  exact pe_call F hr hg hm hk hb hd hx ha hdb he hpl
theorem pe_cl0 (C : Cl X.prog X.w X.K X.mg X.base CX x k dvs sp) (hr : Room k X.A) (hg : Gl X x) (hx : Passes CX X E)
    (hdb : (x == ("__debug__" : Str)) = false := by decide) : PE X (.Call (.Name x p) [] [] pos) (tCall sp dvs E tNil) := by
  obtain ⟨f, fd, ps, ds, F, hm, hk, hb, hd⟩ := C.ex
  exact pe_call0 F hr hg hm hk hb hd hx hdb
theorem pe_clN (C : ClN X.prog X.w X.K X.mg X.base CX x k n ks gV sp) (hr : Room k X.A) (hg : Gl X x) (hx : Passes CX X E)
    (ha : PA X (e :: es) t) (hkw : PK X kws tk) (hall : (backToKw pos (keywordEach kws X.env)).all (·.1.isSome) = true := by rfl) (hks : (backToKw pos (keywordEach kws X.env)).filterMap (·.1) = ks := by rfl)
    (hdb : (x == ("__debug__" : Str)) = false := by decide) (he : starEach (e :: es) X.env = (false, eval e X.env) :: starEach es X.env := by rfl)
    (hpl : ((backTo pos (starEach (e :: es) X.env)).any (·.1) || (backToKw pos (keywordEach kws X.env)).any (·.1.isNone)) = false := by rfl) :
    PE X (.Call (.Name x p) (e :: es) kws pos) (tCallN n ks.length sp gV E t tk) := by
  obtain ⟨f, fd, ps, g, F, hm, hk, hb⟩ := C.ex
  exact pe_callN F hr hg hm hk hb hx ha hkw hall hks hdb he hpl
theorem pe_clN0 (C : ClN X.prog X.w X.K X.mg X.base CX x k 0 ks gV sp) (hr : Room k X.A) (hg : Gl X x) (hx : Passes CX X E)
    (hkw : PK X kws tk) (hall : (backToKw pos (keywordEach kws X.env)).all (·.1.isSome) = true := by rfl) (hks : (backToKw pos (keywordEach kws X.env)).filterMap (·.1) = ks := by rfl)
    (hdb : (x == ("__debug__" : Str)) = false := by decide)
    (hpl : ((backTo pos (starEach [] X.env)).any (·.1) || (backToKw pos (keywordEach kws X.env)).any (·.1.isNone)) = false := by rfl) :
    PE X (.Call (.Name x p) [] kws pos) (tCallN 0 ks.length sp gV E tNil tk) := by
  obtain ⟨f, fd, ps, g, F, hm, hk, hb⟩ := C.ex
  refine ⟨fun pins s σ H Q I h => ?_⟩
  refine wpAny_Call_Name_kw (ld_glob I hg hm ?_ hdb)
  refine PySem.W.callWith_KW0 (h₀ := X.base) I.ok.mod.kin hk hall ?_ hpl
  refine thn (hkw.run pos pins s σ H _ I h) fun ws s2 ⟨zs, H2, I2, rz, l1, l2, q2⟩ => ⟨I2.kIn, ?_⟩
  rw [hks]
  exact run_fnN (us := []) (vs := []) F hr hb hx I2 .nil rz rfl l2 q2
end
/-- f(e, .., k = v, ..) at trees -/
def fnN30 (n : Nat) (f : F3) (g : List T → List T → List T) (m j : Nat) (x y : A3) : E3 := fun σ Q X => x σ (fun ds => y σ (fun es => ds.length = m ∧ es.length = j ∧ (g ds es).length = n ∧ f (g ds es) Q (fun _ => False)) X) X
def fnN3 (n : Nat) (f : F3) (g : List T → List T → List T) (m j : Nat) (x y : A3) : E3 := fun σ Q X => x σ (fun ds => y σ (fun es => ds.length = m ∧ es.length = j ∧ (g ds es).length = n ∧ f (g ds es) Q X) X) X
section
variable {K : PySem.W.Frag} {c : Cf} {W : WX}
theorem lift_callN0 {n m j : Nat} {f : F3} {E : XK} {t tk : TA} {x y : A3} {gV : List V → List V → List V} {g : List T → List T → List T} (hg : ∀ H vs ds ws es, RepL K H vs ds → RepL K H ws es → ds.length = m → es.length = j → RepL K H (gV vs ws) (g ds es))
    (ha : LiftA K c W t x) (hb : LiftA K c W tk y) : Lift K c W (tCallN m j (sp3 K n f) gV E t tk) (fnN30 n f g m j x y) := by
  intro σ3 Q3 X h Hb G A σ H Q R k e
  refine ha _ _ _ h Hb G A σ H _ R (fun vs ds H1 L1 rx hx => ?_) e
  refine hb _ _ _ hx Hb G A σ H1 _ (R.le L1) (fun ws es H2 L2 ry hy => ?_) (fun cls dd x H' L => e cls dd x H' (L1.trans L))
  obtain ⟨h1, h2, h3, h4⟩ := hy
  refine ⟨by rw [rx.length]; exact h1, by rw [ry.length]; exact h2, ?_⟩
  exact sp3_call ((R.le L1).le L2) (hg _ _ _ _ _ (rx.mono L2.vis) ry h1 h2) h3 h4 (fun v d H' L r q => k v d H' ((L1.trans L2).trans L) r q) (fun cls dd x H' L r q => q.elim)
theorem lift_callN {n m j : Nat} {f : F3} {E : XK} {t tk : TA} {x y : A3} {gV : List V → List V → List V} {g : List T → List T → List T} (hE : ∀ cls dd σ H, W cls dd σ H → E cls dd H) (hg : ∀ H vs ds ws es, RepL K H vs ds → RepL K H ws es → ds.length = m → es.length = j → RepL K H (gV vs ws) (g ds es))
    (ha : LiftA K c W t x) (hb : LiftA K c W tk y) : Lift K c W (tCallN m j (sp3 K n f) gV E t tk) (fnN3 n f g m j x y) := by
  intro σ3 Q3 X h Hb G A σ H Q R k e
  refine ha _ _ _ h Hb G A σ H _ R (fun vs ds H1 L1 rx hx => ?_) e
  refine hb _ _ _ hx Hb G A σ H1 _ (R.le L1) (fun ws es H2 L2 ry hy => ?_) (fun cls dd x H' L => e cls dd x H' (L1.trans L))
  obtain ⟨h1, h2, h3, h4⟩ := hy
  refine ⟨by rw [rx.length]; exact h1, by rw [ry.length]; exact h2, ?_⟩
  exact sp3_call ((R.le L1).le L2) (hg _ _ _ _ _ (rx.mono L2.vis) ry h1 h2) h3 h4 (fun v d H' L r q => k v d H' ((L1.trans L2).trans L) r q) (fun cls dd x H' L r q => hE _ _ σ _ (e cls dd x H' ((L1.trans L2).trans L) r q))
/-! ### slices -/
theorem lift_po0 : LiftO K c W tNoPart (fun _ Q _ => Q none) := by
  intro σ3 Q3 X h Hb G A σ H Q R k e
  exact k none none H (Le.refl R.inv) rfl h
def part3 (a : E3) : G3 (Option Int) := fun σ Q X => a σ (fun x => ob (asI x) fun i => Q (some i)) X
theorem lift_po {ta : TE} {a : E3} (ha : Lift K c W ta a) : LiftO K c W (tPart ta) (part3 a) := by
  intro σ3 Q3 X h Hb G A σ H Q R k e
  refine ha _ _ _ h Hb G A σ H _ R (fun vx x H1 L1 rx hx => ?_) e
  obtain ⟨i, ei, q⟩ := ob_iff.mp hx
  cases asI_is ei
  exact ⟨i, rx.intI, k _ _ H1 L1 rfl q⟩
def cut {α : Type} (xs : List α) (lo hi : Option Int) : List α := (xs.drop (HT.sIx xs.length 0 lo)).take (HT.sIx xs.length xs.length hi - HT.sIx xs.length 0 lo)
theorem RepL.cut {H : Hp} {vs : List V} {ts : List T} (r : RepL K H vs ts) (lo hi : Option Int) : RepL K H (cutV vs lo hi) (M3.cut ts lo hi) := by
  unfold cutV M3.cut
  rw [r.length]
  exact (r.drop _).take _
def sl3 (q : T → Option Int → Option Int → (T → Prop) → Prop) (a : E3) (l h : G3 (Option Int)) : E3 := fun σ Q X => a σ (fun x => l σ (fun lo => h σ (fun hi => q x lo hi Q) X) X) X
def RLs (K : PySem.W.Frag) (r : V → Option Int → Option Int → Hp → VK → Prop) (q : T → Option Int → Option Int → (T → Prop) → Prop) : Prop :=
  ∀ (c : Cf) x lo hi Q3, q x lo hi Q3 → ∀ Hb G A σ3 σ H vx Q, R3 K c Hb G A σ3 σ H → Rep K (hid (c.S G A) H) vx x →
    (∀ v d H', Le c G A H H' → Rep K (hid (c.S G A) H') v d → Q3 d → Q v H') → r vx lo hi H Q
theorem lift_sl {r : V → Option Int → Option Int → Hp → VK → Prop} {q : T → Option Int → Option Int → (T → Prop) → Prop} {ta : TE} {a : E3} {tl th : TO} {l h : G3 (Option Int)} (hr : RLs K r q) (ha : Lift K c W ta a) (hl : LiftO K c W tl l) (hh : LiftO K c W th h) :
    Lift K c W (tSl r ta tl th) (sl3 q a l h) := by
  intro σ3 Q3 X hq Hb G A σ H Q R k e
  refine ha _ _ _ hq Hb G A σ H _ R (fun vx x H1 L1 rx hx => ?_) e
  refine hl _ _ _ hx Hb G A σ H1 _ (R.le L1) (fun lo lo' H2 L2 e2 hy => ?_) (fun cls dd x H' L => e cls dd x H' (L1.trans L))
  subst e2
  refine hh _ _ _ hy Hb G A σ H2 _ ((R.le L1).le L2) (fun hi hi' H3 L3 e3 hz => ?_) (fun cls dd x H' L => e cls dd x H' ((L1.trans L2).trans L))
  subst e3
  exact hr c _ _ _ _ hz Hb G A σ3 σ H3 vx Q (((R.le L1).le L2).le L3) (rx.mono (Same.trans L2.vis L3.vis)) (fun v d H' L => k v d H' (((L1.trans L2).trans L3).trans L))
def cutL3 : T → Option Int → Option Int → (T → Prop) → Prop := fun x lo hi Q => ob (asL x) fun xs => Q (.lst (cut xs lo hi))
def cutT3 : T → Option Int → Option Int → (T → Prop) → Prop := fun x lo hi Q => ob (asT x) fun xs => Q (.tup (cut xs lo hi))
def cutS3 : T → Option Int → Option Int → (T → Prop) → Prop := fun x lo hi Q => ob (asS x) fun z => z.length ≤ sizeLine ∧ Q (.str (cutS z lo hi))
theorem rl_slL : RLs K (rSlL K) cutL3 := by
  intro c x lo hi Q3 hh Hb G A σ3 σ H vx Q R rx k
  obtain ⟨xs, ex, q⟩ := ob_iff.mp hh
  cases asL_is ex
  obtain ⟨a, vs, rfl, ha, rl⟩ := rx.lstI
  refine ⟨a, vs, rfl, SqL.of (hid_same _ _ ha), fun p hp => ?_⟩
  have L := R.new (o := .lst (cutV vs lo hi)) hp
  exact k _ _ _ L (.mkL (R.newAt hp) ((rl.mono L.vis).cut lo hi)) q
theorem cut_whole {α : Type} {xs : List α} {lo hi : Option Int} (h : HT.sIx xs.length 0 lo = 0 ∧ HT.sIx xs.length xs.length hi = xs.length) : cut xs lo hi = xs := by
  unfold cut
  rw [h.1, h.2, List.drop_zero, Nat.sub_zero, List.take_length]
theorem rl_slT : RLs K (rSlF K) cutT3 := by
  intro c x lo hi Q3 hh Hb G A σ3 σ H vx Q R rx k
  obtain ⟨xs, ex, q⟩ := ob_iff.mp hh
  cases asT_is ex
  obtain ⟨a, vs, rfl, ha, rl⟩ := rx.tupI
  refine ⟨a, vs, rfl, Same.sqT hid_same ha, fun hw => ?_, fun _ p o hp hd => ?_⟩
  · rw [rl.length] at hw
    refine k _ _ _ (Le.refl R.inv) rx ?_
    rw [cut_whole hw] at q
    exact q
  · have L := R.new (o := .frz o (.tup (cutV vs lo hi))) hp
    exact k _ _ _ L (.mkT (FqT.of hd (R.newAt hp)) ((rl.mono L.vis).cut lo hi)) q
theorem rl_slS : RLs K rSlS cutS3 := by
  intro c x lo hi Q3 hh Hb G A σ3 σ H vx Q R rx k
  obtain ⟨z, ez, hz, q⟩ := ob_iff.mp hh
  cases asS_is ez
  exact ⟨z, rx.strI, hz, k _ _ H (Le.refl R.inv) (.str _) q⟩
/-! ### + of lists, tuples, texts; list * int -/
def catL3 : T → T → (T → Prop) → Prop := fun x y Q => ob (asL x) fun xs => ob (asL y) fun ys => xs.length + ys.length ≤ sizeLine ∧ Q (.lst (xs ++ ys))
def catT3 : T → T → (T → Prop) → Prop := fun x y Q => ob (asT x) fun xs => ob (asT y) fun ys => xs.length + ys.length ≤ sizeLine ∧ Q (.tup (xs ++ ys))
def catS3 : T → T → (T → Prop) → Prop := fun x y Q => ob (asS x) fun a => ob (asS y) fun b => a.length + b.length ≤ sizeLine ∧ Q (.str (a ++ b))
def repL3 : T → T → (T → Prop) → Prop := fun x y Q => ob (asL x) fun xs => ob (asI y) fun k => -(2 ^ 63) ≤ k ∧ k < 2 ^ 63 ∧ xs.length * k.toNat ≤ sizeLine ∧ Q (.lst (List.replicate k.toNat xs).flatten)
theorem rl_catL : RL2 K rCat catL3 := by
  intro c x y Q3 hh Hb G A σ3 σ H vx vy Q R rx ry k
  obtain ⟨xs, ex, hh1⟩ := ob_iff.mp hh
  obtain ⟨ys, ey, hl, q⟩ := ob_iff.mp hh1
  cases asL_is ex
  cases asL_is ey
  obtain ⟨a, vs, rfl, ha, rl⟩ := rx.lstI
  obtain ⟨b, ws, rfl, hb, rm⟩ := ry.lstI
  refine ⟨a, b, vs, ws, rfl, rfl, hid_same _ _ ha, hid_same _ _ hb, by rw [rl.length, rm.length]; exact hl, fun p hp => ?_⟩
  have L := R.new (o := .lst (vs ++ ws)) hp
  exact k _ _ _ L (.mkL (R.newAt hp) ((rl.mono L.vis).append (rm.mono L.vis))) q
theorem rl_catT : RL2 K (rCatF K) catT3 := by
  intro c x y Q3 hh Hb G A σ3 σ H vx vy Q R rx ry k
  obtain ⟨xs, ex, hh1⟩ := ob_iff.mp hh
  obtain ⟨ys, ey, hl, q⟩ := ob_iff.mp hh1
  cases asT_is ex
  cases asT_is ey
  obtain ⟨a, vs, rfl, ha, rl⟩ := rx.tupI
  obtain ⟨b, ws, rfl, hb, rm⟩ := ry.tupI
  refine ⟨a, b, vs, ws, rfl, rfl, Same.sqT hid_same ha, Same.sqT hid_same hb, by rw [rl.length, rm.length]; exact hl, fun h => ?_, fun _ h => ?_, fun _ _ p o hp hd => ?_⟩
  · subst h
    cases rl
    exact k _ _ _ (Le.refl R.inv) ry q
  · subst h
    cases rm
    rw [List.append_nil] at q
    exact k _ _ _ (Le.refl R.inv) rx q
  · have L := R.new (o := .frz o (.tup (vs ++ ws))) hp
    exact k _ _ _ L (.mkT (FqT.of hd (R.newAt hp)) ((rl.mono L.vis).append (rm.mono L.vis))) q
theorem rl_catS : RL2 K (fun x y H Q => ∃ i j, x = .str i ∧ y = .str j ∧ i.length + j.length ≤ sizeLine ∧ Q (.str (i ++ j)) H) catS3 := by
  intro c x y Q3 hh Hb G A σ3 σ H vx vy Q R rx ry k
  obtain ⟨a, ea, hh1⟩ := ob_iff.mp hh
  obtain ⟨b, eb, hl, q⟩ := ob_iff.mp hh1
  cases asS_is ea
  cases asS_is eb
  exact ⟨a, b, rx.strI, ry.strI, hl, k _ _ H (Le.refl R.inv) (.str _) q⟩
theorem RepL.times {H : Hp} {vs : List V} {ts : List T} (r : RepL K H vs ts) : ∀ n : Nat, RepL K H (List.replicate n vs).flatten (List.replicate n ts).flatten
  | 0 => .nil
  | n + 1 => by
    rw [List.replicate_succ, List.replicate_succ, List.flatten_cons, List.flatten_cons]
    exact r.append (RepL.times r n)
theorem rl_repL : RL2 K rRep repL3 := by
  intro c x y Q3 hh Hb G A σ3 σ H vx vy Q R rx ry k
  obtain ⟨xs, ex, hh1⟩ := ob_iff.mp hh
  obtain ⟨n, en, h1, h2, hl, q⟩ := ob_iff.mp hh1
  cases asL_is ex
  cases asI_is en
  obtain ⟨a, vs, rfl, ha, rl⟩ := rx.lstI
  refine ⟨a, n, vs, rfl, ry.intI, hid_same _ _ ha, h1, h2, by rw [rl.length]; exact hl, fun p hp => ?_⟩
  have L := R.new (o := .lst (List.replicate n.toNat vs).flatten) hp
  exact k _ _ _ L (.mkL (R.newAt hp) ((rl.mono L.vis).times _)) q
/-! ### tuple(..), list(..), int(..) -/
def tuple3 : List T → (T → Prop) → Prop := fun xs Q => ob (one xs) fun x => ob (items x) fun ys => Q (.tup ys)
def list3 : List T → (T → Prop) → Prop := fun xs Q => ob (one xs) fun x => ob (items x) fun ys => Q (.lst ys)
theorem items_cases {x : T} {ys : List T} (h : items x = some ys) : x = .lst ys ∨ x = .tup ys := by
  cases x <;> simp [items] at h <;> subst h <;> simp
theorem rl_tuple : RLn K (rTup K) tuple3 := by
  intro c xs Q3 hh Hb G A σ3 σ H vs Q R rx k
  obtain ⟨x, ex, hh1⟩ := ob_iff.mp hh
  obtain ⟨ys, hi, q⟩ := ob_iff.mp hh1
  cases one_is ex
  obtain ⟨v, rfl, r⟩ := repL_one rx
  rcases items_cases hi with rfl | rfl
  · obtain ⟨a, vs, rfl, ha, rl⟩ := r.lstI
    refine ⟨a, vs, rfl, .inl ⟨SqL.of (hid_same _ _ ha), fun p o hp hd => ?_⟩⟩
    have L := R.new (o := .frz o (.tup vs)) hp
    exact k _ _ _ L (.mkT (FqT.of hd (R.newAt hp)) (rl.mono L.vis)) q
  · obtain ⟨a, vs, rfl, ha, rl⟩ := r.tupI
    exact ⟨a, vs, rfl, .inr ⟨Same.sqT hid_same ha, k _ _ _ (Le.refl R.inv) r q⟩⟩
theorem rl_list : RLn K (fun xs H Q => ∃ p ys, xs = [.ref p] ∧ (SqL K H p ys ∨ SqT K H p ys) ∧ ∀ l, H l = none → Q (.ref l) (upd H l (.lst ys))) list3 := by
  intro c xs Q3 hh Hb G A σ3 σ H vs Q R rx k
  obtain ⟨x, ex, hh1⟩ := ob_iff.mp hh
  obtain ⟨ys, hi, q⟩ := ob_iff.mp hh1
  cases one_is ex
  obtain ⟨v, rfl, r⟩ := repL_one rx
  rcases items_cases hi with rfl | rfl
  · obtain ⟨a, vs, rfl, ha, rl⟩ := r.lstI
    refine ⟨a, vs, rfl, .inl (SqL.of (hid_same _ _ ha)), fun p hp => ?_⟩
    have L := R.new (o := .lst vs) hp
    exact k _ _ _ L (.mkL (R.newAt hp) (rl.mono L.vis)) q
  · obtain ⟨a, vs, rfl, ha, rl⟩ := r.tupI
    refine ⟨a, vs, rfl, .inr (Same.sqT hid_same ha), fun p hp => ?_⟩
    have L := R.new (o := .lst vs) hp
    exact k _ _ _ L (.mkL (R.newAt hp) (rl.mono L.vis)) q
end
end M3

/-! L3P: the law's pot: hidden for good; a draw is any number below its bound. -/
namespace M3
open PySem L2
/-- the pot at p, its cells at cc -/
def PotAt (p cc : Addr) (H : Hp) : Prop :=
  ∃ (cs : List Int) (i n s : Int), H p = some (.lst [.ref cc, .int i, .int n, .int s]) ∧ H cc = some (.lst (cs.map V.int)) ∧ 0 ≤ i ∧ i < cs.length ∧ cs.length ≤ 1000 ∧ (∀ z ∈ cs, 0 ≤ z) ∧ 0 ≤ s ∧ s < 2147483647
theorem PotAt.ne {p cc : Addr} {H : Hp} (h : PotAt p cc H) : p ≠ cc := by
  obtain ⟨cs, i, n, s, h1, h2, _⟩ := h
  refine ne_of h1 h2 fun z => ?_
  have z : [V.ref cc, V.int i, V.int n, V.int s] = cs.map V.int := HO.lst.inj z
  cases cs with
  | nil => cases z
  | cons a cs => rw [List.map_cons] at z; injection z with z _; cases z
theorem PotAt.stay {p cc : Addr} {H H' : Hp} (h : PotAt p cc H) (e1 : H' p = H p) (e2 : H' cc = H cc) : PotAt p cc H' := by
  obtain ⟨cs, i, n, s, h1, h2, r⟩ := h
  exact ⟨cs, i, n, s, by rw [e1]; exact h1, by rw [e2]; exact h2, r⟩
theorem tabs_stay {T : List (Addr × Str)} {H H' : Hp} (h : LamX.Tabs T H) (e : ∀ a ∈ T.map (·.1), H' a = H a) (x : SameX H H') : LamX.Tabs T H' := fun q hq => by
  obtain ⟨ps, h1, h2, h3⟩ := h q hq
  refine ⟨ps, by rw [e q.1 (List.mem_map.mpr ⟨q, hq, rfl⟩)]; exact h1, h2, fun pos cv z => ?_⟩
  obtain ⟨c, e1, e2⟩ := h3 pos cv z
  exact ⟨c, e1, x _ _ e2⟩
/-- the pot, and the tables of code objects T -/
def potT (p cc : Addr) (T : List (Addr × Str)) : Cf where
  S0 := p :: cc :: T.map (·.1)
  I := fun H => PotAt p cc H ∧ LamX.Tabs T H
  st := fun H H' e x h => ⟨h.1.stay (e p (by simp)) (e cc (by simp)), tabs_stay h.2 (fun a ha => e a (by simp at ha ⊢; exact .inr (.inr ha))) x⟩
  on := fun H h a ha => by
    obtain ⟨⟨cs, i, n, s, h1, h2, r⟩, ht⟩ := h
    rcases List.mem_cons.mp ha with rfl | ha
    · rw [h1]; intro z; cases z
    · rcases List.mem_cons.mp ha with rfl | ha
      · rw [h2]; intro z; cases z
      · obtain ⟨q, hq, rfl⟩ := List.mem_map.mp ha
        obtain ⟨ps, z, _⟩ := ht q hq
        rw [z]; intro y; cases y
  gOk := fun o => T = [] ∨ vis o = true
  gL := fun _ => .inr rfl
  gV := fun _ h => .inr h
abbrev potCf (p cc : Addr) : Cf := potT p cc []
theorem tabs_nil {H : Hp} : LamX.Tabs [] H := fun q hq => by cases hq
/-- a def that draws from the pot, its first argument -/
def spP (K : PySem.W.Frag) (n : Nat) (f : F3) : Sp := fun vs H Q E => ∃ p cc G ds, PotAt p cc H ∧ (∀ a ∈ G, H a ≠ none ∧ a ∉ (potCf p cc).S0) ∧ (T.ref p :: ds).length = n ∧ RepL K (hid ((potCf p cc).S0 ++ G) H) vs (T.ref p :: ds) ∧ ∃ Q3 X, f (T.ref p :: ds) Q3 X ∧
  (∀ v d H', PotAt p cc H' → Same (hid ((potCf p cc).S0 ++ G) H) (hid ((potCf p cc).S0 ++ G) H') → (∀ a ∈ G, H' a = H a) → Rep K (hid ((potCf p cc).S0 ++ G) H') v d → Q3 d → Q v H') ∧
  (∀ cls dd x H', PotAt p cc H' → Same (hid ((potCf p cc).S0 ++ G) H) (hid ((potCf p cc).S0 ++ G) H') → (∀ a ∈ G, H' a = H a) → XRep K (hid ((potCf p cc).S0 ++ G) H') cls dd x → X x → E cls dd H')
theorem spP_len {K : PySem.W.Frag} {n : Nat} {f : F3} {ps : List Str} (h : ps.length = n) : ∀ vs H Q E, spP K n f vs H Q E → vs.length = ps.length := by
  intro vs H Q E h'
  obtain ⟨p, cc, G, ds, _, _, hl, r, _⟩ := h'
  rw [r.length, hl, h]
theorem bodyP {K : PySem.W.Frag} {n : Nat} {f : F3} {N : List Str} {t : TS} {x : Addr → S3} {W : WX} {vs : List V} {H : Hp} {Q : VK} {E : XK} (h : spP K n f vs H Q E) (hW : ∀ cls dd σ H', E cls dd H' → W cls dd σ H')
    (lt : ∀ p cc, LiftS K (potCf p cc) W t (x p)) (hb : ∀ p ds Q3 X, (T.ref p :: ds).length = n → f (T.ref p :: ds) Q3 X → x p { nx := fun _ => Q3 .non, rt := Q3, xn := fun _ => X } (start3 N.length (T.ref p :: ds))) : t { nx := fun _ H' => Q .non H', rt := Q } (start N vs) H := by
  obtain ⟨p, cc, G, ds, hp, hG, hl, r, Q3, X, hf, hq, hx⟩ := h
  refine lt p cc _ _ (hb p ds Q3 X hl hf) H G _ _ H _ (r3_start (c := potCf p cc) (N := N) ⟨hp, tabs_nil⟩ hG (fun _ => .inl rfl) r) ⟨?_, ?_, fun _ _ _ _ _ z => z.elim, fun _ _ _ _ _ z => z.elim, ?_⟩
  · intro A σ3 σ H' R q
    exact hq _ _ _ R.inv.1 R.fin.base (fun a h => R.fin.gk a h) .non q
  · intro v d H' F rv q
    exact hq _ _ _ F.inv.1 F.base (fun a h => F.gk a h) rv q
  · intro A σ3 σ H' cls dd xn R rx q
    refine hW _ _ _ _ (hx cls dd xn H' R.inv.1 R.fin.base (fun a h => R.fin.gk a h) ?_ q)
    obtain ⟨e, rx⟩ := rx
    refine ⟨e, ?_⟩
    cases dd with
    | none => exact rx
    | some d =>
      obtain ⟨fs, h1, h2, h3⟩ := rx
      exact ⟨fs, hid_fin _ _ h1, h2, h3.mono hid_fin⟩
/-- f(pot, e, ..) -/
def fnP30 (p : Addr) (n : Nat) (f : F3) (x : A3) (dvs : List T) : E3 := fun σ Q X => x σ (fun ds => ds.head? = some (T.ref p) ∧ (ds ++ dvs).length = n ∧ f (ds ++ dvs) Q (fun _ => False)) X
def fnP3 (p : Addr) (n : Nat) (f : F3) (x : A3) (dvs : List T) : E3 := fun σ Q X => x σ (fun ds => ds.head? = some (T.ref p) ∧ (ds ++ dvs).length = n ∧ f (ds ++ dvs) Q X) X
theorem spP_call {K : PySem.W.Frag} {p cc : Addr} {Ts : List (Addr × Str)} {n : Nat} {f : F3} {Hb H1 : Hp} {G : List Addr} {A : List (Option Addr)} {σ3 : List Sl} {σ : St} {vs : List V} {ds : List T} {Q : VK} {E : XK} {Q3 : T → Prop} {X : X3} (R1 : R3 K (potT p cc Ts) Hb G A σ3 σ H1)
    (rx : RepL K (hid ((potT p cc Ts).S G A) H1) vs (T.ref p :: ds)) (hl : (T.ref p :: ds).length = n) (hf : f (T.ref p :: ds) Q3 X) (k : ∀ v d H', Le (potT p cc Ts) G A H1 H' → Rep K (hid ((potT p cc Ts).S G A) H') v d → Q3 d → Q v H')
    (e : ∀ cls dd x H', Le (potT p cc Ts) G A H1 H' → XRep K (hid ((potT p cc Ts).S G A) H') cls dd x → X x → E cls dd H') : spP K n f vs H1 Q E := by
  -- a table may stand at the pot's own place in the list of names: take it out
  have eS : ∀ a, a ∈ (potCf p cc).S0 ++ (((potT p cc Ts).S G A).filter fun a => decide (a ≠ p ∧ a ≠ cc)) ↔ a ∈ (potT p cc Ts).S G A := fun a => by
    have h0 : p ∈ (potT p cc Ts).S G A := mem_S.mpr (.inl (by simp [potT]))
    have h1 : cc ∈ (potT p cc Ts).S G A := mem_S.mpr (.inl (by simp [potT]))
    constructor
    · intro h
      rcases List.mem_append.mp h with h | h
      · simp [potCf, potT] at h
        rcases h with rfl | rfl
        · exact h0
        · exact h1
      · exact (List.mem_filter.mp h).1
    · intro h
      by_cases z : a ≠ p ∧ a ≠ cc
      · exact List.mem_append.mpr (.inr (List.mem_filter.mpr ⟨h, by simpa using z⟩))
      · refine List.mem_append.mpr (.inl ?_)
        simp only [potCf, potT, List.map_nil, List.mem_cons, List.not_mem_nil, or_false]
        by_cases q : a = p
        · exact .inl q
        · by_cases q' : a = cc
          · exact .inr q'
          · exact absurd ⟨q, q'⟩ z
  have eH : ∀ H, hid ((potCf p cc).S0 ++ (((potT p cc Ts).S G A).filter fun a => decide (a ≠ p ∧ a ≠ cc))) H = hid ((potT p cc Ts).S G A) H := fun H => by
    funext a
    by_cases h : a ∈ (potT p cc Ts).S G A
    · rw [hid_in h, hid_in ((eS a).mpr h)]
    · have h' := fun z => h ((eS a).mp z)
      unfold hid
      rw [out_out h, out_out h']
  have hG : ∀ a ∈ ((potT p cc Ts).S G A).filter (fun a => decide (a ≠ p ∧ a ≠ cc)), H1 a ≠ none ∧ a ∉ (potCf p cc).S0 := fun a ha => by
    obtain ⟨h1, h2⟩ := List.mem_filter.mp ha
    have h2 : a ≠ p ∧ a ≠ cc := by simpa using h2
    exact ⟨R1.there h1, by simp [potCf, potT, h2.1, h2.2]⟩
  have le : ∀ H', PotAt p cc H' → Same (hid ((potT p cc Ts).S G A) H1) (hid ((potT p cc Ts).S G A) H') → (∀ a ∈ ((potT p cc Ts).S G A).filter (fun a => decide (a ≠ p ∧ a ≠ cc)), H' a = H1 a) → Le (potT p cc Ts) G A H1 H' := fun H' hp s1 s2 => by
    have s3 : ∀ a ∈ (potT p cc Ts).S G A, a ≠ p → a ≠ cc → H' a = H1 a := fun a h1 h2 h3 => s2 a (List.mem_filter.mpr ⟨h1, by simp [h2, h3]⟩)
    obtain ⟨hp0, ht⟩ := R1.inv
    have npc : ∀ a o, H1 a = some o → (∀ vs, o ≠ .lst vs) → a ≠ p ∧ a ≠ cc := fun a o e hne => by
      obtain ⟨cs, i, n, s, h1, h2, _⟩ := hp0
      exact ⟨ne_of e h1 (hne _), ne_of e h2 (hne _)⟩
    refine ⟨s1, fun a ha => ?_, hp, ?_⟩
    · have hm : a ∈ (potT p cc Ts).S G A := mem_S.mpr (by rcases List.mem_append.mp ha with z | z; exact .inr (.inl z); exact .inr (.inr z))
      have hn : a ∉ (potT p cc Ts).S0 := by
        rcases List.mem_append.mp ha with z | z
        · exact (R1.gk a z).2.2
        · exact fun q => R1.ns a z (List.mem_append.mpr (.inl q))
      exact s3 a hm (fun z => hn (by simp [potT, z])) (fun z => hn (by simp [potT, z]))
    · refine tabs_stay ht (fun a ha => ?_) (fun a φ e => ?_)
      · obtain ⟨q, hq, rfl⟩ := List.mem_map.mp ha
        obtain ⟨ps, z, _⟩ := ht q hq
        have := npc _ _ z (fun vs y => by cases y)
        exact s3 _ (mem_S.mpr (.inl (by simp [potT]; exact .inr (.inr ⟨_, hq⟩)))) this.1 this.2
      · by_cases h : a ∈ (potT p cc Ts).S G A
        · have := npc _ _ e (fun vs y => by cases y)
          rw [s3 a h this.1 this.2]; exact e
        · exact (hid_some (s1 _ _ (hid_mk e h))).1
  refine ⟨p, cc, _, ds, R1.inv.1, hG, hl, by rw [eH]; exact rx, Q3, X, hf, ?_, ?_⟩
  · rw [eH]
    intro v d H' hp s1 s2 rv q
    rw [eH] at s1 rv
    exact k v d H' (le H' hp s1 s2) rv q
  · rw [eH]
    intro cls dd xn H' hp s1 s2 rv q
    rw [eH] at s1 rv
    exact e cls dd xn H' (le H' hp s1 s2) rv q
theorem lift_callP0 {K : PySem.W.Frag} {p cc : Addr} {Ts : List (Addr × Str)} {n : Nat} {f : F3} {W : WX} {E : XK} {t : TA} {x : A3} {dvs : List V} {dts : List T} (ha : LiftA K (potT p cc Ts) W t x) (hd : ∀ H, RepL K H dvs dts) :
    Lift K (potT p cc Ts) W (tCall (spP K n f) dvs E t) (fnP30 p n f x dts) := by
  intro σ3 Q3 X h Hb G A σ H Q R k e
  refine ha _ _ _ h Hb G A σ H _ R (fun vs ds H1 L1 rx hx => ?_) e
  obtain ⟨hd0, hl, hf⟩ := hx
  obtain ⟨r, rfl⟩ : ∃ r, ds = T.ref p :: r := by
    cases ds with
    | nil => cases hd0
    | cons a r => cases hd0; exact ⟨r, rfl⟩
  exact spP_call (R.le L1) (rx.append (hd _)) hl hf (fun v d H' L r q => k v d H' (L1.trans L) r q) (fun cls dd x H' L r q => q.elim)
theorem lift_callP {K : PySem.W.Frag} {p cc : Addr} {Ts : List (Addr × Str)} {n : Nat} {f : F3} {W : WX} {E : XK} {t : TA} {x : A3} {dvs : List V} {dts : List T} (hE : ∀ cls dd σ H, W cls dd σ H → E cls dd H) (ha : LiftA K (potT p cc Ts) W t x) (hd : ∀ H, RepL K H dvs dts) :
    Lift K (potT p cc Ts) W (tCall (spP K n f) dvs E t) (fnP3 p n f x dts) := by
  intro σ3 Q3 X h Hb G A σ H Q R k e
  refine ha _ _ _ h Hb G A σ H _ R (fun vs ds H1 L1 rx hx => ?_) e
  obtain ⟨hd0, hl, hf⟩ := hx
  obtain ⟨r, rfl⟩ : ∃ r, ds = T.ref p :: r := by
    cases ds with
    | nil => cases hd0
    | cons a r => cases hd0; exact ⟨r, rfl⟩
  exact spP_call (R.le L1) (rx.append (hd _)) hl hf (fun v d H' L r q => k v d H' (L1.trans L) r q) (fun cls dd x H' L r q => hE _ _ σ _ (e cls dd x H' (L1.trans L) r q))
/-- the draw -/
def take3 : F3 := fun ds Q _ => ob (two ds) fun p => ob (asI p.2) fun m => 0 < m ∧ m < 2 ^ 200 ∧ ∀ r, 0 ≤ r → r < m → Q (.int r)
/-- the draw, by values: nothing but the pot changes -/
def spTake : Sp := fun vs H Q _ => ∃ p cc m, vs = [.ref p, .int m] ∧ PotAt p cc H ∧ 0 < m ∧ m < 2 ^ 200 ∧ ∀ r H', 0 ≤ r → r < m → PotAt p cc H' → (∀ a, a ≠ p → a ≠ cc → H' a = H a) → Q (.int r) H'
theorem take_imp {K : PySem.W.Frag} : ∀ vs H Q E, spP K 2 take3 vs H Q E → spTake vs H Q E := by
  intro vs H Q E h
  obtain ⟨p, cc, G, ds, hp, hG, hl, r, Q3, X, hf, hq, hx⟩ := h
  obtain ⟨⟨p', m'⟩, e, hf⟩ := ob_iff.mp hf
  obtain ⟨m, em, h0, h1, hd⟩ := ob_iff.mp hf
  cases asI_is em
  have e := two_is e
  injection e with e1 e2
  subst e2
  obtain ⟨v, w, rfl, rv, rw'⟩ := repL_two r
  cases rv.refI
  cases rw'.intI
  refine ⟨p, cc, m, rfl, hp, h0, h1, fun r H' r0 r1 hp' he => ?_⟩
  have nin : ∀ a, a ∉ (potCf p cc).S0 → a ≠ p ∧ a ≠ cc := fun a ha => ⟨fun z => ha (by rw [z]; exact List.mem_cons_self ..), fun z => ha (by rw [z]; exact List.mem_cons_of_mem _ (List.mem_cons_self ..))⟩
  refine hq _ (.int r) H' hp' (fun a o e => ?_) (fun a ha => ?_) (.int r) (hd r r0 r1)
  · obtain ⟨e1, e2⟩ := hid_some e
    have ha := nin a fun z => e2 (List.mem_append.mpr (.inl z))
    exact hid_mk (by rw [he a ha.1 ha.2]; exact e1) e2
  · have := nin a (hG a ha).2
    exact he a this.1 this.2
/-! ### xs[i] op= e -/
theorem get_list {X : Cx} : PGet X (rIxL X.K) := by
  intro pins s σ H x y v u Q I rx ry h
  obtain ⟨p, xs, i, z, rfl, rfl, hq, he, q⟩ := h
  cases rx
  obtain ⟨t, rfl⟩ := ry
  obtain ⟨its, r, pl, hz⟩ := I.list hq
  obtain ⟨j, h1, h2, h3, h4, h5⟩ := atI_get he
  obtain ⟨w, ew, rw'⟩ := r.get h2
  have hl := r.length
  have hn := line63
  have fin : EP X pins σ Q w s := ⟨z, H, I, rw', q⟩
  by_cases h0 : 0 ≤ i
  · have hj : i.toNat = j := by
      rw [seqIndex_of h0 h5] at h1
      exact Option.some.inj h1
    exact wpAny_getItem_list pl.isList h0 (by omega) (by rw [hj]; simpa using ew) fin
  · have hj : (i + (its.toArray.size : Int)).toNat = j := by
      rw [seqIndex_neg (by omega) h4] at h1
      rw [List.size_toArray, ← hl]
      exact Option.some.inj h1
    exact wpAny_getItem_list_neg pl.isList (by omega) (by rw [List.size_toArray] <;> omega) (by omega) (by rw [hj]; simpa using ew) fin
/-! ### is True, is False -/
section
variable {K : PySem.W.Frag}
def isB3 : T → T → (T → Prop) → Prop := fun x y Q => ob (asB x) fun a => ob (asB y) fun b => Q (.bl (decide (a = b)))
theorem rl_isB : RL2 K rIsB isB3 := by
  intro c x y Q3 hh Hb G A σ3 σ H vx vy Q R rx ry k
  obtain ⟨a, ea, hh1⟩ := ob_iff.mp hh
  obtain ⟨b, eb, q⟩ := ob_iff.mp hh1
  cases asB_is ea
  cases asB_is eb
  exact ⟨a, b, rx.blI, ry.blI, k _ _ H (Le.refl R.inv) (.bl _) q⟩
def toI : T → Option Int
  | .int i => some i
  | .bl b => some (if b then 1 else 0)
  | _ => none
def int13 : List T → (T → Prop) → Prop := fun xs Q => ob (one xs) fun x => ob (toI x) fun i => Q (.int i)
theorem rl_int1 : RLn K (fun xs H Q => (∃ i, xs = [.int i] ∧ Q (.int i) H) ∨ ∃ k, xs = [.bl k] ∧ Q (.int (if k then 1 else 0)) H) int13 := by
  intro c xs Q3 hh Hb G A σ3 σ H vs Q R rx k
  obtain ⟨x, ex, hh1⟩ := ob_iff.mp hh
  obtain ⟨i, ei, q⟩ := ob_iff.mp hh1
  cases one_is ex
  obtain ⟨v, rfl, r⟩ := repL_one rx
  cases x with
  | int i =>
    cases ei
    cases r.intI
    exact .inl ⟨_, rfl, k _ _ H (Le.refl R.inv) (.int _) q⟩
  | bl b =>
    cases ei
    cases r.blI
    exact .inr ⟨b, rfl, k _ _ H (Le.refl R.inv) (.int _) q⟩
  | _ => cases ei
end
end M3

/-! L3K: the rules with the written part told by its own letter (so that a comprehension's block can be read). -/
namespace M3
open PySem L2
section
variable {X : Cx} {K : PySem.W.Frag} {pos : Pos}
theorem ix_listK (h : X.K = K) : IxR X (rIxL K) := h ▸ ix_list
theorem ix_tupK (h : X.K = K) : IxR X (rIxT K) := h ▸ ix_tup
theorem ix_strK (h : X.K = K) : IxR X rIxS := ix_str
theorem call_lenK (h : X.K = K) : CallR X (.builtin "len") (fun xs H Q => ∃ x n, xs = [x] ∧ LenV K x H n ∧ Q (.int n) H) := h ▸ call_len
theorem call_isiK' (h : X.K = K) : CallR X (.builtin "isinstance") (rIsi K) := h ▸ call_isi
theorem cr_allK (h : X.K = K) (hc : X.calm = true) : CallR X (.builtin "all") (rAll K) := h ▸ cr_all hc
theorem cr_anyK (h : X.K = K) (hc : X.calm = true) : CallR X (.builtin "any") (rAny K) := h ▸ cr_any hc
theorem sl_listK (h : X.K = K) : SlR X (rSlL K) := h ▸ sl_list
theorem sl_tupK (h : X.K = K) : SlR X (rSlF K) := h ▸ sl_tupF
theorem sl_strK (h : X.K = K) : SlR X rSlS := sl_str
theorem op_catTK (h : X.K = K) : OpR X (binaryOp .Add) (rCatF K) := h ▸ op_catF
theorem call_tupleK (h : X.K = K) : CallR X (.type "tuple") (rTup K) := h ▸ call_tupleF
theorem call_listK (h : X.K = K) : CallR X (.type "list") (fun xs H Q => ∃ p ys, xs = [.ref p] ∧ (SqL K H p ys ∨ SqT K H p ys) ∧ ∀ l, H l = none → Q (.ref l) (upd H l (.lst ys))) := h ▸ call_list_of
theorem pi_listK {tg l : Expr} {tl : TE} (h : X.K = K) (hl : PE X l tl) : PI X tg l (iList K tl) := h ▸ pi_list hl
theorem pi_tupK {tg l : Expr} {tl : TE} (h : X.K = K) (hl : PE X l tl) : PI X tg l (iTup K tl) := h ▸ pi_tup hl
theorem pi_zipK {e e2 : Expr} {ta : TA} {p tpos : Pos} {elts : List Expr} {kk : Nat} (h : X.K = K) (hg : Gl X "zip") (hm : X.mg "zip" = none) (ha : PA X [e, e2] ta)
    (hs : starEach [e, e2] X.env = (false, eval e X.env) :: starEach [e2] X.env := by rfl) (hpl : (backTo pos (starEach [e2] X.env)).any (·.1) = false := by rfl) :
    PI X (.Tuple elts kk tpos) (.Call (.Name "zip" p) [e, e2] [] pos) (RZ.iZipA K ta) := h ▸ RZ.pi_zipA hg hm ha hs hpl
theorem pi_enumK {e : Expr} {ta : TA} {p tpos : Pos} {elts : List Expr} {kk : Nat} (h : X.K = K) (hg : Gl X "enumerate") (hm : X.mg "enumerate" = none) (ha : PA X [e] ta) (hs : starEach [e] X.env = [(false, eval e X.env)] := by rfl) :
    PI X (.Tuple elts kk tpos) (.Call (.Name "enumerate" p) [e] [] pos) (iEnum K ta) := h ▸ pi_enum hg hm ha hs
theorem pg_tupK {es : List Expr} {k : Nat} {t : TGs} {n : Nat} (h : X.K = K) (hc : X.calm = true) (hp : PGs X es t)
    (hn : (assignEach es X.env).length = n := by rfl) (hst : (assignEach es X.env).findIdx? (·.1) = none := by rfl) : PG X (.Tuple es k pos) (gTup K n t) := h ▸ pg_tup hc hp hn hst
/-- any value's truth, by its tree -/
def tTrK (K : PySem.W.Frag) (ta : TE) : TT := fun σ H Q => ta σ H fun x H' => ∃ k, TruV K x H' k ∧ Q k H'
theorem pt_truthK {a : Expr} {ta : TE} (h : X.K = K) (ha : PE X a ta) (he : ∀ whole, isTrue a X.env whole = (do let v ← whole; standAt a.pos; holding [v] (truthy v))) : PT X a (tTrK K ta) := h ▸ pt_truth ha he
end
section
variable {K : PySem.W.Frag} {c : Cf} {W : WX}
def truT : T → Option Bool
  | .non => some false
  | .bl b => some b
  | .int i => some (i != 0)
  | .str y => if y.length ≤ sizeLine then some ((y.length : Int) != 0) else none
  | .lst xs => some (!xs.isEmpty)
  | .tup xs => some (!xs.isEmpty)
  | _ => none
def truth3 (a : E3) : B3 := fun σ Q X => a σ (fun x => ob (truT x) Q) X
theorem RepL.isEmpty {H : Hp} {vs : List V} {ts : List T} (r : RepL K H vs ts) : vs.isEmpty = ts.isEmpty := by cases r <;> rfl
theorem lift_truth {ta : TE} {a : E3} (ha : Lift K c W ta a) : LiftT K c W (tTrK K ta) (truth3 a) := by
  intro σ3 Q3 X h Hb G A σ H Q R k e
  refine ha _ _ _ h Hb G A σ H _ R (fun vx x H1 L1 rx hx => ?_) e
  obtain ⟨b, hb, q⟩ := ob_iff.mp hx
  refine ⟨b, ?_, k b b H1 L1 rfl q⟩
  cases x with
  | non => cases rx.nonI; cases hb; exact rfl
  | bl i => cases rx.blI; cases hb; exact rfl
  | int i => cases rx.intI; cases hb; exact rfl
  | str y =>
    cases rx.strI
    replace hb : (if y.length ≤ sizeLine then some ((y.length : Int) != 0) else none) = some b := hb
    by_cases hy : y.length ≤ sizeLine
    · rw [if_pos hy] at hb; cases hb; exact ⟨hy, rfl⟩
    · rw [if_neg hy] at hb; cases hb
  | lst xs =>
    obtain ⟨a, vs, rfl, hq, rl⟩ := rx.lstI
    cases hb
    exact .inl ⟨vs, SqL.of (hid_same _ _ hq), by rw [rl.isEmpty]⟩
  | tup xs =>
    obtain ⟨a, vs, rfl, hq, rl⟩ := rx.tupI
    cases hb
    exact .inr (.inl ⟨vs, Same.sqT hid_same hq, by rw [rl.isEmpty]⟩)
  | _ => cases hb
end
end M3

/-! L3L: the law's own body behind the making of its pot; draws by cases. -/
namespace M3
open PySem L2
theorem RepL.rev {K : PySem.W.Frag} {H : Hp} : ∀ {vs : List V} {ts : List T}, RepL K H vs ts → RepL K H vs.reverse ts.reverse
  | _, _, .nil => .nil
  | _, _, .cons r q => by
    rw [List.reverse_cons, List.reverse_cons]
    exact (RepL.rev q).append (.cons r .nil)
/-- the law's promise -/
def spLaw (K : PySem.W.Frag) : Sp := fun vs H Q _ => ∃ (a : Addr) (ns : List Int), vs = [.ref a] ∧ SqL K H a (ns.map V.int) ∧ ∀ H', Q (.bl true) H'
theorem r3_pot {K : PySem.W.Frag} {p cc : Addr} {Ts : List (Addr × Str)} {H : Hp} (m : Nat) (a : Addr) (hp : PotAt p cc H) (ht : LamX.Tabs Ts H) :
    R3 K (potT p cc Ts) H [] (List.replicate (m + 2) none) (Sl.no :: Sl.val (.ref p) :: List.replicate m Sl.no) (some (V.ref a) :: some (V.ref p) :: List.replicate m none) H := by
  have hA : addrs (List.replicate (m + 2) (none : Option Addr)) = [] := by
    unfold addrs
    rw [List.filterMap_replicate_of_none rfl]
  refine ⟨⟨hp, ht⟩, ?_, fun a h => (by cases h), fun a h => (by cases h), (by rw [hA]; exact List.nodup_nil), fun a h => (by rw [hA] at h; cases h), (by simp), (by simp), ?_⟩
  · unfold Cf.S
    rw [hA, List.append_nil, List.append_nil]
    exact Same.refl _
  · intro i s o x h1 h2 h3
    have ho : o = none := (List.mem_replicate.mp (List.mem_of_getElem? h2)).2
    subst ho
    match i, h1, h3 with
    | 0, h1, h3 => cases h1; exact rfl
    | 1, h1, h3 => cases h1; cases h3; exact ⟨rfl, _, rfl, .ref p⟩
    | i + 2, h1, h3 =>
      have hs : s = .no := (List.mem_replicate.mp (List.mem_of_getElem? (show (List.replicate m Sl.no)[i]? = some s by simpa using h1))).2
      subst hs
      exact rfl
theorem law_restT {K : PySem.W.Frag} {p cc : Addr} {Ts : List (Addr × Str)} {W : WX} {t : TS} {x : S3} {H : Hp} {Q : VK} {a : Addr} (m : Nat) (lt : LiftS K (potT p cc Ts) W t x) (hp : PotAt p cc H) (ht : LamX.Tabs Ts H) (hQ : ∀ H', Q (.bl true) H')
    (hx : x { nx := fun _ => False, rt := fun d => d = .bl true } (Sl.no :: Sl.val (.ref p) :: List.replicate m Sl.no)) : t { nx := fun _ H' => Q .non H', rt := Q } (some (V.ref a) :: some (V.ref p) :: List.replicate m none) H := by
  refine lt _ _ hx H [] _ _ H _ (r3_pot m a hp ht) ⟨fun _ _ _ _ _ z => z.elim, fun v d H' _ r e => ?_, fun _ _ _ _ _ z => z.elim, fun _ _ _ _ _ z => z.elim, fun _ _ _ _ _ _ _ _ _ z => z.elim⟩
  subst e
  rw [r.blI]
  exact hQ H'
theorem law_rest {K : PySem.W.Frag} {p cc : Addr} {W : WX} {t : TS} {x : S3} {H : Hp} {Q : VK} {a : Addr} (m : Nat) (lt : LiftS K (potCf p cc) W t x) (hp : PotAt p cc H) (hQ : ∀ H', Q (.bl true) H')
    (hx : x { nx := fun _ => False, rt := fun d => d = .bl true } (Sl.no :: Sl.val (.ref p) :: List.replicate m Sl.no)) : t { nx := fun _ H' => Q .non H', rt := Q } (some (V.ref a) :: some (V.ref p) :: List.replicate m none) H := law_restT m lt hp tabs_nil hQ hx
/-! ### draws -/
theorem ob_atI {xs : List T} {r : Int} {Q : T → Prop} (h0 : 0 ≤ r) (h1 : r < xs.length) (h : ∀ x ∈ xs, Q x) : ob (atI xs r) Q := by
  obtain ⟨j, rfl⟩ : ∃ j : Nat, r = (j : Int) := ⟨r.toNat, by omega⟩
  have hj : j < xs.length := by omega
  have e : atI xs (j : Int) = some xs[j] := atI_nat (List.getElem?_eq_getElem hj)
  rw [e]
  exact h _ (List.getElem_mem hj)
/-- a draw of an item by its place -/
theorem draw_all {xs : List T} {n : Int} {Q : T → Prop} (hn : n = xs.length) (h : ∀ x ∈ xs, Q x) : ∀ r : Int, 0 ≤ r → r < n → ob (atI xs r) Q := fun r h0 h1 => ob_atI h0 (by omega) h
/-- a statement by what it makes known, whatever follows -/
theorem seq_by {t u : S3} {N : N3} {σ : List Sl} (M : List Sl → Prop) (h : ∀ nx : List Sl → Prop, (∀ σ', M σ' → nx σ') → t { N with nx := nx } σ) (k : ∀ σ', M σ' → u N σ') : seq3 t u N σ := h (u N) k
theorem loop_name {i : Nat} {tb : S3} {N : N3} (P : List T → List Sl → Prop) (ds : List T) (σ : List Sl) (h : P ds σ) (h0 : ∀ σ, P [] σ → N.nx σ)
    (hs : ∀ x r σ, P (x :: r) σ → ∀ nx : List Sl → Prop, (∀ σ2, P r σ2 → nx σ2) → tb { nx := nx, ct := nx, bk := N.nx, rt := N.rt, xn := N.xn } (σ.set i (.val x))) : loop3 (name3 i) tb N ds σ :=
  loop3_inv P ds σ h h0 (fun x r σ hp => fun nx hn => hs x r σ hp nx hn) (fun d σ Q Q' hq h => hq _ h)
/-- a cut behind a statement: M is what is known there -/
def cut3 (t u : S3) : S3 := fun N σ => ∃ M : List Sl → Prop, t { N with nx := M } σ ∧ ∀ σ', M σ' → u N σ'
theorem lift_cut {K : PySem.W.Frag} {c : Cf} {W : WX} {t u : TS} {x y : S3} (h1 : LiftS K c W t x) (h2 : LiftS K c W u y) : LiftS K c W (tSeq t u) (cut3 x y) := by
  intro N σ3 h Hb G A σ H D R Z
  obtain ⟨M, hx, hy⟩ := h
  exact h1 _ _ hx Hb G A σ H _ R ⟨fun A' σ3' σ' H' R' q => h2 _ _ (hy σ3' q) Hb G A' σ' H' D R' Z, Z.rt, Z.bk, Z.ct, Z.xn⟩
end M3

/-! L3M: in, not in; further operations. -/
namespace M3
open PySem L2
section
variable {X : Cx} {K : PySem.W.Frag}
theorem op_inK (h : X.K = K) : OpR X (compareOp .In) (rIn K false) := h ▸ op_in_seq
theorem op_notInK (h : X.K = K) : OpR X (compareOp .NotIn) (rIn K true) := h ▸ op_notIn_seq
end
section
variable {K : PySem.W.Frag}
/-- flat items as values -/
def flats : List T → Option (List V)
  | [] => some []
  | t :: ts => (flatT t).bind fun v => (flats ts).map (v :: ·)
theorem flat_flat {t : T} {v : V} (h : flatT t = some v) : flatV v = true := by cases t <;> cases h <;> rfl
theorem RepL.flats {H : Hp} : ∀ {vs : List V} {ts : List T} {ws : List V}, RepL K H vs ts → M3.flats ts = some ws → vs = ws ∧ ws.all flatV = true
  | _, [], ws, .nil, h => by cases h; exact ⟨rfl, rfl⟩
  | _, t :: ts, ws, .cons r q, h => by
    have h : (flatT t).bind (fun v => (M3.flats ts).map (v :: ·)) = some ws := h
    cases e : flatT t with
    | none => rw [e] at h; cases h
    | some v =>
      rw [e] at h
      cases e2 : M3.flats ts with
      | none => rw [e2] at h; cases h
      | some l =>
        rw [e2] at h
        cases h
        obtain ⟨h1, h2⟩ := RepL.flats q e2
        rw [r.flat e, h1]
        exact ⟨rfl, by rw [List.all_cons, flat_flat e, h2]; rfl⟩
def in3 (neg : Bool) : T → T → (T → Prop) → Prop := fun x y Q => ob (flatT x) fun v => ob (items y) fun ys => ob (flats ys) fun vs => Q (.bl (if neg then !inV v vs else inV v vs))
theorem rl_in (neg : Bool) : RL2 K (rIn K neg) (in3 neg) := by
  intro c x y Q3 hh Hb G A σ3 σ H vx vy Q R rx ry k
  obtain ⟨v, ev, h1⟩ := ob_iff.mp hh
  obtain ⟨ys, ey, h2⟩ := ob_iff.mp h1
  obtain ⟨vs, es, q⟩ := ob_iff.mp h2
  have e := rx.flat ev
  subst e
  rcases items_cases ey with rfl | rfl
  · obtain ⟨a, ws, rfl, ha, rl⟩ := ry.lstI
    obtain ⟨e1, e2⟩ := rl.flats es
    subst e1
    exact ⟨a, ws, rfl, .inl (SqL.of (hid_same _ _ ha)), flat_flat ev, e2, k _ _ H (Le.refl R.inv) (.bl _) q⟩
  · obtain ⟨a, ws, rfl, ha, rl⟩ := ry.tupI
    obtain ⟨e1, e2⟩ := rl.flats es
    subst e1
    exact ⟨a, ws, rfl, .inr (Same.sqT hid_same ha), flat_flat ev, e2, k _ _ H (Le.refl R.inv) (.bl _) q⟩
end
theorem for_v {i : Nat} {xs : List T} {g : TG3} {tb : S3} {N : N3} {σ : List Sl} (h : slot σ i = some (.lst xs)) (k : loop3 g tb N xs σ) : for3 (iterL3 (v3 i)) g tb N σ := by
  unfold for3 iterL3 v3
  rw [h]
  exact k
theorem for_vT {i : Nat} {xs : List T} {g : TG3} {tb : S3} {N : N3} {σ : List Sl} (h : slot σ i = some (.tup xs)) (k : loop3 g tb N xs σ) : for3 (iterT3 (v3 i)) g tb N σ := by
  unfold for3 iterT3 v3
  rw [h]
  exact k
end M3

/-! L3X: raise; a lambda handed to a def that calls it in a try. -/
namespace M3
open PySem L2
section
variable {K : PySem.W.Frag} {c : Cf} {W : WX}
/-- raise C('..') -/
def raise3 (cls : Value) : S3 := fun N σ => N.xn σ ⟨cls, []⟩
theorem lift_raise {cls : Value} : LiftS K c W (fun _ σ H => W cls none σ H) (raise3 cls) := by
  intro N σ3 h Hb G A σ H D R Z
  exact Z.xn A σ3 σ H cls none ⟨cls, []⟩ R ⟨rfl, rfl⟩ h
end
/-! ### try: act() / except C: return (text,) .. / return (text,) -/
def tOne (s : Str) : TS := tRet (tTup (tCons (tC (.str s)) tNil))
def whyL (l : List (Value × Str)) : List (Value × (Addr → Value → Option Addr → TS)) := l.map fun p => (p.1, fun _ _ _ => tOne p.2)
def TTwhy (K : PySem.W.Frag) (l : List (Value × Str)) (s0 : Str) : (XK → Hp → VK → Prop) → Hp → VK → Prop := fun tl H Q =>
  tl (fun cls d H' => ∀ σ' : St, wMany K (fun _ _ _ _ => False) { nx := fun _ _ => False, rt := Q } (whyL l) cls d σ' H') H (fun _ H' => tOne s0 { nx := fun _ _ => False, rt := Q } [] H')
theorem wMany_rt {K : PySem.W.Frag} {Wo : WX} {D D' : Ends} (e : D.rt = D'.rt) : ∀ (l : List (Value × Str)) cls d σ H, wMany K Wo D (whyL l) cls d σ H → wMany K Wo D' (whyL l) cls d σ H
  | [], cls, d, σ, H, h => h
  | (v, s) :: l, cls, d, σ, H, h => by
    obtain ⟨b, h1, h2, h3⟩ := h
    refine ⟨b, h1, fun hb a ha => ?_, fun hb => wMany_rt e l cls d σ H (h3 hb)⟩
    have := h2 hb a ha
    show tTup (tCons (tC (.str s)) tNil) σ H D'.rt
    rw [← e]
    exact this
theorem wMany_slots {K : PySem.W.Frag} {D : Ends} : ∀ (l : List (Value × Str)) cls d σ σ' H, wMany K (fun _ _ _ _ => False) D (whyL l) cls d σ H → wMany K (fun _ _ _ _ => False) D (whyL l) cls d σ' H
  | [], cls, d, σ, σ', H, h => h
  | (v, s) :: l, cls, d, σ, σ', H, h => by
    obtain ⟨b, h1, h2, h3⟩ := h
    exact ⟨b, h1, fun hb a ha => h2 hb a ha, fun hb => wMany_slots l cls d σ σ' H (h3 hb)⟩
theorem why_gives {X : Cx} {Ng : List Str} {x a q s0 : Str} {sg : Scope} {g : Addr} {cdg : Value} {j k0 : Nat} {p1 p2 p3 p4 p5 p6 p7 : Pos} {h₀ : ExceptHandler} {hds : List ExceptHandler} {l : List (Value × Str)}
    (hh : ∀ s H, HdsOk (cxOf C8.CX0 X.prog X.w X.K X.mg X.base Ng x sg g cdg X.A X.stack s H C8.E0).nox (h₀ :: hds) (whyL l)) (h0 : ∀ f : Addr, (L2.start Ng [V.ref f])[0]? = some (some (V.ref f))) :
    LamX.GivesTo X Ng x sg g cdg [.Try [.Expr (.Call (.Name a p1) [] [] p2) p3] (h₀ :: hds) [] [] p4, .Return (some (.Tuple [.Constant (.str s0) j p5] k0 p6)) p7] a q (TTwhy X.K l s0) := by
  intro f c' s H Q tl act hc h
  refine ⟨_, pss_cons (ps_try_many (X := (cxOf C8.CX0 X.prog X.w X.K X.mg X.base Ng x sg g cdg X.A X.stack s H C8.E0).nox)
      (tb := fun W D σ H => ∃ Ech : XK, (∀ cls d σ' H', Ech cls d H' → W cls d σ' H') ∧ σ[0]? = some (some (.ref f)) ∧ H c' = some (LamX.CodeO c' q) ∧ tl Ech H (fun _ H' => D.nx σ H'))
      rfl rfl takes0 (fun W pn xe tk _ => ?_) (hh s H)) (pss_one (ps_ret (pe_tup (pa_cons pe_str pa_nil)))), ?_⟩
  · refine ⟨fun pins s' σ H' D I h' => ?_⟩
    obtain ⟨Ech, hW, h1, h2, h3⟩ := h'
    have hp := act W pn xe Ech p1 p2 tk hW
    have hq := pss_one (ps_expr (pos := p3) hp)
    exact hq.run pins s' σ H' D I ⟨h1, h2, h3⟩
  · refine ⟨fun cls d H' => ∀ σ' : St, wMany X.K (fun _ _ _ _ => False) { nx := fun _ _ => False, rt := Q } (whyL l) cls d σ' H', fun cls d σ' H' z => wMany_rt (K := X.K) (D := { nx := fun _ _ => False, rt := Q }) (D' := { nx := tRet (tTup (tCons (tC (V.str s0)) tNil)) { nx := fun x H' => Q V.non H', rt := Q }, rt := Q }) rfl l cls d σ' H' (z σ'), h0 f, hc, ?_⟩
    exact h
/-- the same at trees -/
def whyX (K : PySem.W.Frag) (x : Xn) (Q : T → Prop) : List (Value × Str) → Prop
  | [] => False
  | (c, s) :: l => ob (PySem.W.exmOne K x.cls c) fun b => if b = true then Q (.tup [.str s]) else whyX K x Q l
def why3 (K : PySem.W.Frag) (l : List (Value × Str)) (s0 : Str) (t : E3) : E3 := fun σ Q _ => t σ (fun _ => Q (.tup [.str s0])) (fun x => whyX K x Q l)
theorem one_line : (1 : Nat) ≤ sizeLine := by decide
theorem lift_lam {K : PySem.W.Frag} {p cc : Addr} {P : Addr × Str} {Ts : List (Addr × Str)} {W : WX} {l : List (Value × Str)} {s0 : Str} {t : XK → TE} {t3 : E3} (ht : ∀ E : XK, Lift K (potT p cc (P :: Ts)) (fun cls d _ H => E cls d H) (t E) t3) :
    Lift K (potT p cc (P :: Ts)) W (LamX.tLam (P :: Ts) (TTwhy K l s0) t) (why3 K l s0 t3) := by
  intro σ3 Q3 X h Hb G A σ H Q R k e
  refine ⟨R.inv.2, fun H1 ex tb => ?_⟩
  have own : ∀ a o, H a = some o → vis o = true → H1 a = some o := fun a o e v => ex a o e (fun ps z => by rw [z] at v; cases v)
  have L1 : Le (potT p cc (P :: Ts)) G A H H1 := by
    refine ⟨fun a o z => ?_, fun a ha => ?_, ?_, tb⟩
    · obtain ⟨z1, z2, z3⟩ := hid_all z
      exact hid_mk (own a o z1 z3) z2 z3
    · rcases List.mem_append.mp ha with ha | ha
      · cases eo : H a with
        | none => exact absurd eo (R.gk a ha).2.1
        | some o =>
          rcases R.gv a ha o eo with z | z
          · cases z
          · exact own a o eo z
      · have hm := mem_addrs.mp ha
        obtain ⟨i, hi⟩ := List.getElem?_of_mem hm
        have hl : i < A.length := (List.getElem?_eq_some_iff.mp hi).1
        have h1 : i < σ3.length := by rw [← R.l1]; exact hl
        have h2 : i < σ.length := by rw [R.l2]; exact h1
        have z := R.at_ i _ _ _ (List.getElem?_eq_getElem h1) hi (List.getElem?_eq_getElem h2)
        cases es : σ3[i] with
        | no => rw [es] at z; cases z
        | val t => rw [es] at z; cases z.1
        | own t =>
          rw [es] at z
          obtain ⟨b, e1, e2, q⟩ := z
          cases e1
          cases t with
          | lst xs => obtain ⟨vs, q1, _⟩ := q; rw [q1]; exact own a _ q1 rfl
          | dic xs => obtain ⟨vs, q1, _⟩ := q; rw [q1]; exact own a _ q1 rfl
          | tup xs => obtain ⟨x, C, fs, _, _, dx, ks, q1, _⟩ := q; rw [q1]; exact own a _ q1 rfl
          | _ => exact q.elim
    · obtain ⟨cs, i, n, s, h1, h2, r⟩ := R.inv.1
      exact ⟨cs, i, n, s, own _ _ h1 rfl, own _ _ h2 rfl, r⟩
  have R1 := R.le L1
  have out1 : ∀ (s : Str) (H2 : Hp) (σ' : St), Le (potT p cc (P :: Ts)) G A H1 H2 → Q3 (.tup [.str s]) → tOne s { nx := fun _ _ => False, rt := Q } σ' H2 := fun s H2 σ' L2 q => by
    refine ⟨one_line, fun a o ha hd => ?_⟩
    have R2 := R1.le L2
    have L3 := R2.new (o := .frz o (.tup [.str s])) ha
    exact k _ _ _ ((L1.trans L2).trans L3) (.mkT (FqT.of hd (R2.newAt ha)) (.cons (.str s) .nil)) q
  refine ht _ σ3 _ _ h Hb G A σ H1 _ R1 (fun v d H2 L2 _ q => out1 s0 H2 [] L2 q) (fun cls dd x H2 L2 rx hx σ' => ?_)
  have ec : x.cls = cls := rx.1
  subst ec
  clear h
  induction l with
  | nil => exact hx.elim
  | cons v l ih =>
    obtain ⟨c1, s1⟩ := v
    obtain ⟨b, hb, hy⟩ := ob_iff.mp hx
    refine ⟨b, hb, fun hb1 a _ => ?_, fun hb1 => ?_⟩
    · subst hb1
      exact out1 s1 H2 σ' L2 (by simpa using hy)
    · subst hb1
      exact ih (by simpa using hy)
end M3

/-! L3Q: == and != of data at any depth. -/
namespace M3
open PySem L2
section
variable {X : Cx} {K : PySem.W.Frag}
theorem op_eqDK (h : X.K = K) (hu : X.A.units + 64 < cLine) : OpR X (compareOp .Eq) (rEqD K) := h ▸ op_eqD hu
theorem op_neDK (h : X.K = K) (hu : X.A.units + 64 < cLine) : OpR X (compareOp .NotEq) (rNeD K) := h ▸ op_neD hu
end
mutual
/-- a tree as plain data -/
def dat : T → Option PyData
  | .non => some .none
  | .bl b => some (.bool b)
  | .int i => some (.int i)
  | .str x => some (.str x)
  | .tup xs => (dats xs).map .tuple
  | .lst xs => (dats xs).map .list
  | .ty _ => none
  | .ref _ => none
  | .dic _ => none
  | .ins _ _ => none
def dats : List T → Option (List PyData)
  | [] => some []
  | t :: ts => (dat t).bind fun d => (dats ts).map (d :: ·)
end
mutual
theorem dp_of {K : PySem.W.Frag} {H H' : Hp} (s : Same H H') : ∀ (t : T) (v : V) (d : PyData), Rep K H v t → dat t = some d → Dp K H' v d
  | .non, v, d, r, h => by
    cases h
    cases r
    exact .non
  | .bl b, v, d, r, h => by
    cases h
    cases r
    exact .bl _
  | .int i, v, d, r, h => by
    cases h
    cases r
    exact .int _
  | .str x, v, d, r, h => by
    cases h
    cases r
    exact .str _
  | .tup xs, v, d, r, h => by
    obtain ⟨a, vs, rfl, ha, rl⟩ := r.tupI
    have h : (dats xs).map PyData.tuple = some d := by simpa [dat] using h
    cases e : dats xs with
    | none => rw [e] at h; cases h
    | some ds =>
      rw [e] at h
      cases h
      exact .tup (Same.sqT s ha) (dps_of s xs vs ds rl e)
  | .lst xs, v, d, r, h => by
    obtain ⟨a, vs, rfl, ha, rl⟩ := r.lstI
    have h : (dats xs).map PyData.list = some d := by simpa [dat] using h
    cases e : dats xs with
    | none => rw [e] at h; cases h
    | some ds =>
      rw [e] at h
      cases h
      exact .lst (SqL.of (s _ _ ha)) (dps_of s xs vs ds rl e)
  | .ty _, v, d, r, h => by simp [dat] at h
  | .ref _, v, d, r, h => by simp [dat] at h
  | .dic _, v, d, r, h => by simp [dat] at h
  | .ins _ _, v, d, r, h => by simp [dat] at h
theorem dps_of {K : PySem.W.Frag} {H H' : Hp} (s : Same H H') : ∀ (ts : List T) (vs : List V) (ds : List PyData), RepL K H vs ts → dats ts = some ds → DpAll K H' vs ds
  | [], vs, ds, r, h => by
    cases h
    cases r
    exact .nil
  | t :: ts, vs, ds, r, h => by
    have h : (dat t).bind (fun d => (dats ts).map (d :: ·)) = some ds := by simpa [dats] using h
    cases e : dat t with
    | none => rw [e] at h; cases h
    | some d =>
      rw [e] at h
      cases e2 : dats ts with
      | none => rw [e2] at h; cases h
      | some es =>
        rw [e2] at h
        cases h
        cases r with
        | cons r1 r2 => exact .cons (dp_of s t _ _ r1 e) (dps_of s ts _ _ r2 e2)
end
section
variable {K : PySem.W.Frag}
def eqD3 : T → T → (T → Prop) → Prop := fun x y Q => ob (dat x) fun d => ob (dat y) fun e => SeqAt.shaped d = true ∧ SeqAt.shaped e = true ∧ Q (.bl (PyData.eqv d e))
def neD3 : T → T → (T → Prop) → Prop := fun x y Q => ob (dat x) fun d => ob (dat y) fun e => SeqAt.shaped d = true ∧ SeqAt.shaped e = true ∧ Q (.bl (!PyData.eqv d e))
theorem rl_eqD : RL2 K (rEqD K) eqD3 := by
  intro c x y Q3 hh Hb G A σ3 σ H vx vy Q R rx ry k
  obtain ⟨d, ed, h1⟩ := ob_iff.mp hh
  obtain ⟨e, ee, s1, s2, q⟩ := ob_iff.mp h1
  exact ⟨d, e, dp_of hid_same _ _ _ rx ed, dp_of hid_same _ _ _ ry ee, s1, s2, k _ _ H (Le.refl R.inv) (.bl _) q⟩
theorem rl_neD : RL2 K (rNeD K) neD3 := by
  intro c x y Q3 hh Hb G A σ3 σ H vx vy Q R rx ry k
  obtain ⟨d, ed, h1⟩ := ob_iff.mp hh
  obtain ⟨e, ee, s1, s2, q⟩ := ob_iff.mp h1
  exact ⟨d, e, dp_of hid_same _ _ _ rx ed, dp_of hid_same _ _ _ ry ee, s1, s2, k _ _ H (Le.refl R.inv) (.bl _) q⟩
end
end M3

/-! L4A: operations that look at the kind of their trees; calls by selection; classes. -/
namespace M3
open PySem L2
/-- the classes of the text by name, and the look of an except clause -/
structure Cs where
  at_ : Str → Addr
  em : Value → Value → Option Bool
def csOf (K : PySem.W.Frag) (mg : Str → Option Value) : Cs := ⟨fun x => match mg x with | some (.ref a) => a | _ => 0, PySem.W.exmOne K⟩
theorem csOf_at {K : PySem.W.Frag} {mg : Str → Option Value} {x : Str} {a : Addr} (h : mg x = some (.ref a)) : (csOf K mg).at_ x = a := by
  show (match mg x with | some (.ref a) => a | _ => 0) = a
  rw [h]
theorem OpR.or {X : Cx} {f : Value → Value → Sem Value} {r r' : R2} (a : OpR X f r) (b : OpR X f r') : OpR X f (fun x y H Q => r x y H Q ∨ r' x y H Q) := fun pins s σ H x y v u Q I rx ry h => by
  rcases h with h | h
  · exact a pins s σ H x y v u Q I rx ry h
  · exact b pins s σ H x y v u Q I rx ry h
theorem ixR_or {X : Cx} {r r' : R2} (a : IxR X r) (b : IxR X r') : IxR X (fun x y H Q => r x y H Q ∨ r' x y H Q) := by
  intro e1 e2 pins s σ H x y v u Q I rx ry h hs
  rcases h with h | h
  · exact a e1 e2 pins s σ H x y v u Q I rx ry h hs
  · exact b e1 e2 pins s σ H x y v u Q I rx ry h hs
/-- a rule by the kind: one of two -/
theorem RL2.or2 {K : PySem.W.Frag} {r r' : R2} {q q' m : T → T → (T → Prop) → Prop} (h : RL2 K r q) (h' : RL2 K r' q') (hm : ∀ x y Q, m x y Q → q x y Q ∨ q' x y Q) : RL2 K (fun x y H Q => r x y H Q ∨ r' x y H Q) m := by
  intro c x y Q3 hh Hb G A σ3 σ H vx vy Q R rx ry k
  rcases hm _ _ _ hh with hh | hh
  · exact .inl (h c x y Q3 hh Hb G A σ3 σ H vx vy Q R rx ry k)
  · exact .inr (h' c x y Q3 hh Hb G A σ3 σ H vx vy Q R rx ry k)
section
variable {X : Cx} {K : PySem.W.Frag}
/-! ### + -/
abbrev rAdd (K : PySem.W.Frag) : R2 := fun x y H Q => rI0 (fun i j => .int (i + j)) x y H Q ∨ (fun x y H Q => (fun x y H Q => ∃ i j, x = .str i ∧ y = .str j ∧ i.length + j.length ≤ sizeLine ∧ Q (.str (i ++ j)) H) x y H Q ∨ (fun x y H Q => rCat x y H Q ∨ rCatF K x y H Q) x y H Q) x y H Q
theorem op_addP (h : X.K = K) : OpR X (binaryOp .Add) (rAdd K) := OpR.or op_add (OpR.or op_add_str (OpR.or op_cat (op_catTK h)))
def addP : T → T → (T → Prop) → Prop
  | .int i, .int j, Q => Q (.int (i + j))
  | .str a, .str b, Q => a.length + b.length ≤ sizeLine ∧ Q (.str (a ++ b))
  | .lst a, .lst b, Q => a.length + b.length ≤ sizeLine ∧ Q (.lst (a ++ b))
  | .tup a, .tup b, Q => a.length + b.length ≤ sizeLine ∧ Q (.tup (a ++ b))
  | _, _, _ => False
theorem rl_addP : RL2 K (rAdd K) addP := by
  refine RL2.or2 rl_add (RL2.or2 rl_catS (RL2.or2 rl_catL rl_catT (m := fun x y Q => match x, y with | .lst a, .lst b => catL3 (.lst a) (.lst b) Q | .tup a, .tup b => catT3 (.tup a) (.tup b) Q | _, _ => False) ?_)
    (m := fun x y Q => match x, y with | .str a, .str b => catS3 (.str a) (.str b) Q | .lst a, .lst b => catL3 (.lst a) (.lst b) Q | .tup a, .tup b => catT3 (.tup a) (.tup b) Q | _, _ => False) ?_) ?_
  · intro x y Q h
    cases x <;> cases y <;> first | exact .inl h | exact .inr h | exact h.elim
  · intro x y Q h
    cases x <;> cases y <;> first | exact .inl h | exact .inr h | exact h.elim
  · intro x y Q h
    cases x <;> cases y <;> first | exact .inl h | exact .inr h | exact h.elim
/-! ### * -/
abbrev rMul : R2 := fun x y H Q => rI CMulW (fun i j => .int (i * j)) x y H Q ∨ rRep x y H Q
theorem op_mulP : OpR X (binaryOp .Mult) rMul := OpR.or op_mulW op_rep
def mulP : T → T → (T → Prop) → Prop
  | .int i, .int j, Q => CMulW i j ∧ Q (.int (i * j))
  | .lst xs, .int k, Q => -(2 ^ 63) ≤ k ∧ k < 2 ^ 63 ∧ xs.length * k.toNat ≤ sizeLine ∧ Q (.lst (List.replicate k.toNat xs).flatten)
  | _, _, _ => False
theorem rl_mulP : RL2 K rMul mulP := by
  refine RL2.or2 rl_mulW rl_repL ?_
  intro x y Q h
  cases x <;> cases y <;> first | exact .inl h | exact .inr h | exact h.elim
/-! ### xs[i] -/
abbrev rIx (K : PySem.W.Frag) : R2 := fun x y H Q => rIxL K x y H Q ∨ (fun x y H Q => rIxT K x y H Q ∨ rIxS x y H Q) x y H Q
theorem ix_P (h : X.K = K) : IxR X (rIx K) := ixR_or (ix_listK h) (ixR_or (ix_tupK h) (ix_strK h))
def ixP : T → T → (T → Prop) → Prop
  | .lst xs, .int i, Q => ob (atI xs i) Q
  | .tup xs, .int i, Q => ob (atI xs i) Q
  | .str z, .int i, Q => z.length ≤ sizeLine ∧ ob (atI z.cps.toList i) fun c => Q (.str ⟨#[c]⟩)
  | _, _, _ => False
theorem rl_ixP : RL2 K (rIx K) ixP := by
  refine RL2.or2 rl_ixL (RL2.or2 rl_ixT rl_ixS (m := fun x y Q => match x, y with | .tup xs, .int i => ob (atI xs i) Q | .str z, .int i => z.length ≤ sizeLine ∧ ob (atI z.cps.toList i) fun c => Q (.str ⟨#[c]⟩) | _, _ => False) ?_) ?_
  · intro x y Q h
    cases x <;> cases y <;> first | exact .inl h | exact .inr h | exact h.elim
  · intro x y Q h
    cases x <;> cases y <;> first | exact .inl h | exact .inr h | exact h.elim
/-! ### xs[a:b] -/
theorem RLs.or2 {r r' : V → Option Int → Option Int → Hp → VK → Prop} {q q' m : T → Option Int → Option Int → (T → Prop) → Prop} (h : RLs K r q) (h' : RLs K r' q') (hm : ∀ x l u Q, m x l u Q → q x l u Q ∨ q' x l u Q) : RLs K (fun x l u H Q => r x l u H Q ∨ r' x l u H Q) m := by
  intro c x lo hi Q3 hh Hb G A σ3 σ H vx Q R rx k
  rcases hm _ _ _ _ hh with hh | hh
  · exact .inl (h c x lo hi Q3 hh Hb G A σ3 σ H vx Q R rx k)
  · exact .inr (h' c x lo hi Q3 hh Hb G A σ3 σ H vx Q R rx k)
abbrev rSl (K : PySem.W.Frag) : V → Option Int → Option Int → Hp → VK → Prop := fun x l u H Q => rSlL K x l u H Q ∨ (fun x l u H Q => rSlF K x l u H Q ∨ rSlS x l u H Q) x l u H Q
theorem sl_P (h : X.K = K) : SlR X (rSl K) := L2.SlR.or (sl_listK h) (L2.SlR.or (sl_tupK h) (sl_strK h))
def slP : T → Option Int → Option Int → (T → Prop) → Prop
  | .lst xs, l, u, Q => Q (.lst (cut xs l u))
  | .tup xs, l, u, Q => Q (.tup (cut xs l u))
  | .str z, l, u, Q => z.length ≤ sizeLine ∧ Q (.str (cutS z l u))
  | _, _, _, _ => False
theorem rl_slP : RLs K (rSl K) slP := by
  refine RLs.or2 rl_slL (RLs.or2 rl_slT rl_slS (m := fun x l u Q => match x with | .tup xs => Q (.tup (cut xs l u)) | .str z => z.length ≤ sizeLine ∧ Q (.str (cutS z l u)) | _ => False) ?_) ?_
  · intro x l u Q h
    cases x <;> first | exact .inl h | exact .inr h | exact h.elim
  · intro x l u Q h
    cases x <;> first | exact .inl h | exact .inr h | exact h.elim
/-! ### == -/
abbrev rEq' (K : PySem.W.Frag) : R2 := fun x y H Q => rEq x y H Q ∨ rEqD K x y H Q
abbrev rNe' (K : PySem.W.Frag) : R2 := fun x y H Q => rNe x y H Q ∨ rNeD K x y H Q
theorem op_eqP (h : X.K = K) (hu : X.A.units + 64 < cLine) : OpR X (compareOp .Eq) (rEq' K) := OpR.or op_eq (op_eqDK h hu)
theorem op_neP (h : X.K = K) (hu : X.A.units + 64 < cLine) : OpR X (compareOp .NotEq) (rNe' K) := OpR.or op_ne (op_neDK h hu)
def isSeq : T → Bool
  | .lst _ => true
  | .tup _ => true
  | _ => false
def eqP (x y : T) (Q : T → Prop) : Prop := if (isSeq x || isSeq y) = true then eqD3 x y Q else eqS3 x y Q
def neP (x y : T) (Q : T → Prop) : Prop := if (isSeq x || isSeq y) = true then neD3 x y Q else neS3 x y Q
theorem rl_eqP : RL2 K (rEq' K) eqP := by
  refine RL2.or2 rl_eqS rl_eqD fun x y Q h => ?_
  unfold eqP at h
  split at h
  · exact .inr h
  · exact .inl h
theorem rl_neP : RL2 K (rNe' K) neP := by
  refine RL2.or2 rl_neS rl_neD fun x y Q h => ?_
  unfold neP at h
  split at h
  · exact .inr h
  · exact .inl h
end
/-! ### what is walked: a list, a tuple, a text -/
section
variable {K : PySem.W.Frag} {c : Cf} {W : WX} {X : Cx}
def rIt (K : PySem.W.Frag) (x : V) (H : Hp) (R : It → Hp → Prop) : Prop :=
  (∃ a xs, x = .ref a ∧ SqL K H a xs ∧ R (Itl K a) H) ∨ (∃ a xs, x = .ref a ∧ SqT K H a xs ∧ R (Itt K a) H) ∨ ∃ z, x = .str z ∧ R (Its z) H
def iP (K : PySem.W.Frag) (t : TE) : TI := fun σ H R => t σ H fun x H' => rIt K x H' R
theorem pi_P {tg e : Expr} {t : TE} (h : X.K = K) (he : PE X e t) : PI X tg e (iP K t) := by
  subst h
  constructor
  intro pins s σ H R I hw
  refine thn (he.run pins s σ H _ I hw) ?_
  rintro v s1 ⟨x, H1, I1, r1, q1⟩
  have fp : ∀ b ∈ [s1.heap.objs.size], FpOk X pins H1 b := by
    intro b hb
    cases List.mem_singleton.mp hb
    exact I1.fpOk (Nat.le_refl _) (I1.hok.fresh (Nat.le_refl _))
  rcases q1 with ⟨a, xs, rfl, hq, q⟩ | ⟨a, xs, rfl, hq, q⟩ | ⟨z, rfl, q⟩
  · cases r1
    obtain ⟨its, _, pl, _⟩ := I1.list hq
    exact wpAny_pyIter_list pl.isList ⟨_, [_], _, _, H1, rfl, I1.kept (t' := s1.toks) (fun _ _ e => Heap.get?_push_of_some _ e), turn_list a _, ⟨_, Heap.get?_push_size _ rfl, rfl, rfl⟩, fp, q⟩
  · cases r1
    obtain ⟨its, _, pl, _⟩ := I1.tuple hq
    exact wpAny_pyIter_tuple (show s1.heap.IsTuple a its.toArray from pl) ⟨_, [_], _, _, H1, rfl, I1.kept (t' := s1.toks) (fun _ _ e => Heap.get?_push_of_some _ e), turn_tuple a _, ⟨_, Heap.get?_push_size _ rfl, rfl, rfl⟩, fp, q⟩
  · obtain ⟨t, rfl⟩ := r1
    cases ha : z.cps.all (· < 128)
    · exact wpAny_pyIter_wide ha (pi_one (tk := s1.toks) I1 _ (turn_str _ z t "str_iterator" (.inr rfl)) ⟨_, Heap.get?_push_size _ rfl, rfl, rfl⟩ q)
    · exact wpAny_pyIter_ascii ha (pi_one (tk := s1.toks) I1 _ (turn_str _ z t "str_ascii_iterator" (.inl rfl)) ⟨_, Heap.get?_push_size _ rfl, rfl, rfl⟩ q)
def chT (c : Nat) : T := .str ⟨#[c]⟩
def itemsP : T → Option (List T)
  | .lst xs => some xs
  | .tup xs => some xs
  | .str z => some (z.cps.toList.map chT)
  | _ => none
def iterP (a : E3) : A3 := fun σ Q X => a σ (fun d => ob (itemsP d) Q) X
theorem walks_str {V0 : Hp} (z : Str) : Walks K V0 (Its z) (z.cps.toList.map chT) where
  go := fun i d S H hd e => by
    have := (List.getElem?_eq_some_iff.mp hd).1
    show i < z.cps.size
    simpa using this
  yld := fun i d S H x H' hd e _ y => by
    obtain ⟨rfl, c, hc, rfl⟩ := y
    rw [List.getElem?_map] at hd
    have hc' : z.cps.toList[i]? = some c := by simpa using hc
    rw [hc'] at hd
    cases hd
    exact ⟨.inl rfl, .inl (.str _)⟩
  stop := fun S H e => by
    show z.cps.size ≤ _
    simp
theorem lift_iP {ta : TE} {a : E3} (ha : Lift K c W ta a) : LiftI K c W (iP K ta) (iterP a) := by
  intro σ3 Q3 X h Hb G A σ H R' R k e
  refine ha _ _ _ h Hb G A σ H _ R (fun v d H1 L1 r q => ?_) e
  obtain ⟨xs, ex, q1⟩ := ob_iff.mp q
  cases d with
  | lst ys =>
    cases ex
    obtain ⟨p, vs, rfl, hp, rl⟩ := r.lstI
    exact .inl ⟨p, vs, rfl, SqL.of (hid_same _ _ hp), k _ _ H1 L1 (walks_list hp rl) q1⟩
  | tup ys =>
    cases ex
    obtain ⟨p, vs, rfl, hp, rl⟩ := r.tupI
    exact .inr (.inl ⟨p, vs, rfl, Same.sqT hid_same hp, k _ _ H1 L1 (walks_tup hp rl) q1⟩)
  | str z =>
    cases ex
    cases r.strI
    exact .inr (.inr ⟨z, rfl, k _ _ H1 L1 (walks_str z) q1⟩)
  | _ => cases ex
end
/-! ### calls by selection -/
def sel {α : Type} (is : List Nat) (xs : List α) : List α := is.filterMap fun i => xs[i]?
theorem vals_get : ∀ {vs : List V} {us : List Value} {i : Nat}, Vals vs us → (∃ v u, vs[i]? = some v ∧ us[i]? = some u ∧ RelV v u) ∨ (vs[i]? = none ∧ us[i]? = none)
  | _, _, _, .nil => .inr ⟨rfl, rfl⟩
  | _, _, 0, .cons r _ => .inl ⟨_, _, rfl, rfl, r⟩
  | _, _, i + 1, .cons _ q => by simpa using vals_get (i := i) q
theorem vals_sel : ∀ (is : List Nat) {vs : List V} {us : List Value}, Vals vs us → Vals (sel is vs) (sel is us)
  | [], _, _, _ => .nil
  | i :: is, vs, us, r => by
    unfold sel
    rw [List.filterMap_cons, List.filterMap_cons]
    rcases vals_get (i := i) r with ⟨v, u, e1, e2, q⟩ | ⟨e1, e2⟩
    · rw [e1, e2]
      exact .cons q (vals_sel is r)
    · rw [e1, e2]
      exact vals_sel is r
theorem repL_sel {K : PySem.W.Frag} {H : Hp} : ∀ (is : List Nat) {vs : List V} {ts : List T}, RepL K H vs ts → RepL K H (sel is vs) (sel is ts)
  | [], _, _, _ => .nil
  | i :: is, vs, ts, r => by
    unfold sel
    rw [List.filterMap_cons, List.filterMap_cons]
    cases e : ts[i]? with
    | some t =>
      obtain ⟨v, e1, q⟩ := r.get e
      rw [e1]
      exact .cons q (repL_sel is r)
    | none =>
      have : vs[i]? = none := by
        rw [List.getElem?_eq_none_iff] at e ⊢
        rw [r.length]; exact e
      rw [this]
      exact repL_sel is r
end M3

/-! L4B: defs of the text with defaults that are trees; how they are called; the law's lambda. -/
namespace M3
open PySem L2
/-- a def as it stands behind the top; its defaults are trees -/
structure DefAt (K : PySem.W.Frag) (mg : Str → Option Value) (x qual : Str) (st : Stmt) (dts : List T) (kns : List Str) (kts : List T) : Prop where
  ex : ∃ f fd dvs kvs, (∀ H, RepL K H dvs dts) ∧ (∀ H, RepL K H kvs kts) ∧ FunD K x qual (defArgs st) (defBody st) (defScope st) dvs (kns.zip kvs) f fd ∧ mg x = some (.ref f)
structure OkF (P : Program) (w : World) (K : PySem.W.Frag) (mg : Str → Option Value) (base : Heap) (CX : CXT) (x qual : Str) (st : Stmt) (dts : List T) (kns : List Str) (kts : List T) (lv : Nat) (ps : List Str) (sp : Sp) : Prop where
  ex : ∃ f fd dvs kvs, (∀ H, RepL K H dvs dts) ∧ (∀ H, RepL K H kvs kts) ∧ FunD K x qual (defArgs st) (defBody st) (defScope st) dvs (kns.zip kvs) f fd ∧ mg x = some (.ref f) ∧ FnOk P w K mg base CX lv f fd ps sp
/-- it may be called: the defaults behind the written arguments are the trees dts -/
structure ClT (P : Program) (w : World) (K : PySem.W.Frag) (mg : Str → Option Value) (base : Heap) (CX : CXT) (x : Str) (k : Nat) (dts : List T) (sp : Sp) : Prop where
  ex : ∃ dvs, (∀ H, RepL K H dvs dts) ∧ Cl P w K mg base CX x k dvs sp
/-- .. with keywords: the parameters are picked (is) from the positional values, the defaults mts, the keywords' values -/
structure ClNT (P : Program) (w : World) (K : PySem.W.Frag) (mg : Str → Option Value) (base : Heap) (CX : CXT) (x : Str) (k n : Nat) (ks : List Str) (is : List Nat) (mts : List T) (sp : Sp) : Prop where
  ex : ∃ mvs, (∀ H, RepL K H mvs mts) ∧ ClN P w K mg base CX x k n ks (fun vs zs => sel is (vs ++ (mvs ++ zs))) sp
section
variable {P : Program} {w : World} {K : PySem.W.Frag} {mg : Str → Option Value} {base : Heap} {CX : CXT} {x qual : Str} {st : Stmt} {dts kts : List T} {kns : List Str} {lv : Nat} {ps : List Str} {sp : Sp}
theorem RepL.len0 {H : Hp} {vs : List V} (r : RepL K H vs []) : vs = [] := by cases r; rfl
theorem RepL.ne {vs : List V} {ts : List T} (r : ∀ H, RepL K H vs ts) (h : ts ≠ []) : vs ≠ [] := fun e => by
  subst e
  have := (r (fun _ => none)).length
  cases ts with
  | nil => exact h rfl
  | cons => simp at this
theorem zip_ne {kns : List Str} {kvs : List V} {kts : List T} (r : ∀ H, RepL K H kvs kts) (h : kts ≠ []) (hl : kns.length = kts.length) : kns.zip kvs ≠ [] := by
  have l := (r (fun _ => none)).length
  cases kns with
  | nil => cases kts with
    | nil => exact fun _ => h rfl
    | cons => simp at hl
  | cons a kns => cases kvs with
    | nil => cases kts with
      | nil => exact fun _ => h rfl
      | cons => simp at l
    | cons => simp
theorem zip_fst {kns : List Str} {kvs : List V} (hl : kns.length = kvs.length) : (kns.zip kvs).map (·.1) = kns := by
  rw [List.map_fst_zip (by omega)]
theorem zip_snd {kns : List Str} {kvs : List V} (hl : kns.length = kvs.length) : (kns.zip kvs).map (·.2) = kvs := by
  rw [List.map_snd_zip (by omega)]
theorem OkF.fun_ (O : OkF P w K mg base CX x qual st [] [] [] lv ps sp) : ∃ f fd, Fun K x qual st f fd ∧ mg x = some (.ref f) ∧ FnOk P w K mg base CX lv f fd ps sp := by
  obtain ⟨f, fd, dvs, kvs, rd, rk, F, hm, O⟩ := O.ex
  have e := (rd (fun _ => none)).len0
  subst e
  obtain ⟨oc, od, dV, kV, doc, pm, an, cdv, ct, osl, e, lk, hcd, hD, hK⟩ := F.ex
  rcases hD with ⟨_, e2⟩ | ⟨z, _⟩
  · subst e2
    exact ⟨f, fd, ⟨⟨oc, od, kV, doc, pm, an, cdv, ct, osl, e, lk, hcd⟩, F.kp⟩, hm, O⟩
  · exact absurd rfl z
/-- every parameter is written -/
theorem OkF.cl (O : OkF P w K mg base CX x qual st [] kns kts lv ps sp) (h : ∀ (kV doc pm : Value) (an : Option Addr) (cdv ct : Value) (us : List Value), us.length = ps.length → bindArgs (PySem.W.fnOf x qual (defArgs st) (defBody st) (defScope st) .none kV doc pm an cdv ct) ⟨us, []⟩ = pure (ps.zip us)) :
    ClT P w K mg base CX x lv [] sp := by
  obtain ⟨f, fd, dvs, kvs, rd, rk, F, hm, O⟩ := O.ex
  have e := (rd (fun _ => none)).len0
  subst e
  exact ⟨[], fun _ => .nil, f, fd, ps, [], O, hm, F.kp, F.bindsN h, .nil⟩
/-- positional defaults fill up, no keyword-only ones -/
theorem OkF.cl1 (O : OkF P w K mg base CX x qual st dts [] [] lv ps sp) (n j : Nat) (hd : dts ≠ []) (hn : n + (dts.length - j) = ps.length)
    (h : ∀ (T : Addr) (kV doc pm : Value) (an : Option Addr) (cdv ct : Value) (us its : List Value), us.length = n → its.length = dts.length →
      ∃ k, bindArgs (PySem.W.fnOf x qual (defArgs st) (defBody st) (defScope st) (.ref T) kV doc pm an cdv ct) ⟨us, []⟩ = seqItems? (.ref T) >>= k ∧ k (some its.toArray) = pure (ps.zip (us ++ its.drop j))) : ClT P w K mg base CX x lv (dts.drop j) sp := by
  obtain ⟨f, fd, dvs, kvs, rd, rk, F, hm, O⟩ := O.ex
  have l := (rd (fun _ => none)).length
  obtain ⟨ds, v, b⟩ := F.binds1 (ps := ps) n j (RepL.ne rd hd) (by rw [l]; exact hn) (by rw [l]; exact h)
  exact ⟨dvs.drop j, fun H => (rd H).drop j, f, fd, ps, ds, O, hm, F.kp, b, v⟩
/-- keyword-only defaults fill up, no positional ones -/
theorem OkF.cl0 (O : OkF P w K mg base CX x qual st [] kns kts lv ps sp) (n : Nat) (hk : kts ≠ []) (hl : kns.length = kts.length) (hn : n + kns.length = ps.length)
    (h : ∀ (D : Addr) (doc pm : Value) (an : Option Addr) (cdv ct : Value) (us ks : List Value), us.length = n → ks.length = kns.length →
      KwChain D (kns.zip ks) (bindArgs (PySem.W.fnOf x qual (defArgs st) (defBody st) (defScope st) .none (.ref D) doc pm an cdv ct) ⟨us, []⟩) (ps.zip (us ++ ks))) : ClT P w K mg base CX x lv kts sp := by
  obtain ⟨f, fd, dvs, kvs, rd, rk, F, hm, O⟩ := O.ex
  have e := (rd (fun _ => none)).len0
  subst e
  have l : kns.length = kvs.length := hl.trans (rk (fun _ => none)).length.symm
  have lz : (kns.zip kvs).length = kns.length := by rw [List.length_zip]; omega
  obtain ⟨ds, v, b⟩ := F.binds0 (ps := ps) n (zip_ne rk hk hl) (by rw [lz]; exact hn) (by
    intro D doc pm an cdv ct us ks h1 h2
    rw [zip_fst l]
    exact h D doc pm an cdv ct us ks h1 (by rw [h2, lz]))
  rw [zip_snd l] at v
  exact ⟨kvs, rk, f, fd, ps, ds, O, hm, F.kp, b, v⟩
/-- keywords, no positional defaults; ms: the places of the keyword-only parameters that lack -/
theorem kbn0 {f : Addr} {fd : FuncData} {kvs : List V} (rk : ∀ H, RepL K H kvs kts) (F : FunD K x qual (defArgs st) (defBody st) (defScope st) [] (kns.zip kvs) f fd) (n : Nat) (ks : List Str) (ms is : List Nat) (hk : kts ≠ []) (hl : kns.length = kts.length) (hms : ∀ i ∈ ms, i < kns.length)
    (h : ∀ (D : Addr) (doc pm : Value) (an : Option Addr) (cdv ct : Value) (us mv ws : List Value), us.length = n → mv.length = ms.length → ws.length = ks.length →
      KwChain D ((sel ms kns).zip mv) (bindArgs (PySem.W.fnOf x qual (defArgs st) (defBody st) (defScope st) .none (.ref D) doc pm an cdv ct) ⟨us, ks.zip ws⟩) (ps.zip (sel is (us ++ (mv ++ ws))))) :
    ∃ mvs g, (∀ H, RepL K H mvs (sel ms kts)) ∧ KBn K fd ps n ks g (fun vs zs => sel is (vs ++ (mvs ++ zs))) := by
  have l : kns.length = kvs.length := hl.trans (rk (fun _ => none)).length.symm
  have len_sel : ∀ {α : Type} (ms : List Nat) (xs : List α), (∀ i ∈ ms, i < xs.length) → (sel ms xs).length = ms.length := by
    intro α ms xs hm
    induction ms with
    | nil => rfl
    | cons i ms ih =>
      unfold sel
      rw [List.filterMap_cons, List.getElem?_eq_getElem (hm i (List.mem_cons_self ..))]
      show (sel ms xs).length + 1 = _
      rw [ih fun j hj => hm j (List.mem_cons_of_mem _ hj)]
      rfl
  have zsel : ∀ ms : List Nat, (∀ i ∈ ms, i < kns.length) → (sel ms (kns.zip kvs)).map (·.1) = sel ms kns ∧ (sel ms (kns.zip kvs)).map (·.2) = sel ms kvs := by
    intro ms hm
    induction ms with
    | nil => exact ⟨rfl, rfl⟩
    | cons i ms ih =>
      obtain ⟨h1, h2⟩ := ih fun j hj => hm j (List.mem_cons_of_mem _ hj)
      have hi := hm i (List.mem_cons_self ..)
      have hi2 : i < kvs.length := by omega
      have e1 : kns[i]? = some kns[i] := List.getElem?_eq_getElem hi
      have e2 : kvs[i]? = some kvs[i] := List.getElem?_eq_getElem hi2
      have e3 : (kns.zip kvs)[i]? = some (kns[i], kvs[i]) := by rw [List.getElem?_zip_eq_some]; exact ⟨e1, e2⟩
      unfold sel
      rw [List.filterMap_cons, List.filterMap_cons, List.filterMap_cons, e1, e2, e3]
      exact ⟨by rw [List.map_cons]; exact congrArg _ h1, by rw [List.map_cons]; exact congrArg _ h2⟩
  obtain ⟨z1, z2⟩ := zsel ms hms
  have lz : (sel ms (kns.zip kvs)).length = ms.length := len_sel ms _ (fun i hi => by rw [List.length_zip]; have := hms i hi; omega)
  obtain ⟨mv, B⟩ := F.kbinds0 (ps := ps) n ks (sel ms (kns.zip kvs)) (fun us mv ws => sel is (us ++ (mv ++ ws))) (zip_ne rk hk hl) (fun q hq => by
      unfold sel at hq
      obtain ⟨i, _, e⟩ := List.mem_filterMap.mp hq
      exact List.mem_of_getElem? e) (fun a b c => vals_sel is (a.append (b.append c))) (by
      intro D doc pm an cdv ct us mv ws h1 h2 h3
      rw [z1]
      exact h D doc pm an cdv ct us mv ws h1 (by rw [h2, lz]) h3)
  rw [z2] at B
  exact ⟨sel ms kvs, _, fun H => repL_sel ms (rk H), B⟩
theorem OkF.clN0 (O : OkF P w K mg base CX x qual st [] kns kts lv ps sp) (n : Nat) (ks : List Str) (ms is : List Nat) (hk : kts ≠ []) (hl : kns.length = kts.length) (hms : ∀ i ∈ ms, i < kns.length)
    (h : ∀ (D : Addr) (doc pm : Value) (an : Option Addr) (cdv ct : Value) (us mv ws : List Value), us.length = n → mv.length = ms.length → ws.length = ks.length →
      KwChain D ((sel ms kns).zip mv) (bindArgs (PySem.W.fnOf x qual (defArgs st) (defBody st) (defScope st) .none (.ref D) doc pm an cdv ct) ⟨us, ks.zip ws⟩) (ps.zip (sel is (us ++ (mv ++ ws))))) : ClNT P w K mg base CX x lv n ks is (sel ms kts) sp := by
  obtain ⟨f, fd, dvs, kvs, rd, rk, F, hm, O⟩ := O.ex
  have e := (rd (fun _ => none)).len0
  subst e
  obtain ⟨mvs, g, h1, B⟩ := kbn0 rk F n ks ms is hk hl hms h
  exact ⟨mvs, h1, f, fd, ps, g, O, hm, F.kp, B⟩
theorem fnOk_no {k : Nat} {f : Addr} {fd : FuncData} (h : ∀ vs H Q E, ¬ sp vs H Q E) : FnOk P w K mg base CX k f fd ps sp :=
  ⟨fun vs H Q E z => (h vs H Q E z).elim, fun A outer s H args us vs Q E _ _ _ _ z => (h vs H Q E z).elim⟩
/-- no fuel -/
def f0 : F3 := fun _ _ _ => False
theorem DefAt.no (D : DefAt K mg x qual st dts kns kts) (n : Nat) : OkF P w K mg base CX x qual st dts kns kts lv ps (sp3 K n f0) := by
  obtain ⟨f, fd, dvs, kvs, rd, rk, F, hm⟩ := D.ex
  exact ⟨f, fd, dvs, kvs, rd, rk, F, hm, fnOk_no fun vs H Q E z => by
    obtain ⟨_, _, _, _, _, _, _, z, _⟩ := z
    exact z⟩
theorem DefAt.noP (D : DefAt K mg x qual st dts kns kts) (n : Nat) : OkF P w K mg base CX x qual st dts kns kts lv ps (spP K n f0) := by
  obtain ⟨f, fd, dvs, kvs, rd, rk, F, hm⟩ := D.ex
  exact ⟨f, fd, dvs, kvs, rd, rk, F, hm, fnOk_no fun vs H Q E z => by
    obtain ⟨_, _, _, _, _, _, _, _, _, _, z, _⟩ := z
    exact z⟩
end
/-- an exception class of the text, without an own __init__ -/
structure ExcC (K : PySem.W.Frag) (mg : Str → Option Value) (x : Str) : Prop where
  x_ : PySem.W.excIn K ((csOf K mg).at_ x) [.type "ValueError", .type "Exception", .type "BaseException", .type "object"] "ValueError.__new__" = true
  g : mg x = some (.ref ((csOf K mg).at_ x))
  k : PySem.W.keepIn K (.ref ((csOf K mg).at_ x)) = true
  b : PySem.W.subIn K (.ref ((csOf K mg).at_ x)) (.type "BaseException") = some true
  t : PySem.W.typeIn K (.ref ((csOf K mg).at_ x)) = some (.type "type")
/-! ### the law's lambda: try: act() / except C: return (text,) .. / return (text,) -/
def whyX4 (em : Value → Value → Option Bool) (x : Xn) (Q : T → Prop) : List (Value × Str) → Prop
  | [] => False
  | (c, s) :: l => ob (em x.cls c) fun b => if b = true then Q (.tup [.str s]) else whyX4 em x Q l
def why4 (em : Value → Value → Option Bool) (l : List (Value × Str)) (s0 : Str) (t : E3) : E3 := fun σ Q _ => t σ (fun _ => Q (.tup [.str s0])) (fun x => whyX4 em x Q l)
theorem whyX4_eq {K : PySem.W.Frag} {x : Xn} {Q : T → Prop} : ∀ l, whyX4 (PySem.W.exmOne K) x Q l = whyX K x Q l
  | [] => rfl
  | (c, s) :: l => by
    unfold whyX4 whyX
    rw [whyX4_eq l]
theorem lift_lam4 {K : PySem.W.Frag} {p cc : Addr} {P : Addr × Str} {Ts : List (Addr × Str)} {W : WX} {l : List (Value × Str)} {s0 : Str} {t : XK → TE} {t3 : E3} (ht : ∀ E : XK, Lift K (potT p cc (P :: Ts)) (fun cls d _ H => E cls d H) (t E) t3) :
    Lift K (potT p cc (P :: Ts)) W (LamX.tLam (P :: Ts) (TTwhy K l s0) t) (why4 (PySem.W.exmOne K) l s0 t3) := by
  have e : why4 (PySem.W.exmOne K) l s0 t3 = why3 K l s0 t3 := by
    unfold why4 why3
    funext σ Q X
    congr 1
    funext x
    exact whyX4_eq l
  rw [e]
  exact lift_lam ht
/-- the law's promise, its table of codes empty -/
def spLawT (K : PySem.W.Frag) (PL : Addr) : Sp := fun vs H Q _ => ∃ (a : Addr) (ns : List Int), vs = [.ref a] ∧ SqL K H a (ns.map V.int) ∧ H PL = some (.tbl #[]) ∧ ∀ H', Q (.bl true) H'
def no3 : G3 (Option Int) := fun _ Q _ => Q none
theorem ifs_by {t : B3} {x y : S3} {N : N3} {σ : List Sl} (b : Bool) (ht : ∀ Q X, Q b → t σ Q X) (h : if b = true then x N σ else y N σ) : ifs3 t x y N σ := ht _ _ h
theorem for_by {s : A3} {g : TG3} {tb : S3} {N : N3} {σ : List Sl} (P : List T → Prop) (hs : ∀ Q X, (∀ ds, P ds → Q ds) → s σ Q X) (k : ∀ ds, P ds → loop3 g tb N ds σ) : for3 s g tb N σ := hs _ _ k
end M3
namespace M3
open PySem L2
/-! ### what the top wrote -/
def TreeAt (K : PySem.W.Frag) (t : T) (u : Value) : Prop := ∃ v, RelV v u ∧ ∀ H, Rep K H v t
theorem treeAt_int {K : PySem.W.Frag} {i : Int} {t : Tok} : TreeAt K (.int i) (.int i t) := ⟨.int i, ⟨t, rfl⟩, fun _ => .int i⟩
theorem treeAt_str {K : PySem.W.Frag} {i : Str} {t : Tok} : TreeAt K (.str i) (.str i t) := ⟨.str i, ⟨t, rfl⟩, fun _ => .str i⟩
theorem treeAt_bl {K : PySem.W.Frag} {b : Bool} : TreeAt K (.bl b) (.bool b) := ⟨.bl b, rfl, fun _ => .bl b⟩
theorem treeAt_non {K : PySem.W.Frag} : TreeAt K .non .none := ⟨.non, rfl, fun _ => .non⟩
inductive TreesAt (K : PySem.W.Frag) : List T → List Value → Prop where
  | nil : TreesAt K [] []
  | cons {t : T} {u : Value} {ts : List T} {us : List Value} : TreeAt K t u → TreesAt K ts us → TreesAt K (t :: ts) (u :: us)
theorem TreesAt.vals {K : PySem.W.Frag} : ∀ {ts : List T} {us : List Value}, TreesAt K ts us → ∃ vs, Vals vs us ∧ ∀ H, RepL K H vs ts
  | _, _, .nil => ⟨[], .nil, fun _ => .nil⟩
  | _, _, .cons ⟨v, h1, h2⟩ q => by
    obtain ⟨vs, q1, q2⟩ := TreesAt.vals q
    exact ⟨v :: vs, .cons h1 q1, fun H => .cons (h2 H) (q2 H)⟩
theorem treeAt_tup {K : PySem.W.Frag} {ts : List T} {us : List Value} {a : Addr} {o : Obj} {its : Array Value} {n : Nat} (h : K.lookup a = some o) (hc : o.cls = .type "tuple") (hd : o.data = .seq its n) (hs : its.size ≤ sizeLine) (he : its.toList = us) (r : TreesAt K ts us) (hn : o.dict = none := by rfl) : TreeAt K (.tup ts) (.ref a) := by
  obtain ⟨vs, q1, q2⟩ := r.vals
  subst he
  exact ⟨.ref a, rfl, fun H => .mkT (.inr ⟨o, its, n, h, hn, hc, hd, hs, q1⟩) (q2 H)⟩
theorem exm_mk {K : PySem.W.Frag} {cls : Value} {C : Addr} {b : Bool} (hb : PySem.W.subIn K (.ref C) (.type "BaseException") = some true) (hi : PySem.W.isClsIn K C = true) (ht : PySem.W.typeIn K (.ref C) = some (.type "type")) (hs : PySem.W.subIn K cls (.ref C) = some b) : PySem.W.exmOne K cls (.ref C) = some b := by
  have h1 : (PySem.W.subIn K (.ref C) (.type "BaseException") == some true) = true := by rw [hb]; rfl
  have h2 : ((PySem.W.clsIn K C).isSome && PySem.W.typeIn K (.ref C) == some (.type "type")) = true := by
    have hi' : (PySem.W.clsIn K C).isSome = true := hi
    rw [hi', ht]
    rfl
  show (if (PySem.W.subIn K (.ref C) (.type "BaseException") == some true) = true then PySem.W.kitCls K cls (.ref C) else none) = some b
  rw [if_pos h1]
  show (if ((PySem.W.clsIn K C).isSome && PySem.W.typeIn K (.ref C) == some (.type "type")) = true then PySem.W.subIn K cls (.ref C) else none) = some b
  rw [if_pos h2, hs]
theorem no_of_type {K : PySem.W.Frag} {a : Addr} (h : PySem.W.typeIn K (.ref a) = none) : K.lookup a = none := by
  have h : (K.lookup a).map (·.cls) = none := h
  cases e : K.lookup a with
  | none => rfl
  | some o => rw [e] at h; cases h
theorem defAt_mk {K : PySem.W.Frag} {mg : Str → Option Value} {x qual : Str} {st : Stmt} {dts kts : List T} {kns : List Str} {f : Addr} {oc dV kV doc pm cdv ct : Value} {od an : Option Addr} {osl : Array (Option Value)} (hm : mg x = some (.ref f))
    (l : K.lookup f = some ⟨oc, od, .func (PySem.W.fnOf x qual (defArgs st) (defBody st) (defScope st) dV kV doc pm an cdv ct), osl⟩) (c : PySem.W.codeIn K cdv qual = true) (k : PySem.W.keepIn K (.ref f) = true)
    (hd : (dts = [] ∧ dV = .none) ∨ (dts ≠ [] ∧ ∃ (Ta : Addr) (o : Obj) (its : List Value) (n : Nat), dV = .ref Ta ∧ K.lookup Ta = some o ∧ o.data = .seq its.toArray n ∧ TreesAt K dts its))
    (hk : (kns = [] ∧ kts = []) ∨ ∃ (D : Addr) (us : List Value), kV = .ref D ∧ TreesAt K kts us ∧ kns.length = us.length ∧ ∀ q ∈ kns.zip us, PySem.W.nsIn K D q.1 = some (some q.2)) : DefAt K mg x qual st dts kns kts := by
  obtain ⟨dvs, h1, h2⟩ : ∃ dvs, (∀ H, RepL K H dvs dts) ∧ DflV K dV dvs := by
    rcases hd with ⟨rfl, rfl⟩ | ⟨hn, Ta, o, its, n, rfl, a1, a2, a3⟩
    · exact ⟨[], fun _ => .nil, .inl ⟨rfl, rfl⟩⟩
    · obtain ⟨vs, q1, q2⟩ := a3.vals
      exact ⟨vs, q2, .inr ⟨RepL.ne q2 hn, Ta, o, its, n, rfl, a1, a2, q1⟩⟩
  obtain ⟨kvs, h3, h4⟩ : ∃ kvs, (∀ H, RepL K H kvs kts) ∧ KwdV K kV (kns.zip kvs) := by
    rcases hk with ⟨rfl, rfl⟩ | ⟨D, us, rfl, a1, a2, a3⟩
    · exact ⟨[], fun _ => .nil, .inl rfl⟩
    · obtain ⟨vs, q1, q2⟩ := a1.vals
      refine ⟨vs, q2, .inr ⟨D, rfl, fun q hq => ?_⟩⟩
      obtain ⟨i, hi⟩ := List.getElem?_of_mem hq
      obtain ⟨i1, i2⟩ := List.getElem?_zip_eq_some.mp hi
      rcases vals_get (i := i) q1 with ⟨v, u, e1, e2, r⟩ | ⟨e1, _⟩
      · rw [i2] at e1
        cases e1
        refine ⟨u, a3 (q.1, u) (List.mem_of_getElem? (List.getElem?_zip_eq_some.mpr ⟨i1, e2⟩)), r⟩
      · rw [i2] at e1; cases e1
  exact ⟨f, _, dvs, kvs, h1, h3, ⟨⟨oc, od, dV, kV, doc, pm, an, cdv, ct, osl, rfl, l, c, h2, h4⟩, k⟩, hm⟩
end M3

/-! L4C: a star in targets; order of data; xs[::-1]. -/
namespace M3
open PySem PySem.Spec PyProof.Rows L2
/-! ### a star in targets -/
section
variable {prog : Program} {w : World} {A : Around} {E : Value → Shared → Prop} {s : Shared}
/-- what is left behind the walk of the iterator I: a new list of the middle -/
theorem star_end {I ax : Addr} {items : Array Value} {T : String} {St : Nat → Heap → Prop} {n i : Nat} {h1 : Heap} {Q : List Value → Shared → Prop}
    (hT : T = "str_ascii_iterator" ∨ T = "str_iterator" ∨ T = "list_iterator" ∨ T = "tuple_iterator") (wk : PySem.Walks prog w A.in1 I [I, ax] [I] items.size (fun i v => items[i]? = some v) St)
    (ty : ∀ i (u : Shared), St i u.heap → u.TypeIs (.ref I) T) (hst : St i h1) (hI : I < h1.objs.size) (hax : ax < h1.objs.size) (hIs : s.heap.get? I = none) (keep : ∀ b o, b ≠ I → s.heap.get? b = some o → h1.get? b = some o)
    (hi : i < n) (hn : n ≤ items.size + 1) (hz : items.size ≤ sizeLine)
    (hq : ∀ D h2 tk, (∀ b o, s.heap.get? b = some o → h2.get? b = some o) → s.heap.get? D = none → h2.get? D = some { cls := .type "list", data := .seq ((items.toList.drop i).take (items.size + 1 - n)).toArray } →
      Q (items.toList.take i ++ [.ref D] ++ (items.toList.drop i).drop (items.size + 1 - n)) { s with heap := h2, toks := tk }) :
    wpAny (model prog w) A (do
      let rest ← holding (items.toList.take i) (collect (.ref I))
      if rest.length < n - 1 - i then
        rule "unpack.star.too-few"
        raiseError "ValueError" s!"not enough values to unpack (expected at least {n - 1}, got {i + rest.length})"
      return items.toList.take i ++ [← newList (rest.take (rest.length - (n - 1 - i)))] ++ rest.drop (rest.length - (n - 1 - i))) Q E { s with heap := h1 } := by
  refine wpAny_bind (wpAny_holding (PySem.W.kun_collect (s := { s with heap := h1 }) (T := T) hT wk ty (k := i) (by omega) hst hI hax (fun h2 tk hk => ?_) hz))
  have l1 : (items.toList.drop i).length = items.size - i := by simp
  have l2 : (items.toList.drop i).length - (n - 1 - i) = items.size + 1 - n := by omega
  rw [if_neg (by omega)]
  show wpAny _ _ (newList _ >>= _) _ _ _
  rw [l2]
  have k2 : ∀ b o, s.heap.get? b = some o → h2.get? b = some o := fun b o e => by
    have nb : b ≠ I := fun z => by rw [z, hIs] at e; cases e
    exact hk b o nb (keep b o nb e)
  refine wpAny_bind (wpAny_newList ?_ ?_)
  · exact wpAny_pure (hq _ _ tk (fun b o e => Heap.get?_push_of_some _ (k2 b o e)) (by
      cases e : s.heap.get? h2.objs.size with
      | none => rfl
      | some o => exact absurd (Heap.lt_size (k2 _ _ e)) (Nat.lt_irrefl _)) (Heap.get?_push_size _ rfl))
  · rw [List.length_take, l1]
    omega
theorem star_tuple {l : Addr} {items : Array Value} {n i : Nat} {Q : List Value → Shared → Prop} (ht : PyProof.Rows.IsTup s.heap l items) (hh : A.handled = none) (hi : i < n) (hn : n ≤ items.size + 1) (hz : items.size ≤ sizeLine)
    (hq : ∀ D h2 tk, (∀ b o, s.heap.get? b = some o → h2.get? b = some o) → s.heap.get? D = none → h2.get? D = some { cls := .type "list", data := .seq ((items.toList.drop i).take (items.size + 1 - n)).toArray } →
      Q (items.toList.take i ++ [.ref D] ++ (items.toList.drop i).drop (items.size + 1 - n)) { s with heap := h2, toks := tk }) : wpAny (model prog w) A (unpackItems (.ref l) n (some i)) Q E s := by
  have ne : l ≠ s.heap.objs.size := by
    obtain ⟨o, e, _⟩ := ht
    exact Nat.ne_of_lt (Heap.lt_size e)
  unfold unpackItems notIterableAtAll
  refine wpAny_bind (wpAny_bind (wpAny_specialOf ht.typeIs PyProof.Rows.slot_tuple_iter.lookup (wpAny_pure ?_)))
  simp only [Bool.false_eq_true, if_false]
  refine wpAny_bind (wpAny_holding (PyProof.Rows.iter_tuple ht ?_))
  refine wpAny_bind (wpAny_holding (PyProof.Rows.draw_tuple ne i 0 _ _ ⟨_, Heap.get?_push_size _ rfl, rfl, rfl⟩ (ht.push _) (by omega) fun h1 it1 sb => ?_))
  have ht1 := (ht.push { cls := .type "tuple_iterator", data := .fields #[.ref l, .int 0 0] }).extBut sb.extBut ne
  rw [Nat.zero_add] at it1
  rw [List.drop_zero, if_neg (by rw [List.length_take, Array.length_toList]; omega)]
  refine star_end (s := s) (I := s.heap.objs.size) (ax := l) (T := "tuple_iterator") (.inr (.inr (.inr rfl))) (PySem.Walks.tuple (A := A.in1) hh s.heap.objs.size l ne items) (fun _ _ st => st.1.typeIs) ⟨it1, ht1⟩ ?_ ?_ ?_ ?_ hi hn hz hq
  · obtain ⟨o, e, _⟩ := it1
    exact Heap.lt_size e
  · obtain ⟨o, e, _⟩ := ht1
    exact Heap.lt_size e
  · cases e : s.heap.get? s.heap.objs.size with
    | none => rfl
    | some o => exact absurd (Heap.lt_size e) (Nat.lt_irrefl _)
  · exact fun b o nb e => sb.extBut b o nb (Heap.get?_push_of_some _ e)
end
/-- a, *b, c = v: i is the star's place among n targets -/
def gStar (K : PySem.W.Frag) (n i : Nat) (t : TGs) : TG := fun v σ H Q => ∃ a xs, v = .ref a ∧ SqT K H a xs ∧ i < n ∧ n ≤ xs.length + 1 ∧
  ∀ p, H p = none → t (xs.take i ++ [.ref p] ++ (xs.drop i).drop (xs.length + 1 - n)) σ (upd H p (.lst ((xs.drop i).take (xs.length + 1 - n)))) Q
section
variable {X : Cx} {K : PySem.W.Frag} {pos : Pos}
theorem vals_take : ∀ {vs : List V} {us : List Value} (n : Nat), Vals vs us → Vals (vs.take n) (us.take n)
  | _, _, 0, _ => .nil
  | _, _, _ + 1, .nil => .nil
  | _, _, n + 1, .cons r q => .cons r (vals_take n q)
theorem pgs_star {e : Expr} {es : List Expr} {t : TG} {u : TGs} {sp : Pos} (h1 : PG X e t) (h2 : PGs X es u) : PGs X (.Starred e sp :: es) (gCons t u) := by
  constructor
  rintro pins s σ H vs us Q I r ⟨v, vr, rfl, hw⟩
  cases r with
  | cons r rr =>
    show wpAny _ _ (assignInOrder (assign e X.env :: (assignEach es X.env).map (·.2)) _) _ _ _
    refine assignInOrder_cons (thn (h1.run pins s σ H _ _ _ I r hw) ?_)
    rintro _ s1 ⟨σ1, H1, I1, q1⟩
    exact h2.run pins s1 σ1 H1 _ _ Q I1 rr q1
theorem pg_star {es : List Expr} {k n i : Nat} {t : TGs} (hK : X.K = K) (hc : X.calm = true) (hp : PGs X es t) (hn : (assignEach es X.env).length = n := by rfl) (hst : (assignEach es X.env).findIdx? (·.1) = some i := by rfl) : PG X (.Tuple es k pos) (gStar K n i t) := by
  subst hK
  constructor
  rintro pins s σ H v u Q I r ⟨a, xs, rfl, hq, hi, hl, hw⟩
  cases r
  obtain ⟨its, rv, ht, hz⟩ := I.tuple hq
  have le : xs.length = its.length := rv.length
  rw [assign_Tuple]
  refine wpAny_bind (wpAny_standAt ?_)
  unfold unpack
  rw [hn, hst]
  refine wpAny_bind (wpAny_holding (star_tuple (items := its.toArray) ht (I.ok.hd hc) hi (by rw [List.size_toArray]; omega) (by rw [List.size_toArray]; omega) fun D h2 tk kp nD eD => ?_))
  rw [List.size_toArray, ← le] at eD ⊢
  have nH : H D = none := I.hok.gone nD
  refine hp.run pins _ σ _ _ _ Q (I.laidN (t' := tk) (o := .lst ((xs.drop i).take (xs.length + 1 - n))) kp nD nH ⟨?_, _, 0, vals_take _ (rv.drop i), by simpa using eD⟩) ?_ (hw D nH)
  · rw [List.length_take, List.length_drop]; omega
  · exact ((vals_take i rv).append (.cons (show RelV (V.ref D) (Value.ref D) from rfl) .nil)).append ((rv.drop i).drop _)
end
section
variable {K : PySem.W.Frag} {c : Cf} {ws : List Nat}
def gstar3 (n i : Nat) (r : List T → List Sl → (List Sl → Prop) → Prop) : TG3 := fun d σ Q => ob (asT d) fun ds => i < n ∧ n ≤ ds.length + 1 ∧ r (ds.take i ++ [.lst ((ds.drop i).take (ds.length + 1 - n))] ++ (ds.drop i).drop (ds.length + 1 - n)) σ Q
theorem lift_asgStar {W : WX} {ta : TE} {a : E3} {n i : Nat} {u : TGs} {u3 : List T → List Sl → (List Sl → Prop) → Prop} (ha : Lift K c W ta a) (h : LiftTgs K c ws u u3) : LiftS K c W (tAsg ta (gStar K n i u)) (asg3 a (gstar3 n i u3)) := by
  intro N σ3 hh Hb G A σ H D R Z
  refine ha _ _ _ hh Hb G A σ H _ R (fun v d H' L r q => ?_) (fun cls dd x H' L r q => Z.xn _ _ _ _ _ _ _ (R.le L) r q)
  obtain ⟨ds, ed, hi, hl, hh1⟩ := ob_iff.mp q
  cases asT_is ed
  obtain ⟨ad, vs, rfl, hs, rl⟩ := r.tupI
  refine ⟨ad, vs, rfl, Same.sqT hid_same hs, hi, by rw [rl.length]; exact hl, fun p hp => ?_⟩
  have R1 := R.le L
  have L2 := R1.new (o := .lst ((vs.drop i).take (vs.length + 1 - n))) hp
  have rl' := rl.mono L2.vis
  refine h _ _ _ hh1 Hb G A σ _ _ _ (R1.le L2) ?_ (fun A' σ3' σ' H2 R2 _ _ q2 => Z.nx _ _ _ _ R2 q2)
  have e := rl.length
  rw [← e]
  exact ((rl'.take i).append (.cons (.mkL (R1.newAt hp) ((rl'.drop i).take _)) .nil)).append ((rl'.drop i).drop _)
end
/-! ### order of data -/
section
variable {X : Cx} {K : PySem.W.Frag}
theorem depth_of {d : PyData} (h : SeqAt.shaped d = true) : d.depth ≤ 64 := by
  have h : (d.canLay0 && decide (d.depth ≤ 64)) = true := h
  rw [Bool.and_eq_true] at h
  exact of_decide_eq_true h.2
def rLtD (K : PySem.W.Frag) : R2 := fun x y H Q => ∃ d e, Dp K H x d ∧ Dp K H y e ∧ PySem.W.alike d e = true ∧ d ≠ .none ∧ SeqAt.shaped d = true ∧ Q (.bl (PySem.W.dataLt d e)) H
theorem op_ltD (h : X.K = K) (hu : X.A.units + 64 < cLine) : OpR X (compareOp .Lt) (rLtD K) := by
  subst h
  rintro pins s σ H x y v u Q I rx ry ⟨d, e, hd, he, ha, hn, sd, q⟩
  obtain ⟨as, r1⟩ := Dp.reads I d x v hd rx
  obtain ⟨bs, r2⟩ := Dp.reads I e y u he ry
  exact PySem.W.lt_data r1 r2 ha hn (by have := depth_of sd; omega) ⟨.bl _, H, I, rfl, q⟩
def ltD3 : T → T → (T → Prop) → Prop := fun x y Q => ob (dat x) fun d => ob (dat y) fun e => PySem.W.alike d e = true ∧ d ≠ .none ∧ SeqAt.shaped d = true ∧ Q (.bl (PySem.W.dataLt d e))
theorem rl_ltD : RL2 K (rLtD K) ltD3 := by
  intro c x y Q3 hh Hb G A σ3 σ H vx vy Q R rx ry k
  obtain ⟨d, ed, h1⟩ := ob_iff.mp hh
  obtain ⟨e, ee, s1, s2, s3, q⟩ := ob_iff.mp h1
  exact ⟨d, e, dp_of hid_same _ _ _ rx ed, dp_of hid_same _ _ _ ry ee, s1, s2, s3, k _ _ H (Le.refl R.inv) (.bl _) q⟩
abbrev rLtP (K : PySem.W.Frag) : R2 := fun x y H Q => rI0 (fun i j => .bl (decide (i < j))) x y H Q ∨ rLtD K x y H Q
theorem op_ltP (h : X.K = K) (hu : X.A.units + 64 < cLine) : OpR X (compareOp .Lt) (rLtP K) := OpR.or op_lt (op_ltD h hu)
def ltP (x y : T) (Q : T → Prop) : Prop := match x, y with
  | .int i, .int j => Q (.bl (decide (i < j)))
  | x, y => ltD3 x y Q
theorem rl_ltP : RL2 K (rLtP K) ltP := by
  refine RL2.or2 rl_lt rl_ltD fun x y Q h => ?_
  cases x <;> cases y <;> first | exact .inl h | exact .inr h
def rGtD (K : PySem.W.Frag) : R2 := fun x y H Q => ∃ d e, Dp K H x d ∧ Dp K H y e ∧ PySem.W.alike d e = true ∧ d ≠ .none ∧ SeqAt.shaped d = true ∧ Q (.bl (PySem.W.dataLt e d)) H
theorem op_gtD (h : X.K = K) (hu : X.A.units + 64 < cLine) : OpR X (compareOp .Gt) (rGtD K) := by
  subst h
  rintro pins s σ H x y v u Q I rx ry ⟨d, e, hd, he, ha, hn, sd, q⟩
  obtain ⟨as, r1⟩ := Dp.reads I d x v hd rx
  obtain ⟨bs, r2⟩ := Dp.reads I e y u he ry
  exact PySem.W.gt_data r1 r2 ha hn (by have := depth_of sd; omega) ⟨.bl _, H, I, rfl, q⟩
def gtD3 : T → T → (T → Prop) → Prop := fun x y Q => ob (dat x) fun d => ob (dat y) fun e => PySem.W.alike d e = true ∧ d ≠ .none ∧ SeqAt.shaped d = true ∧ Q (.bl (PySem.W.dataLt e d))
theorem rl_gtD : RL2 K (rGtD K) gtD3 := by
  intro c x y Q3 hh Hb G A σ3 σ H vx vy Q R rx ry k
  obtain ⟨d, ed, h1⟩ := ob_iff.mp hh
  obtain ⟨e, ee, s1, s2, s3, q⟩ := ob_iff.mp h1
  exact ⟨d, e, dp_of hid_same _ _ _ rx ed, dp_of hid_same _ _ _ ry ee, s1, s2, s3, k _ _ H (Le.refl R.inv) (.bl _) q⟩
abbrev rGtP (K : PySem.W.Frag) : R2 := fun x y H Q => rI0 (fun i j => .bl (decide (j < i))) x y H Q ∨ rGtD K x y H Q
theorem op_gtP (h : X.K = K) (hu : X.A.units + 64 < cLine) : OpR X (compareOp .Gt) (rGtP K) := OpR.or op_gt (op_gtD h hu)
def gtP (x y : T) (Q : T → Prop) : Prop := match x, y with
  | .int i, .int j => Q (.bl (decide (j < i)))
  | x, y => gtD3 x y Q
theorem rl_gtP : RL2 K (rGtP K) gtP := by
  refine RL2.or2 rl_gt rl_gtD fun x y Q h => ?_
  cases x <;> cases y <;> first | exact .inl h | exact .inr h
def rLeD (K : PySem.W.Frag) : R2 := fun x y H Q => ∃ d e, Dp K H x d ∧ Dp K H y e ∧ PySem.W.alike d e = true ∧ d ≠ .none ∧ SeqAt.shaped d = true ∧ Q (.bl (!PySem.W.dataLt e d)) H
theorem op_leD (h : X.K = K) (hu : X.A.units + 64 < cLine) : OpR X (compareOp .LtE) (rLeD K) := by
  subst h
  rintro pins s σ H x y v u Q I rx ry ⟨d, e, hd, he, ha, hn, sd, q⟩
  obtain ⟨as, r1⟩ := Dp.reads I d x v hd rx
  obtain ⟨bs, r2⟩ := Dp.reads I e y u he ry
  exact PySem.W.le_data r1 r2 ha hn (by have := depth_of sd; omega) ⟨.bl _, H, I, rfl, q⟩
def leD3 : T → T → (T → Prop) → Prop := fun x y Q => ob (dat x) fun d => ob (dat y) fun e => PySem.W.alike d e = true ∧ d ≠ .none ∧ SeqAt.shaped d = true ∧ Q (.bl (!PySem.W.dataLt e d))
theorem rl_leD : RL2 K (rLeD K) leD3 := by
  intro c x y Q3 hh Hb G A σ3 σ H vx vy Q R rx ry k
  obtain ⟨d, ed, h1⟩ := ob_iff.mp hh
  obtain ⟨e, ee, s1, s2, s3, q⟩ := ob_iff.mp h1
  exact ⟨d, e, dp_of hid_same _ _ _ rx ed, dp_of hid_same _ _ _ ry ee, s1, s2, s3, k _ _ H (Le.refl R.inv) (.bl _) q⟩
abbrev rLeP (K : PySem.W.Frag) : R2 := fun x y H Q => rI0 (fun i j => .bl (decide (i ≤ j))) x y H Q ∨ rLeD K x y H Q
theorem op_leP (h : X.K = K) (hu : X.A.units + 64 < cLine) : OpR X (compareOp .LtE) (rLeP K) := OpR.or op_le (op_leD h hu)
def leP (x y : T) (Q : T → Prop) : Prop := match x, y with
  | .int i, .int j => Q (.bl (decide (i ≤ j)))
  | x, y => leD3 x y Q
theorem rl_leP : RL2 K (rLeP K) leP := by
  refine RL2.or2 rl_le rl_leD fun x y Q h => ?_
  cases x <;> cases y <;> first | exact .inl h | exact .inr h
def rGeD (K : PySem.W.Frag) : R2 := fun x y H Q => ∃ d e, Dp K H x d ∧ Dp K H y e ∧ PySem.W.alike d e = true ∧ d ≠ .none ∧ SeqAt.shaped d = true ∧ Q (.bl (!PySem.W.dataLt d e)) H
theorem op_geD (h : X.K = K) (hu : X.A.units + 64 < cLine) : OpR X (compareOp .GtE) (rGeD K) := by
  subst h
  rintro pins s σ H x y v u Q I rx ry ⟨d, e, hd, he, ha, hn, sd, q⟩
  obtain ⟨as, r1⟩ := Dp.reads I d x v hd rx
  obtain ⟨bs, r2⟩ := Dp.reads I e y u he ry
  exact PySem.W.ge_data r1 r2 ha hn (by have := depth_of sd; omega) ⟨.bl _, H, I, rfl, q⟩
def geD3 : T → T → (T → Prop) → Prop := fun x y Q => ob (dat x) fun d => ob (dat y) fun e => PySem.W.alike d e = true ∧ d ≠ .none ∧ SeqAt.shaped d = true ∧ Q (.bl (!PySem.W.dataLt d e))
theorem rl_geD : RL2 K (rGeD K) geD3 := by
  intro c x y Q3 hh Hb G A σ3 σ H vx vy Q R rx ry k
  obtain ⟨d, ed, h1⟩ := ob_iff.mp hh
  obtain ⟨e, ee, s1, s2, s3, q⟩ := ob_iff.mp h1
  exact ⟨d, e, dp_of hid_same _ _ _ rx ed, dp_of hid_same _ _ _ ry ee, s1, s2, s3, k _ _ H (Le.refl R.inv) (.bl _) q⟩
abbrev rGeP (K : PySem.W.Frag) : R2 := fun x y H Q => rI0 (fun i j => .bl (decide (j ≤ i))) x y H Q ∨ rGeD K x y H Q
theorem op_geP (h : X.K = K) (hu : X.A.units + 64 < cLine) : OpR X (compareOp .GtE) (rGeP K) := OpR.or op_ge (op_geD h hu)
def geP (x y : T) (Q : T → Prop) : Prop := match x, y with
  | .int i, .int j => Q (.bl (decide (j ≤ i)))
  | x, y => geD3 x y Q
theorem rl_geP : RL2 K (rGeP K) geP := by
  refine RL2.or2 rl_ge rl_geD fun x y Q h => ?_
  cases x <;> cases y <;> first | exact .inl h | exact .inr h
/-! ### xs[::-1] -/
theorem pe_rev {e : Expr} {te : TE} {k : Nat} {p1 p2 p3 pos : Pos} (h : X.K = K) (he : PE X e te) : PE X (.Subscript e (.Slice none none (some (.UnaryOp .USub (.Constant (.int 1) k p1) p2)) p3) pos) (tRevL K te) := h ▸ pe_revL he
def rev3 (a : E3) : E3 := fun σ Q X => a σ (fun x => ob (asL x) fun xs => Q (.lst xs.reverse)) X
theorem lift_rev {c : Cf} {W : WX} {ta : TE} {a : E3} (ha : Lift K c W ta a) : Lift K c W (tRevL K ta) (rev3 a) := by
  intro σ3 Q3 X h Hb G A σ H Q R k e
  refine ha _ _ _ h Hb G A σ H _ R (fun v d H1 L1 r q => ?_) e
  obtain ⟨xs, ex, q1⟩ := ob_iff.mp q
  cases asL_is ex
  obtain ⟨p, vs, rfl, hp, rl⟩ := r.lstI
  refine ⟨p, vs, rfl, SqL.of (hid_same _ _ hp), fun D hD => ?_⟩
  have R1 := R.le L1
  have L2 := R1.new (o := .lst vs.reverse) hD
  exact k _ _ _ (L1.trans L2) (.mkL (R1.newAt hD) (RepL.rev (rl.mono L2.vis))) q1
end
end M3

/-! L4D: lists of one's own: made, changed, then given away. -/
namespace M3
open PySem L2
def ownL (σ : List Sl) (i : Nat) : Option (List T) := match σ[i]? with | some (.own (.lst xs)) => some xs | _ => none
def thaw (σ : List Sl) (i : Nat) : List Sl := match σ[i]? with | some (.own (.lst xs)) => σ.set i (.val (.lst xs)) | _ => σ
def isTup : T → Bool
  | .tup _ => true
  | .dic _ => true
  | _ => false
theorem ownL_is {σ : List Sl} {i : Nat} {xs : List T} (h : ownL σ i = some xs) : σ[i]? = some (.own (.lst xs)) := by
  unfold ownL at h
  split at h
  · cases h; assumption
  · cases h
theorem addrs_one : ∀ {B : List (Option Addr)} {i j : Nat} {p : Addr}, (addrs B).Nodup → B[i]? = some (some p) → B[j]? = some (some p) → i = j
  | [], i, j, p, _, h, _ => by simp at h
  | b :: B, 0, 0, p, _, _, _ => rfl
  | b :: B, 0, j + 1, p, hN, h1, h2 => by
    simp at h1 h2
    subst h1
    exact absurd (mem_addrs.mpr (List.mem_of_getElem? h2)) (List.nodup_cons.mp (show (p :: addrs B).Nodup from hN)).1
  | b :: B, i + 1, 0, p, hN, h1, h2 => by
    simp at h1 h2
    subst h2
    exact absurd (mem_addrs.mpr (List.mem_of_getElem? h1)) (List.nodup_cons.mp (show (p :: addrs B).Nodup from hN)).1
  | b :: B, i + 1, j + 1, p, hN, h1, h2 => by
    simp at h1 h2
    have hN' : (addrs B).Nodup := by
      cases b with
      | none => exact hN
      | some q => exact (List.nodup_cons.mp (show (q :: addrs B).Nodup from hN)).2
    rw [addrs_one hN' h1 h2]
theorem addrs_none {B : List (Option Addr)} {i : Nat} {p : Addr} (hN : (addrs B).Nodup) (h : B[i]? = some (some p)) : p ∉ addrs (B.set i none) := fun z => by
  obtain ⟨j, hj⟩ := List.getElem?_of_mem (mem_addrs.mp z)
  rcases getElem?_set_cases hj with ⟨_, e, _⟩ | ⟨e, hj2⟩
  · cases e
  · exact e (addrs_one hN h hj2)
theorem addrs_some_sub {B : List (Option Addr)} {i : Nat} {p : Addr} : ∀ a ∈ addrs (B.set i (some p)), a = p ∨ a ∈ addrs B := fun a z => by
  obtain ⟨j, hj⟩ := List.getElem?_of_mem (mem_addrs.mp z)
  rcases getElem?_set_cases hj with ⟨_, e, _⟩ | ⟨_, e⟩
  · cases e; exact .inl rfl
  · exact .inr (mem_addrs.mpr (List.mem_of_getElem? e))
theorem nodup_some : ∀ {B : List (Option Addr)} {i : Nat} {p : Addr}, (addrs B).Nodup → p ∉ addrs B → (addrs (B.set i (some p))).Nodup
  | [], i, p, h, _ => by simpa using h
  | none :: B, 0, p, h, n => List.nodup_cons.mpr ⟨n, h⟩
  | some a :: B, 0, p, h, n => List.nodup_cons.mpr ⟨fun z => n (List.mem_cons_of_mem _ z), (List.nodup_cons.mp (show (a :: addrs B).Nodup from h)).2⟩
  | none :: B, i + 1, p, h, n => nodup_some (B := B) (i := i) h n
  | some a :: B, i + 1, p, h, n => by
    have h' := List.nodup_cons.mp (show (a :: addrs B).Nodup from h)
    have n' : a ≠ p ∧ p ∉ addrs B := ⟨fun z => n (by rw [← z]; exact List.mem_cons_self ..), fun z => n (List.mem_cons_of_mem _ z)⟩
    refine List.nodup_cons.mpr ⟨fun z => ?_, nodup_some (B := B) (i := i) h'.2 n'.2⟩
    rcases addrs_some_sub a z with e | e
    · exact n'.1 e
    · exact h'.1 e
section
variable {K : PySem.W.Frag} {c : Cf} {Hb H H' : Hp} {G : List Addr} {A : List (Option Addr)} {σ3 : List Sl} {σ : St}
theorem R3.ownGet (r : R3 K c Hb G A σ3 σ H) {i : Nat} {t : T} (h : σ3[i]? = some (.own t)) : ∃ a, A[i]? = some (some a) ∧ σ[i]? = some (some (.ref a)) ∧ OwnRep K (hid (c.S G A) H) H a t := by
  have hl : i < σ3.length := (List.getElem?_eq_some_iff.mp h).1
  have h1 : i < A.length := by rw [r.l1]; exact hl
  have h2 : i < σ.length := by rw [r.l2]; exact hl
  obtain ⟨a, e1, e2, q⟩ := r.at_ i _ _ _ h (List.getElem?_eq_getElem h1) (List.getElem?_eq_getElem h2)
  exact ⟨a, by rw [List.getElem?_eq_getElem h1, e1], by rw [List.getElem?_eq_getElem h2, e2], q⟩
/-- it is given away -/
theorem R3.freeze (r : R3 K c Hb G A σ3 σ H) {i : Nat} {t : T} (h : σ3[i]? = some (.own t)) (ht : isTup t = false) : R3 K c Hb G (A.set i none) (σ3.set i (.val t)) σ H := by
  obtain ⟨a, hA, hσ, q⟩ := r.ownGet h
  have sub : Same (hid (c.S G A) H) (hid (c.S G (A.set i none)) H) := hid_mono (S_sub addrs_set_sub)
  have ha : a ∈ addrs A := mem_addrs.mpr (List.mem_of_getElem? hA)
  have na : a ∉ c.S G (A.set i none) := fun z => by
    rcases mem_S.mp z with z | z | z
    · exact r.ns a ha (List.mem_append.mpr (.inl z))
    · exact r.ns a ha (List.mem_append.mpr (.inr z))
    · exact addrs_none r.nd hA z
  refine ⟨r.inv, Same.trans r.base sub, r.gk, r.gv, nodup_filterMap_set (A := A) r.nd, fun b hb => r.ns b (addrs_set_sub b hb), by rw [List.length_set, List.length_set, r.l1], by rw [List.length_set, r.l2], ?_⟩
  intro j s o x h1 h2 h3
  rcases getElem?_set_cases h1 with ⟨e, e1, _⟩ | ⟨e, e1⟩
  · subst e
    subst e1
    rcases getElem?_set_cases h2 with ⟨_, e2, _⟩ | ⟨e2, _⟩
    · subst e2
      rw [hσ] at h3
      cases h3
      refine ⟨rfl, _, rfl, ?_⟩
      cases t with
      | lst xs =>
        obtain ⟨vs, q1, q2⟩ := q
        exact .mkL (hid_mk q1 na) (q2.mono sub)
      | dic kvs => cases ht
      | tup xs => cases ht
      | _ => exact q.elim
    · exact absurd rfl e2
  · rw [List.getElem?_set_ne e] at h2
    have z := r.at_ j s o x e1 h2 h3
    cases s with
    | no => exact z
    | val t => obtain ⟨e, v, e2, q⟩ := z; exact ⟨e, v, e2, q.mono sub⟩
    | own t => obtain ⟨a, e, e2, q⟩ := z; exact ⟨a, e, e2, q.mono sub rfl⟩
theorem R3.thaw (r : R3 K c Hb G A σ3 σ H) (i : Nat) : ∃ A', R3 K c Hb G A' (M3.thaw σ3 i) σ H := by
  unfold M3.thaw
  split
  · rename_i t h
    exact ⟨_, r.freeze h rfl⟩
  · exact ⟨_, r⟩
/-- its object is another one -/
theorem R3.ownAs (r : R3 K c Hb G A σ3 σ H) {i : Nat} {a : Addr} {t u : T} {o o' : HO} (h : σ3[i]? = some (.own t)) (hA : A[i]? = some (some a)) (ha : H a = some o) (hx : ∀ φ, o ≠ .ext φ) (q : OwnRep K (hid (c.S G A) H) (upd H a o') a u) :
    R3 K c Hb G A (σ3.set i (.own u)) σ (upd H a o') := by
  have hm : a ∈ addrs A := mem_addrs.mpr (List.mem_of_getElem? hA)
  have hS : a ∈ c.S G A := mem_S.mpr (.inr (.inr hm))
  have n0 : ∀ b ∈ c.S0 ++ G, b ≠ a := fun b hb z => r.ns a hm (by rw [← z]; exact hb)
  refine ⟨c.st H _ (fun b hb => by rw [upd_ne (n0 b (List.mem_append.mpr (.inl hb)))]) (fun b φ e => by rw [upd_ne (ne_of e ha (fun z => hx _ z.symm))]; exact e) r.inv, by rw [hid_upd_in hS]; exact r.base, fun b hb => ?_, fun b hb o e => ?_, r.nd, r.ns, by rw [List.length_set, r.l1], by rw [List.length_set, r.l2], ?_⟩
  · rw [upd_ne (n0 b (List.mem_append.mpr (.inr hb)))]
    exact r.gk b hb
  · rw [upd_ne (n0 b (List.mem_append.mpr (.inr hb)))] at e
    exact r.gv b hb o e
  · rw [hid_upd_in hS]
    intro j s o x h1 h2 h3
    rcases getElem?_set_cases h1 with ⟨e, e1, _⟩ | ⟨e, e1⟩
    · subst e
      subst e1
      rw [hA] at h2
      cases h2
      obtain ⟨b, hb, hσ, _⟩ := r.ownGet h
      rw [hA] at hb
      cases hb
      rw [hσ] at h3
      cases h3
      exact ⟨a, rfl, rfl, q⟩
    · have z := r.at_ j s o x e1 h2 h3
      cases s with
      | no => exact z
      | val t => exact z
      | own t =>
        obtain ⟨b, e3, e4, q'⟩ := z
        subst e3
        have nb : b ≠ a := fun z => e (addrs_one r.nd hA (by rw [← z]; exact h2))
        exact ⟨b, rfl, e4, q'.mono (Same.refl _) (upd_ne nb)⟩
theorem R3.ownPut (r : R3 K c Hb G A σ3 σ H) {i : Nat} {a : Addr} {ts us : List T} {ws vs : List V} (h : σ3[i]? = some (.own (.lst ts))) (hA : A[i]? = some (some a)) (ha : H a = some (.lst ws)) (q : RepL K (hid (c.S G A) H) vs us) :
    R3 K c Hb G A (σ3.set i (.own (.lst us))) σ (upd H a (.lst vs)) := r.ownAs h hA ha (fun φ z => by cases z) ⟨vs, upd_same, q⟩
/-- a new list D, hidden -/
structure FrD (K : PySem.W.Frag) (c : Cf) (G : List Addr) (A : List (Option Addr)) (H H' : Hp) (D : Addr) (vs : List V) (ds : List T) : Prop where
  nD : D ∉ c.S G A
  vis : Same (hid (c.S G A) H) (hid (D :: c.S G A) H')
  own : ∀ a ∈ G ++ addrs A, H' a = H a
  inv : c.I H'
  at_ : H' D = some (.lst vs)
  rep : RepL K (hid (D :: c.S G A) H') vs ds
theorem FrD.le (f : FrD K c G A H H' D vs ds) : Le c G A H H' := ⟨Same.trans f.vis (hid_mono fun a h => List.mem_cons_of_mem _ h), f.own, f.inv⟩
theorem R3.ownNew (r : R3 K c Hb G A σ3 σ H) {D : Addr} {vs : List V} {ds : List T} (f : FrD K c G A H H' D vs ds) (i : Nat) : R3 K c Hb G (A.set i (some D)) (σ3.set i (.own (.lst ds))) (σ.set i (some (.ref D))) H' := by
  have sub : ∀ a ∈ c.S G (A.set i (some D)), a ∈ D :: c.S G A := fun a z => by
    rcases mem_S.mp z with z | z | z
    · exact List.mem_cons_of_mem _ (mem_S.mpr (.inl z))
    · exact List.mem_cons_of_mem _ (mem_S.mpr (.inr (.inl z)))
    · rcases addrs_some_sub a z with z | z
      · rw [z]; exact List.mem_cons_self ..
      · exact List.mem_cons_of_mem _ (mem_S.mpr (.inr (.inr z)))
  have vis : Same (hid (c.S G A) H) (hid (c.S G (A.set i (some D))) H') := Same.trans f.vis (hid_mono sub)
  have nA : D ∉ addrs A := fun z => f.nD (mem_S.mpr (.inr (.inr z)))
  have n0 : D ∉ c.S0 ++ G := fun z => f.nD (by rcases List.mem_append.mp z with z | z; exact mem_S.mpr (.inl z); exact mem_S.mpr (.inr (.inl z)))
  refine ⟨f.inv, Same.trans r.base vis, fun a h => ⟨(f.own a (List.mem_append.mpr (.inl h))).trans (r.gk a h).1, by rw [f.own a (List.mem_append.mpr (.inl h))]; exact (r.gk a h).2.1, (r.gk a h).2.2⟩,
    fun a h o e => r.gv a h o (by rw [← f.own a (List.mem_append.mpr (.inl h))]; exact e), nodup_some r.nd nA, fun a h => ?_, by rw [List.length_set, List.length_set, r.l1], by rw [List.length_set, List.length_set, r.l2], ?_⟩
  · rcases addrs_some_sub a h with z | z
    · rw [z]; exact n0
    · exact r.ns a z
  · intro j s o x h1 h2 h3
    rcases getElem?_set_cases h1 with ⟨e, e1, _⟩ | ⟨e, e1⟩
    · subst e
      subst e1
      rcases getElem?_set_cases h2 with ⟨_, e2, _⟩ | ⟨e2, _⟩
      · subst e2
        rcases getElem?_set_cases h3 with ⟨_, e3, _⟩ | ⟨e3, _⟩
        · subst e3
          exact ⟨D, rfl, rfl, vs, f.at_, f.rep.mono (hid_mono sub)⟩
        · exact absurd rfl e3
      · exact absurd rfl e2
    · rw [List.getElem?_set_ne e] at h2 h3
      have z := r.at_ j s o x e1 h2 h3
      cases s with
      | no => exact z
      | val t => obtain ⟨e, v, e2, q⟩ := z; exact ⟨e, v, e2, q.mono vis⟩
      | own t =>
        obtain ⟨a, e, e2, q⟩ := z
        refine ⟨a, e, e2, q.mono vis (f.own a (List.mem_append.mpr (.inr (mem_addrs.mpr ?_))))⟩
        subst e
        exact List.mem_of_getElem? h2
theorem R3.frD (r : R3 K c Hb G A σ3 σ H) {p : Addr} {vs : List V} {ds : List T} (h : H p = none) (q : RepL K (hid (c.S G A) H) vs ds) : FrD K c G A H (upd H p (.lst vs)) p vs ds := by
  have L := r.new (o := .lst vs) h
  have v : Same (hid (c.S G A) H) (hid (p :: c.S G A) (upd H p (.lst vs))) := by
    rw [hid_upd_in (List.mem_cons_self ..)]
    intro a o e
    obtain ⟨e1, e2⟩ := hid_some e
    exact hid_mk e1 fun z => by
      rcases List.mem_cons.mp z with z | z
      · rw [z, h] at e1; cases e1
      · exact e2 z
  exact ⟨r.free h, v, L.own, L.inv, upd_same, q.mono v⟩
end
/-- an expression that makes a new list -/
def LiftFr (K : PySem.W.Frag) (c : Cf) (W : WX) (te : TE) (t : E3) : Prop :=
  ∀ σ3 Q3 X, t σ3 Q3 X → ∀ Hb G A σ H Q, R3 K c Hb G A σ3 σ H →
    (∀ D vs ds H', FrD K c G A H H' D vs ds → Q3 (.lst ds) → Q (.ref D) H') →
    (∀ cls dd x H', Le c G A H H' → XRep K (hid (c.S G A) H') cls dd x → X x → W cls dd σ H') → te σ H Q
def ownset3 (t : E3) (i : Nat) : S3 := fun N σ => t σ (fun d => ob (asL d) fun xs => N.nx (σ.set i (.own (.lst xs)))) (N.xn σ)
def frz3 (i : Nat) (x : S3) : S3 := fun N σ => x N (thaw σ i)
/-- x.append(e) -/
def app3 (i : Nat) (e : E3) : S3 := fun N σ => ob (ownL σ i) fun xs => e σ (fun d => xs.length < sizeLine ∧ N.nx (σ.set i (.own (.lst (xs ++ [d]))))) (N.xn σ)
/-- x.append(y.pop(e)) -/
def appPop3 (i j : Nat) (e : E3) : S3 := fun N σ => ob (ownL σ i) fun xs => ob (ownL σ j) fun ys => e σ (fun d => ob (asI d) fun k => i ≠ j ∧ (-(2 ^ 63) ≤ k ∧ k < 2 ^ 63) ∧ ob (seqIndex? k ys.length) fun m => ob ys[m]? fun y => xs.length < sizeLine ∧
  N.nx ((σ.set j (.own (.lst (ys.eraseIdx m)))).set i (.own (.lst (xs ++ [y]))))) (N.xn σ)
/-- len(x) -/
def lenO3 (i : Nat) : E3 := fun σ Q _ => ob (ownL σ i) fun xs => Q (.int xs.length)
section
variable {K : PySem.W.Frag} {c : Cf} {W : WX} {te : TE} {t e : E3} {i j : Nat}
theorem lift_frLst {ta : TA} {x : A3} (ha : LiftA K c W ta x) : LiftFr K c W (tLst ta) (lst3 x) := by
  intro σ3 Q3 X h Hb G A σ H Q R k e
  refine ha _ _ _ h Hb G A σ H _ R (fun vs xs H1 L1 rx hx => ?_) e
  refine ⟨by rw [rx.length]; exact hx.1, fun p hp => ?_⟩
  have f := (R.le L1).frD hp rx
  exact k p vs xs _ ⟨f.nD, Same.trans L1.vis f.vis, fun a ha => (f.own a ha).trans (L1.own a ha), f.inv, f.at_, f.rep⟩ hx.2
theorem lift_frList {ta : TA} {x : A3} (ha : LiftA K c W ta x) : LiftFr K c W (tCB (fun xs H Q => ∃ p ys, xs = [.ref p] ∧ (SqL K H p ys ∨ SqT K H p ys) ∧ ∀ l, H l = none → Q (.ref l) (upd H l (.lst ys))) ta) (call3 list3 x) := by
  intro σ3 Q3 X h Hb G A σ H Q R k e
  refine ha _ _ _ h Hb G A σ H _ R (fun vs xs H1 L1 rx hx => ?_) e
  obtain ⟨d, ed, hx1⟩ := ob_iff.mp hx
  obtain ⟨ys, hi, q⟩ := ob_iff.mp hx1
  cases one_is ed
  obtain ⟨v, rfl, r⟩ := repL_one rx
  have fin : ∀ (ws : List V), RepL K (hid (c.S G A) H1) ws ys → ∀ l, H1 l = none → Q (.ref l) (upd H1 l (.lst ws)) := fun ws rw' l hl => by
    have f := (R.le L1).frD hl rw'
    exact k l ws ys _ ⟨f.nD, Same.trans L1.vis f.vis, fun a ha => (f.own a ha).trans (L1.own a ha), f.inv, f.at_, f.rep⟩ q
  rcases items_cases hi with rfl | rfl
  · obtain ⟨a, ws, rfl, ha, rl⟩ := r.lstI
    exact ⟨a, ws, rfl, .inl (SqL.of (hid_same _ _ ha)), fin ws rl⟩
  · obtain ⟨a, ws, rfl, ha, rl⟩ := r.tupI
    exact ⟨a, ws, rfl, .inr (Same.sqT hid_same ha), fin ws rl⟩
theorem lift_ownset (h : LiftFr K c W te t) : LiftS K c W (tAsg te (gName i)) (ownset3 t i) := by
  intro N σ3 hh Hb G A σ H D R Z
  refine h _ _ _ hh Hb G A σ H _ R (fun d vs ds H' f q => ?_) (fun cls dd x H' L r q => Z.xn _ _ _ _ _ _ _ (R.le L) r q)
  exact Z.nx _ _ _ _ (R.ownNew f i) q
theorem lift_frz {ts : TS} {x : S3} (h : LiftS K c W ts x) : LiftS K c W ts (frz3 i x) := by
  intro N σ3 hh Hb G A σ H D R Z
  obtain ⟨A', R'⟩ := R.thaw i
  exact h _ _ hh Hb G A' σ H D R' Z
theorem lift_lenO : Lift K c W (tCB (fun xs H Q => ∃ x n, xs = [x] ∧ LenV K x H n ∧ Q (.int n) H) (tCons (tVar i) tNil)) (lenO3 i) := by
  intro σ3 Q3 X h Hb G A σ H Q R k e
  obtain ⟨xs, ex, q⟩ := ob_iff.mp h
  obtain ⟨a, hA, hσ, vs, h1, h2⟩ := R.ownGet (ownL_is ex)
  exact ⟨_, hσ, _, _, rfl, .inl ⟨vs, SqL.of h1, rfl⟩, k _ _ H (Le.refl R.inv) (by rw [h2.length]; exact .int _) q⟩
theorem lift_app {te : TE} {e : E3} (he : Lift K c W te e) : LiftS K c W (tDrop (tBM K "list" rAppend (tVar i) (tCons te tNil))) (app3 i e) := by
  intro N σ3 h Hb G A σ H D R Z
  obtain ⟨xs, ex, h⟩ := ob_iff.mp h
  obtain ⟨a, hA, hσ, vs, h1, h2⟩ := R.ownGet (ownL_is ex)
  refine ⟨_, hσ, .inl ⟨rfl, vs, SqL.of h1⟩, ?_⟩
  refine he _ _ _ h Hb G A σ H _ R (fun v d H1 L1 r q => ?_) (fun cls dd x H' L r q => Z.xn _ _ _ _ _ _ _ (R.le L) r q)
  have R1 := R.le L1
  have h3 : H1 a = some (.lst vs) := by rw [L1.own a (List.mem_append.mpr (.inr (mem_addrs.mpr (List.mem_of_getElem? hA))))]; exact h1
  have h4 := h2.mono L1.vis
  exact ⟨a, vs, v, rfl, rfl, h3, by rw [h4.length]; exact q.1, Z.nx _ _ _ _ (R1.ownPut (ownL_is ex) hA h3 (h4.append (.cons r .nil))) q.2⟩
theorem RepL.eraseIdx {H : Hp} : ∀ {vs : List V} {ts : List T} (m : Nat), RepL K H vs ts → RepL K H (vs.eraseIdx m) (ts.eraseIdx m)
  | _, _, _, .nil => .nil
  | _, _, 0, .cons _ q => q
  | _, _, m + 1, .cons r q => .cons r (RepL.eraseIdx m q)
theorem lift_appPop {te : TE} {e : E3} (he : Lift K c W te e) : LiftS K c W (tDrop (tBM K "list" rAppend (tVar i) (tCons (tBM K "list" rPopAt (tVar j) (tCons te tNil)) tNil))) (appPop3 i j e) := by
  intro N σ3 h Hb G A σ H D R Z
  obtain ⟨xs, ex, h⟩ := ob_iff.mp h
  obtain ⟨a, hA, hσ, vs, h1, h2⟩ := R.ownGet (ownL_is ex)
  refine ⟨_, hσ, .inl ⟨rfl, vs, SqL.of h1⟩, ?_⟩
  obtain ⟨ys, ey, h⟩ := ob_iff.mp h
  · obtain ⟨b, hB, hσb, ws, g1, g2⟩ := R.ownGet (ownL_is ey)
    refine ⟨_, hσb, .inl ⟨rfl, ws, SqL.of g1⟩, ?_⟩
    refine he _ _ _ h Hb G A σ H _ R (fun v d H1 L1 r q => ?_) (fun cls dd x H' L r q => Z.xn _ _ _ _ _ _ _ (R.le L) r q)
    obtain ⟨n, en, q1⟩ := ob_iff.mp q
    obtain ⟨nij, nb, q2⟩ := q1
    obtain ⟨m, em, q3⟩ := ob_iff.mp q2
    obtain ⟨y, hy, hl, q4⟩ := ob_iff.mp q3
    cases asI_is en
    cases r.intI
    have R1 := R.le L1
    have k1 : H1 a = some (.lst vs) := by rw [L1.own a (List.mem_append.mpr (.inr (mem_addrs.mpr (List.mem_of_getElem? hA))))]; exact h1
    have k2 : H1 b = some (.lst ws) := by rw [L1.own b (List.mem_append.mpr (.inr (mem_addrs.mpr (List.mem_of_getElem? hB))))]; exact g1
    have h4 := h2.mono L1.vis
    have g4 := g2.mono L1.vis
    obtain ⟨vy, evy, ry⟩ := g4.get hy
    have nab : a ≠ b := fun z => nij (addrs_one R.nd hA (by rw [z]; exact hB))
    have R2 := R1.ownPut (ownL_is ey) hB k2 (RepL.eraseIdx m g4)
    have hS : b ∈ c.S G A := mem_S.mpr (.inr (.inr (mem_addrs.mpr (List.mem_of_getElem? hB))))
    have k3 : (upd H1 b (.lst (ws.eraseIdx m))) a = some (.lst vs) := by rw [upd_ne nab]; exact k1
    have e3 : (σ3.set j (.own (.lst (ys.eraseIdx m))))[i]? = some (.own (.lst xs)) := by rw [List.getElem?_set_ne (fun z => nij z.symm)]; exact ownL_is ex
    have R3' := R2.ownPut e3 hA k3 (vs := vs ++ [vy]) (us := xs ++ [y]) (by rw [hid_upd_in hS]; exact h4.append (.cons ry .nil))
    exact ⟨b, ws, n, m, vy, rfl, rfl, k2, nb.1, nb.2, by rw [g4.length]; exact em, evy, a, vs, vy, rfl, rfl, k3, by rw [h4.length]; exact hl, Z.nx _ _ _ _ R3' q4⟩
end
end M3

/-! L4E: instances: fields read, __init__, made. -/
namespace M3
open PySem L2
def putF3 (f : Str) (v : T) : List (Str × T) → List (Str × T)
  | [] => [(f, v)]
  | (g, x) :: r => if g = f then (g, v) :: r else (g, x) :: putF3 f v r
def asIns : T → Option (Addr × List (Str × T))
  | .ins C fs => some (C, fs)
  | _ => none
abbrev selfT (x C : Addr) (fs : List (Str × T)) : T := .tup [.ref x, .ins C fs]
def ownI (σ : List Sl) (i : Nat) : Option (Addr × Addr × List (Str × T)) := match σ[i]? with | some (.own (.tup [.ref x, .ins C fs])) => some (x, C, fs) | _ => none
theorem ownI_is {σ : List Sl} {i : Nat} {x C : Addr} {fs : List (Str × T)} (h : ownI σ i = some (x, C, fs)) : σ[i]? = some (.own (selfT x C fs)) := by
  unfold ownI at h
  split at h
  · cases h; assumption
  · cases h
theorem asIns_is {d : T} {C : Addr} {fs : List (Str × T)} (h : asIns d = some (C, fs)) : d = .ins C fs := by
  cases d <;> simp [asIns] at h
  obtain ⟨rfl, rfl⟩ := h
  rfl
/-- e.f -/
def fld3 (cl : List Addr) (f : Str) (a : E3) : E3 := fun σ Q X => a σ (fun d => ob (asIns d) fun p => p.1 ∈ cl ∧ ob (p.2.lookup f) Q) X
/-- self.f of what is being made -/
def fldO3 (cl : List Addr) (i : Nat) (f : Str) : E3 := fun σ Q X => ob (ownI σ i) fun p => p.2.1 ∈ cl ∧ ob (p.2.2.lookup f) Q
/-- self.f = e of what is being made -/
def setO3 (cl : List Addr) (i : Nat) (f : Str) (a : E3) : S3 := fun N σ => a σ (fun d => ob (ownI σ i) fun p => p.2.1 ∈ cl ∧ p.2.2.length < 1000 ∧ N.nx (σ.set i (.own (selfT p.1 p.2.1 (putF3 f d p.2.2))))) (N.xn σ)
section
variable {K : PySem.W.Frag} {c : Cf} {W : WX} {ta : TE} {a : E3} {X : Cx}
theorem lookup_rep {H : Hp} {f : Str} {t : T} : ∀ {fs : List (Str × V)} {ts : List (Str × T)}, fs.map (·.1) = ts.map (·.1) → RepL K H (fs.map (·.2)) (ts.map (·.2)) → ts.lookup f = some t → ∃ v, fs.lookup f = some v ∧ Rep K H v t
  | [], [], _, _, h => by cases h
  | [], _ :: _, h, _, _ => by cases h
  | _ :: _, [], h, _, _ => by cases h
  | (g, v) :: fs, (g', u) :: ts, h, r, hl => by
    have h1 : g = g' := by injection h
    have h2 : fs.map (·.1) = ts.map (·.1) := by injection h
    subst h1
    cases r with
    | cons r1 r2 =>
      unfold List.lookup at hl ⊢
      split at hl
      · cases hl
        exact ⟨v, rfl, r1⟩
      · exact lookup_rep h2 r2 hl
theorem putF_rep {H : Hp} {f : Str} {v : V} {t : T} (q : Rep K H v t) : ∀ {fs : List (Str × V)} {ts : List (Str × T)}, fs.map (·.1) = ts.map (·.1) → RepL K H (fs.map (·.2)) (ts.map (·.2)) → (putF f v fs).map (·.1) = (putF3 f t ts).map (·.1) ∧ RepL K H ((putF f v fs).map (·.2)) ((putF3 f t ts).map (·.2))
  | [], [], _, _ => ⟨rfl, .cons q .nil⟩
  | [], _ :: _, h, _ => by cases h
  | _ :: _, [], h, _ => by cases h
  | (g, x) :: fs, (g', y) :: ts, h, r => by
    have h1 : g = g' := by injection h
    have h2 : fs.map (·.1) = ts.map (·.1) := by injection h
    subst h1
    cases r with
    | cons r1 r2 =>
      obtain ⟨e1, e2⟩ := putF_rep q h2 r2
      unfold putF putF3
      split
      · exact ⟨by rw [List.map_cons, List.map_cons, h2], .cons q r2⟩
      · exact ⟨by rw [List.map_cons, List.map_cons, e1], .cons r1 e2⟩
theorem Rep.insI {H : Hp} {v : V} {C : Addr} {ts : List (Str × T)} (r : Rep K H v (.ins C ts)) : ∃ a dx fs, v = .ref a ∧ H a = some (.ins C dx fs) ∧ fs.map (·.1) = ts.map (·.1) ∧ RepL K H (fs.map (·.2)) (ts.map (·.2)) := by
  cases r with
  | ins h hk hr =>
    refine ⟨_, _, _, rfl, h, hk, repL_mk ?_ hr⟩
    have := congrArg List.length hk
    simpa using this
theorem pe_fldK {e : Expr} {f : Str} {pos : Pos} (h : X.K = K) (he : PE X e ta) (hb : attributeBase e f X.env (eval e X.env) = eval e X.env) : PE X (.Attribute e f pos) (tFld K ta f) := h ▸ pe_fld he hb
theorem lift_fld {cl : List Addr} {f : Str} (hC : ∀ C ∈ cl, Cls K C ∧ NoAttr K C f) (ha : Lift K c W ta a) : Lift K c W (tFld K ta f) (fld3 cl f a) := by
  intro σ3 Q3 X h Hb G A σ H Q R k e
  refine ha _ _ _ h Hb G A σ H _ R (fun v d H1 L1 r q => ?_) e
  obtain ⟨⟨C, ts⟩, ed, hc, q1⟩ := ob_iff.mp q
  obtain ⟨t, et, q2⟩ := ob_iff.mp q1
  cases asIns_is ed
  obtain ⟨p, dx, fs, rfl, hp, hk, hr⟩ := r.insI
  obtain ⟨u, eu, ru⟩ := lookup_rep hk hr et
  exact ⟨p, C, dx, fs, u, rfl, hid_same _ _ hp, (hC C hc).1, (hC C hc).2, eu, k _ _ H1 L1 ru q2⟩
theorem lift_fldO {cl : List Addr} {i : Nat} {f : Str} (hC : ∀ C ∈ cl, Cls K C ∧ NoAttr K C f) : Lift K c W (tFld K (tVar i) f) (fldO3 cl i f) := by
  intro σ3 Q3 X h Hb G A σ H Q R k e
  obtain ⟨⟨x, C, ts⟩, ed, hc, q1⟩ := ob_iff.mp h
  obtain ⟨t, et, q2⟩ := ob_iff.mp q1
  obtain ⟨p, hA, hσ, _, _, _, e0, e9, dx, fs, hp, hk, hr⟩ := R.ownGet (ownI_is ed)
  cases e0
  obtain ⟨u, eu, ru⟩ := lookup_rep hk hr et
  exact ⟨_, hσ, p, C, dx, fs, u, rfl, hp, (hC C hc).1, (hC C hc).2, eu, k _ _ H (Le.refl R.inv) ru q2⟩
theorem lift_setO {cl : List Addr} {i : Nat} {f : Str} (hC : ∀ C ∈ cl, Cls K C ∧ NoAttr K C f) (ha : Lift K c W ta a) : LiftS K c W (sFld K (tVar i) ta f) (setO3 cl i f a) := by
  intro N σ3 h Hb G A σ H D R Z
  refine ha _ _ _ h Hb G A σ H _ R (fun v d H1 L1 r q => ?_) (fun cls dd x H' L r q => Z.xn _ _ _ _ _ _ _ (R.le L) r q)
  obtain ⟨⟨x, C, ts⟩, ed, hc, hl, q1⟩ := ob_iff.mp q
  have R1 := R.le L1
  obtain ⟨p, hA, hσ, _, _, _, e0, e9, dx, fs, hp, hk, hr⟩ := R1.ownGet (ownI_is ed)
  cases e0
  obtain ⟨e1, e2⟩ := putF_rep (f := f) r hk hr
  have ll : fs.length = ts.length := by simpa using congrArg List.length hk
  exact ⟨_, hσ, p, C, dx, fs, rfl, hp, (hC C hc).1, (hC C hc).2, by rw [ll]; exact hl, Z.nx _ _ _ _ (R1.ownAs (u := selfT x C (putF3 f d ts)) (ownI_is ed) hA hp (fun φ z => by cases z) ⟨x, C, _, rfl, e9, dx, _, upd_same, e1, e2⟩) q1⟩
theorem ps_fldK {o value : Expr} {f : Str} {pos pos' : Pos} {to tv : TE} (h : X.K = K) (ha : PE X o to) (hv : PE X value tv) (hs : swapsWith value (some (.Attribute o f pos')) pos.line X.env = pure false) : PS X (.Assign [.Attribute o f pos'] value pos) (sFld K to tv f) := h ▸ ps_fld ha hv hs
end
/-! ### __init__ -/
/-- what __init__ promises: f is the making, from the arguments to the instance -/
def spI (K : PySem.W.Frag) (n : Nat) (C : Addr) (f : F3) : Sp := fun vs H Q E => ∃ S x dx ds vs', vs = .ref x :: vs' ∧ ds.length + 1 = n ∧ x ∉ S ∧ H x = some (.ins C dx []) ∧ RepL K (hid (x :: S) H) vs' ds ∧ (∀ a ∈ S, H a ≠ none) ∧ ∃ Q3 X, f ds Q3 X ∧
  (∀ d H', Same (hid (x :: S) H) (hid (x :: S) H') → (∀ a ∈ S, H' a = H a) → Rep K (hid S H') (.ref x) d → Q3 d → Q .non H') ∧
  (∀ cls dd xn H', Same (hid (x :: S) H) (hid (x :: S) H') → (∀ a ∈ S, H' a = H a) → XRep K (hid S H') cls dd xn → X xn → E cls dd H')
theorem spI_len {K : PySem.W.Frag} {n : Nat} {C : Addr} {f : F3} {ps : List Str} (h : ps.length = n) : ∀ vs H Q E, spI K n C f vs H Q E → vs.length = ps.length := by
  intro vs H Q E h'
  obtain ⟨S, x, dx, ds, vs', rfl, hl, _, _, r, _⟩ := h'
  rw [List.length_cons, r.length, hl, h]
theorem bodyI {K : PySem.W.Frag} {n : Nat} {C : Addr} {f : F3} {N : List Str} {t : TS} {x3 : S3} {W : WX} {vs : List V} {H : Hp} {Q : VK} {E : XK} (h : spI K n C f vs H Q E) (hN : 0 < N.length) (hW : ∀ cls dd σ H', E cls dd H' → W cls dd σ H')
    (lt : LiftS K cf0 W t x3) (hb : ∀ x ds Q3 X, ds.length + 1 = n → f ds Q3 X → x3 { nx := fun σ => ob (ownI σ 0) fun p => p.1 = x ∧ Q3 (.ins p.2.1 p.2.2), rt := fun _ => False, xn := fun _ => X } (Sl.own (selfT x C []) :: (ds.map Sl.val ++ List.replicate (N.length - (ds.length + 1)) Sl.no))) :
    t { nx := fun _ H' => Q .non H', rt := Q } (start N vs) H := by
  obtain ⟨S, x, dx, ds, vs', rfl, hl, nx, hx, r, hS, Q3, X, hf, hq, he⟩ := h
  have ll := r.length
  have R0 : R3 K cf0 (out [x] H) S (some x :: List.replicate (ds.length + (N.length - (ds.length + 1))) none) (Sl.own (selfT x C []) :: (ds.map Sl.val ++ List.replicate (N.length - (ds.length + 1)) Sl.no)) (start N (.ref x :: vs')) H := by
    have hA : addrs (some x :: List.replicate (ds.length + (N.length - (ds.length + 1))) none) = [x] := by
      unfold addrs
      rw [List.filterMap_cons]
      show x :: _ = _
      rw [List.filterMap_replicate_of_none rfl]
    have hSS : ∀ a, a ∈ cf0.S S (some x :: List.replicate (ds.length + (N.length - (ds.length + 1))) none) ↔ a ∈ x :: S := fun a => by
      rw [mem_S, hA]
      show a ∈ [] ∨ _ ↔ _
      simp [or_comm]
    have hh : hid (cf0.S S (some x :: List.replicate (ds.length + (N.length - (ds.length + 1))) none)) H = hid (x :: S) H := by
      funext a
      by_cases e : a ∈ x :: S
      · rw [hid_in e, hid_in ((hSS a).mpr e)]
      · unfold hid
        rw [out_out e, out_out (fun z => e ((hSS a).mp z))]
    refine ⟨trivial, ?_, fun a ha => ⟨by rw [out_out (fun z => nx (by rw [← List.mem_singleton.mp z]; exact ha))], hS a ha, fun z => by cases z⟩, fun _ _ _ _ => trivial, by rw [hA]; simp, fun a ha => ?_, by simp, by rw [start_eq]; simp [ll], ?_⟩
    · rw [hh]
      intro a o e
      obtain ⟨e1, e2, e3⟩ := hid_all e
      obtain ⟨e4, e5⟩ := out_some e1
      exact hid_mk e4 (fun z => by
        rcases List.mem_cons.mp z with z | z
        · exact e5 (by rw [z]; exact List.mem_singleton.mpr rfl)
        · exact e2 (by simpa [cf0] using z)) e3
    · rw [hA] at ha
      cases List.mem_singleton.mp ha
      show x ∉ [] ++ S
      simpa using nx
    · rw [hh, start_eq]
      intro i s o y h1 h2 h3
      cases i with
      | zero =>
        simp at h1 h2 h3
        subst h1 h2 h3
        exact ⟨x, rfl, rfl, x, C, [], rfl, rfl, dx, [], hx, rfl, .nil⟩
      | succ i =>
        simp only [List.getElem?_cons_succ, List.map_cons, List.cons_append, List.length_cons] at h1 h2 h3
        have ho : o = none := (List.mem_replicate.mp (List.mem_of_getElem? h2)).2
        subst ho
        by_cases hi : i < ds.length
        · rw [List.getElem?_append_left (by simpa using hi), List.getElem?_map] at h1
          rw [List.getElem?_append_left (by rw [List.length_map, ll]; exact hi), List.getElem?_map] at h3
          cases e1 : ds[i]? with
          | none => rw [e1] at h1; cases h1
          | some d =>
            rw [e1] at h1
            cases h1
            obtain ⟨v, e2, rv⟩ := r.get e1
            rw [e2] at h3
            cases h3
            exact ⟨rfl, v, rfl, rv⟩
        · rw [List.getElem?_append_right (by simpa using hi)] at h1
          have hs := (List.mem_replicate.mp (List.mem_of_getElem? h1)).2
          subst hs
          rfl
  have base : ∀ {A' : List (Option Addr)} {σ3' : List Sl} {σ' : St} {H' : Hp}, R3 K cf0 (out [x] H) S A' σ3' σ' H' → Same (hid (x :: S) H) (hid (cf0.S S A') H') := fun {A' σ3' σ' H'} R => by
    refine Same.trans ?_ R.base
    intro a o e
    obtain ⟨e1, e2, e3⟩ := hid_all e
    exact hid_mk (by rw [out_out (fun z => e2 (by rw [List.mem_singleton.mp z]; exact List.mem_cons_self ..))]; exact e1) (fun z => e2 (List.mem_cons_of_mem _ (by simpa [cf0] using z))) e3
  have keepS : ∀ {A' : List (Option Addr)} {σ3' : List Sl} {σ' : St} {H' : Hp}, R3 K cf0 (out [x] H) S A' σ3' σ' H' → ∀ a ∈ S, H' a = H a := fun R a ha => by
    rw [(R.gk a ha).1, out_out (fun z => nx (by rw [← List.mem_singleton.mp z]; exact ha))]
  refine lt _ _ (hb x ds Q3 X hl hf) (out [x] H) S _ _ H _ R0 ⟨?_, fun _ _ _ _ _ z => z.elim, fun _ _ _ _ _ z => z.elim, fun _ _ _ _ _ z => z.elim, ?_⟩
  · intro A' σ3' σ' H' R q
    obtain ⟨⟨x', C', fs⟩, ed, e1, q1⟩ := ob_iff.mp q
    have e1 : x' = x := e1
    subst e1
    obtain ⟨p, hA, hσ, _, _, _, e0, e9, dx', ks, hp, hk, hr⟩ := R.ownGet (ownI_is ed)
    cases e0
    subst e9
    have hS' : ∀ a ∈ S, a ∈ cf0.S S A' := fun a ha => mem_S.mpr (.inr (.inl ha))
    have hx' : p ∈ cf0.S S A' := mem_S.mpr (.inr (.inr (mem_addrs.mpr (List.mem_of_getElem? hA))))
    refine hq (.ins C' fs) H' (Same.trans (base R) (hid_mono fun a ha => ?_)) (keepS R) (.ins (hid_mk hp nx) hk fun i v t h1 h2 => ((hr.mono (hid_mono hS')).at h1 h2)) q1
    rcases List.mem_cons.mp ha with z | z
    · rw [z]; exact hx'
    · exact hS' a z
  · intro A' σ3' σ' H' cls dd xn R rx q
    have b := base R
    have s1 : Same (hid (x :: S) H) (hid (x :: S) H') := fun a o e => by
      obtain ⟨e1, e2, e3⟩ := hid_all e
      exact hid_mk (hid_some (b a o e)).1 e2 e3
    have mono : Same (hid (cf0.S S A') H') (hid S H') := hid_mono fun a ha => mem_S.mpr (.inr (.inl ha))
    refine hW _ _ _ _ (he cls dd xn H' s1 (keepS R) ?_ q)
    obtain ⟨r1, r2⟩ := rx
    refine ⟨r1, ?_⟩
    cases dd with
    | none => exact r2
    | some d =>
      obtain ⟨fs, f1, f2, f3⟩ := r2
      exact ⟨fs, mono _ _ f1, f2, f3.mono mono⟩
/-- C(e, .., k = v, ..) -/
def mkN3 (n : Nat) (f : F3) (g : List T → List T → List T) (m j : Nat) (x y : A3) : E3 := fun σ Q X => x σ (fun ds => y σ (fun es => ds.length = m ∧ es.length = j ∧ (g ds es).length + 1 = n ∧ f (g ds es) Q X) X) X
def mkN30 (n : Nat) (f : F3) (g : List T → List T → List T) (m j : Nat) (x y : A3) : E3 := fun σ Q X => x σ (fun ds => y σ (fun es => ds.length = m ∧ es.length = j ∧ (g ds es).length + 1 = n ∧ f (g ds es) Q (fun _ => False)) X) X
def mk3 (n : Nat) (f : F3) (x : A3) (dts : List T) : E3 := fun σ Q X => x σ (fun ds => (ds ++ dts).length + 1 = n ∧ f (ds ++ dts) Q X) X
def mk30 (n : Nat) (f : F3) (x : A3) (dts : List T) : E3 := fun σ Q X => x σ (fun ds => (ds ++ dts).length + 1 = n ∧ f (ds ++ dts) Q (fun _ => False)) X
section
variable {K : PySem.W.Frag} {c : Cf} {W : WX}
theorem spI_call {n : Nat} {C : Addr} {f : F3} {Hb H2 : Hp} {G : List Addr} {A : List (Option Addr)} {σ3 : List Sl} {σ : St} {vs : List V} {ds : List T} {Q : VK} {E : XK} {Q3 : T → Prop} {X : X3} {x dx : Addr} (R : R3 K c Hb G A σ3 σ H2) (hx : H2 x = none) (hdx : H2 dx = none) (ne : dx ≠ x)
    (rx : RepL K (hid (c.S G A) H2) vs ds) (hl : ds.length + 1 = n) (hf : f ds Q3 X) (k : ∀ v d H', Le c G A H2 H' → Rep K (hid (c.S G A) H') v d → Q3 d → Q v H') (e : ∀ cls dd x H', Le c G A H2 H' → XRep K (hid (c.S G A) H') cls dd x → X x → E cls dd H') :
    spI K n C f (.ref x :: vs) (upd (upd H2 dx (.own x)) x (.ins C dx [])) (fun v H3 => v = .non ∧ Q (.ref x) H3) E := by
  have L1 := R.new (o := .own x) hdx
  have R1 := R.le L1
  have hx1 : (upd H2 dx (.own x)) x = none := by rw [upd_ne ne.symm]; exact hx
  have L2 := R1.new (o := .ins C dx []) hx1
  have R2 := R1.le L2
  have L := L1.trans L2
  have nx : x ∉ c.S G A := R.free hx
  have v1 : Same (hid (c.S G A) H2) (hid (x :: c.S G A) (upd (upd H2 dx (.own x)) x (.ins C dx []))) := by
    rw [hid_upd_in (List.mem_cons_self ..)]
    intro a o z
    obtain ⟨z1, z2, z3⟩ := hid_all z
    exact hid_mk (by rw [upd_ne (ne_of_none z1 hdx)]; exact z1) (fun y => by
      rcases List.mem_cons.mp y with y | y
      · rw [y, hx] at z1; cases z1
      · exact z2 y) z3
  have le : ∀ H', Same (hid (x :: c.S G A) (upd (upd H2 dx (.own x)) x (.ins C dx []))) (hid (x :: c.S G A) H') → (∀ a ∈ c.S G A, H' a = (upd (upd H2 dx (.own x)) x (.ins C dx [])) a) → Le c G A H2 H' := fun H' s1 s2 => by
    have keepA : ∀ a ∈ c.S G A, H' a = H2 a := fun a ha => by
      have n1 : a ≠ x := fun z => nx (by rw [← z]; exact ha)
      have n2 : a ≠ dx := fun z => R.there ha (by rw [z]; exact hdx)
      rw [s2 a ha, upd_ne n1, upd_ne n2]
    refine ⟨Same.trans v1 (Same.trans s1 (hid_mono fun a ha => List.mem_cons_of_mem _ ha)), fun a ha => keepA a (mem_S.mpr (by rcases List.mem_append.mp ha with z | z; exact .inr (.inl z); exact .inr (.inr z))), ?_⟩
    refine c.st H2 H' (fun a ha => keepA a (mem_S.mpr (.inl ha))) (fun a φ z => ?_) R.inv
    by_cases h : a ∈ c.S G A
    · rw [keepA a h]; exact z
    · exact (hid_some ((Same.trans v1 s1) a _ (hid_mk z h))).1
  refine ⟨c.S G A, x, dx, ds, vs, rfl, hl, nx, upd_same, rx.mono v1, fun a ha => R2.there ha, Q3, X, hf, fun d H' s1 s2 r q => ⟨rfl, k _ _ H' (le H' s1 s2) r q⟩, fun cls dd xn H' s1 s2 r q => e cls dd xn H' (le H' s1 s2) r q⟩
theorem lift_mkN {n m j : Nat} {C : Addr} {f : F3} {E : XK} {t tk : TA} {x y : A3} {gV : List V → List V → List V} {g : List T → List T → List T} (hE : ∀ cls dd σ H, W cls dd σ H → E cls dd H) (hgV : ∀ v vs zs, ∃ ws, gV (v :: vs) zs = v :: ws)
    (hg : ∀ H a vs ds ws es zs, RepL K H vs ds → RepL K H ws es → ds.length = m → es.length = j → gV (.ref a :: vs) ws = .ref a :: zs → RepL K H zs (g ds es))
    (ha : LiftA K c W t x) (hb : LiftA K c W tk y) : Lift K c W (tMakeK C m j (spI K n C f) gV E t tk) (mkN3 n f g m j x y) := by
  intro σ3 Q3 X h Hb G A σ H Q R k e
  refine ha _ _ _ h Hb G A σ H _ R (fun vs ds H1 L1 rx hx => ?_) e
  refine hb _ _ _ hx Hb G A σ H1 _ (R.le L1) (fun ws es H2 L2 ry hy => ?_) (fun cls dd x H' L => e cls dd x H' (L1.trans L))
  obtain ⟨h1, h2, h3, h4⟩ := hy
  refine ⟨by rw [rx.length]; exact h1, by rw [ry.length]; exact h2, fun a dx na ndx ne => ?_⟩
  obtain ⟨zs, ez⟩ := hgV (.ref a) vs ws
  rw [ez]
  exact spI_call ((R.le L1).le L2) na ndx ne (hg _ a _ _ _ _ zs (rx.mono L2.vis) ry h1 h2 ez) h3 h4 (fun v d H' L r q => k v d H' ((L1.trans L2).trans L) r q) (fun cls dd x H' L r q => hE _ _ σ _ (e cls dd x H' ((L1.trans L2).trans L) r q))
theorem lift_mkN0 {n m j : Nat} {C : Addr} {f : F3} {E : XK} {t tk : TA} {x y : A3} {gV : List V → List V → List V} {g : List T → List T → List T} (hgV : ∀ v vs zs, ∃ ws, gV (v :: vs) zs = v :: ws)
    (hg : ∀ H a vs ds ws es zs, RepL K H vs ds → RepL K H ws es → ds.length = m → es.length = j → gV (.ref a :: vs) ws = .ref a :: zs → RepL K H zs (g ds es))
    (ha : LiftA K c W t x) (hb : LiftA K c W tk y) : Lift K c W (tMakeK C m j (spI K n C f) gV E t tk) (mkN30 n f g m j x y) := by
  intro σ3 Q3 X h Hb G A σ H Q R k e
  refine ha _ _ _ h Hb G A σ H _ R (fun vs ds H1 L1 rx hx => ?_) e
  refine hb _ _ _ hx Hb G A σ H1 _ (R.le L1) (fun ws es H2 L2 ry hy => ?_) (fun cls dd x H' L => e cls dd x H' (L1.trans L))
  obtain ⟨h1, h2, h3, h4⟩ := hy
  refine ⟨by rw [rx.length]; exact h1, by rw [ry.length]; exact h2, fun a dx na ndx ne => ?_⟩
  obtain ⟨zs, ez⟩ := hgV (.ref a) vs ws
  rw [ez]
  exact spI_call ((R.le L1).le L2) na ndx ne (hg _ a _ _ _ _ zs (rx.mono L2.vis) ry h1 h2 ez) h3 h4 (fun v d H' L r q => k v d H' ((L1.trans L2).trans L) r q) (fun cls dd x H' L r q => q.elim)
theorem lift_mk {n : Nat} {C : Addr} {f : F3} {E : XK} {t : TA} {x : A3} {dvs : List V} {dts : List T} (hE : ∀ cls dd σ H, W cls dd σ H → E cls dd H) (ha : LiftA K c W t x) (hd : ∀ H, RepL K H dvs dts) : Lift K c W (tMake C (spI K n C f) dvs E t) (mk3 n f x dts) := by
  intro σ3 Q3 X h Hb G A σ H Q R k e
  refine ha _ _ _ h Hb G A σ H _ R (fun vs ds H1 L1 rx hx => ?_) e
  intro a dx na ndx ne
  exact spI_call (R.le L1) na ndx ne (rx.append (hd _)) hx.1 hx.2 (fun v d H' L r q => k v d H' (L1.trans L) r q) (fun cls dd x H' L r q => hE _ _ σ _ (e cls dd x H' (L1.trans L) r q))
theorem lift_mk0 {n : Nat} {C : Addr} {f : F3} {E : XK} {t : TA} {x : A3} {dvs : List V} {dts : List T} (ha : LiftA K c W t x) (hd : ∀ H, RepL K H dvs dts) : Lift K c W (tMake C (spI K n C f) dvs E t) (mk30 n f x dts) := by
  intro σ3 Q3 X h Hb G A σ H Q R k e
  refine ha _ _ _ h Hb G A σ H _ R (fun vs ds H1 L1 rx hx => ?_) e
  intro a dx na ndx ne
  exact spI_call (R.le L1) na ndx ne (rx.append (hd _)) hx.1 hx.2 (fun v d H' L r q => k v d H' (L1.trans L) r q) (fun cls dd x H' L r q => q.elim)
end
end M3

/-! L4F: len(set(texts)). -/
namespace M3
open PySem PySem.Spec PyProof.Rows L2
/-- how many unlike ones -/
def unl : List Str → Nat
  | [] => 0
  | x :: xs => (if xs.any (· == x) then 0 else 1) + unl xs
/-- .. from the left -/
def unlTo (xs : List Str) : Nat → Nat
  | 0 => 0
  | i + 1 => if (xs.take i).any (· == xs.getD i Str.empty) then unlTo xs i else unlTo xs i + 1
theorem unlTo_le (xs : List Str) : ∀ i, unlTo xs i ≤ i
  | 0 => Nat.le_refl _
  | i + 1 => by
    have := unlTo_le xs i
    unfold unlTo
    split <;> omega
section
variable {prog : Program} {w : World} {A : Around} {R : Result → Shared → Prop} {I : Addr} {fp wr : List Addr} {G : Array GenState → Array GenState → Prop} {n : Nat} {P : Nat → Value → Prop} {St : Nat → Shared → Prop}
theorem setOf_moved {S : Addr} {f : Str → Bool} {m : Nat} {h h' : Heap} (e : ∀ o, h.get? S = some o → h'.get? S = some o) (x : h.SetOf (PySem.strKind prog w) S f m) : h'.SetOf (PySem.strKind prog w) S f m := by
  obtain ⟨o, es, ep, t, ho, r⟩ := x
  exact ⟨o, es, ep, t, e o ho, r⟩
theorem loopTexts (wk : WalksS prog w A.in1 I fp wr G n P St) (S : Addr) (nS : S ∉ fp) (xs : List Str) (hsz : xs.length = n) (hb : n + 1 < scanBound) (hv : ∀ i v, P i v → ∃ t, v = .str (xs.getD i Str.empty) t) (j : Nat) :
    ∀ (i : Nat) (s : Shared), n - i = j → i ≤ n → St i s → s.heap.SetOf (PySem.strKind prog w) S (fun k => (xs.take i).any (· == k)) (unlTo xs i) →
      (∀ s2, Moved (S :: wr) G s s2 → s2.heap.SetOf (PySem.strKind prog w) S (fun k => (xs.take n).any (· == k)) (unlTo xs n) → R (.ok (.ret .none)) s2) → codeAny (model prog w) A (.builtin "set.update.loop" ⟨[.ref S, .ref I], []⟩) R s := by
  have nw : S ∉ wr := fun z => nS (wk.sub _ z)
  induction j with
  | zero =>
    intro i s e1 e2 st hS hR
    obtain rfl : i = n := by omega
    refine codeAny_builtin PyProof.Rows.F.entry_set_update_loop ?_
    rw [Around.under_plainId PyProof.Rows.F.plain_set_update_loop _]
    refine wpAny_bind (m := pyNext (.ref I)) (wk.done s _ _ st fun s2 mv => ?_)
    exact wpAny_pure (hR s2 (mv.mono fun b z => List.mem_cons_of_mem _ z) (setOf_moved (fun o ho => mv.heap S _ nw ho) hS))
  | succ j ih =>
    intro i s e1 e2 st hS hR
    have lt : i < n := by omega
    refine codeAny_builtin PyProof.Rows.F.entry_set_update_loop ?_
    rw [Around.under_plainId PyProof.Rows.F.plain_set_update_loop _]
    refine wpAny_bind (m := pyNext (.ref I)) (wk.item i s _ _ lt st fun v s2 hP st2 mv => ?_)
    obtain ⟨t, rfl⟩ := hv i v hP
    have hS2 := setOf_moved (h' := s2.heap) (fun o ho => mv.heap S _ nw ho) hS
    show wpAny _ A.in1 (holding [Value.str (xs.getD i Str.empty) t] (setAdd S (.str (xs.getD i Str.empty) t)) >>= _) _ _ s2
    refine wpAny_bind (wpAny_holding ?_)
    unfold setAdd
    refine wpAny_holding (wpAny_bind ((PySem.strKind prog w).pyHash (k := xs.getD i Str.empty) (strKind_is _ _ _ _) ?_))
    have small := unlTo_le xs i
    refine wpAny_setAddHashed_of (knd := PySem.strKind prog w) (s := { s2 with toks := s2.toks + 1 }) (strKind_is _ _ _ _) rfl hS2 (by omega) fun h3 sb hS3 => ?_
    have hS4 : h3.SetOf (PySem.strKind prog w) S (fun k => (xs.take (i + 1)).any (· == k)) (unlTo xs (i + 1)) := by
      have ei : xs[i]? = some (xs.getD i Str.empty) := by
        rw [List.getD_eq_getElem?_getD, List.getElem?_eq_getElem (by omega)]
        rfl
      refine SetOf_congr hS3 (fun k => ?_) ?_
      · rw [List.take_add_one, ei, List.any_append]
        show ((xs.take i).any (· == k) || decide (k = xs.getD i Str.empty)) = _
        congr 1
        by_cases e : k = xs.getD i Str.empty
        · subst e; simp
        · have z : (xs.getD i Str.empty == k) = false := beq_eq_false_iff_ne.mpr fun y => e y.symm
          show _ = (xs.getD i Str.empty == k || false)
          rw [z, decide_eq_false e]
          rfl
      · show _ = (if (xs.take i).any (· == xs.getD i Str.empty) then unlTo xs i else unlTo xs i + 1)
        first | rfl | (split <;> simp_all)
    refine wpAny_pure ⟨plainId_quiet PyProof.Rows.F.plain_set_update_loop _, ih (i + 1) _ (by omega) lt (wk.frame _ s2 _ _ st2 (Nat.le_succ _) fun b hb o e => ?_) hS4 fun s5 mv5 hS5 => ?_⟩
    · rw [sb.2 b (fun z => nS (by rw [← z]; exact hb))]; exact e
    · refine hR s5 (Moved.trans wk.gtrans ((mv.mono fun b z => List.mem_cons_of_mem _ z).then_heap (Nat.le_succ _) fun b o hb e => ?_) mv5) hS5
      rw [sb.2 b (fun z => hb (by rw [z]; exact List.mem_cons_self ..))]; exact e
end
section
variable {prog : Program} {w : World} {A : Around} {E : Value → Shared → Prop} {s : Shared}
/-- what set(x) starts from -/
abbrev set0 (led : Bool) : Obj := { cls := .type "set", dict := none, data := .set #[] 0 (.fresh 0 0 led) }
/-- set(v): by what its __init__ does at the new set -/
theorem set_of {v : Value} {Q : Value → Shared → Prop} {Z : Shared → Prop} (hZ : ∀ s2, Z s2 → Q (.ref s.heap.objs.size) s2)
    (hi : ∀ led : Bool, wpAny (model prog w) A.in1.in1 (Builtin.«set.__init__» ⟨[.ref s.heap.objs.size, v], []⟩)
        (fun fin s' => match fin with | .done f => wants (fun r s2 => r = .none ∧ Z s2) E (.ok f) s' | .again c' => c'.quiet = true ∧ codeAny (model prog w) A.in1 c' (wants (fun r s2 => r = .none ∧ Z s2) E) s')
        (fun e s' => wants (fun r s2 => r = .none ∧ Z s2) E (.error e) s') { s with heap := s.heap.push (set0 led) }) :
    wpAny (model prog w) A (call (.type "set") [v]) Q E s := by
  obtain ⟨_, _, m1⟩ := PySem.F.called_set.mro
  have m2 := PySem.F.called_set.made
  have m3 := PySem.F.called_set.sub
  have m4 := PySem.F.called_set.notType
  have m5 := PySem.F.called_set.canCreate
  have m6 := PySem.F.typeCall_set_1 v
  refine wpAny_call (codeAny_of_tree (?_ : wpAny _ _ (callAny (.type "set") _) _ _ _))
  refine wpAny_pure ⟨Code.quiet_builtin _ (by decide +kernel), (codeAny_builtin PySem.F.entry_type_call (?_))⟩
  rw [Around.under_plain (weight_type_call_type "set" [v] []) rfl]
  repeat any_goals first | assumption | wp_step
  refine codeAny_mono (code_set_new_1 v (E := E) (Q₁ := fun x s1 => ∃ led : Bool, x = .ref s.heap.objs.size ∧ s1 = { s with heap := s.heap.push (set0 led) }) fun led => ⟨led, rfl, rfl⟩) ?_
  rintro (e | fl) s1 hr
  · exact hr
  cases fl with
  | ret x =>
    obtain ⟨led, rfl, rfl⟩ := hr
    have n1 : Shared.TypeIs { s with heap := s.heap.push (set0 led) } (.ref s.heap.objs.size) "set" := ⟨_, Heap.get?_push_size _ rfl, rfl⟩
    have n2 := PySem.F.called_set.init.lookup
    have n3 := PySem.F.called_set.init.bind (.ref s.heap.objs.size)
    repeat any_goals first | assumption | wp_step
    refine codeAny_mono (codeAny_call_builtin (R := wants (fun r s2 => r = .none ∧ Z s2) E) PySem.F.called_set.init.plain PySem.F.entry_set_init (check_set_init_1 n1 (hi led))) ?_
    rintro (e | f2) s2 h2
    · exact h2
    cases f2 with
    | ret r =>
      obtain ⟨rfl, hz⟩ := h2
      have hq := hZ _ hz
      repeat any_goals first | assumption | wp_step
    | _ => exact h2.elim
  | _ => exact hr.elim
theorem set_texts {l : Addr} {items : Array Value} {xs : List Str} {Q : Value → Shared → Prop} (hh : A.handled = none) (hl : s.heap.IsList l items ∨ s.heap.IsTuple l items) (hi : StrsAre items.toList xs) (hb : xs.length + 1 < scanBound)
    (h : ∀ (h2 : Heap) (tk : Nat), h2.SetOf (PySem.strKind prog w) s.heap.objs.size (fun k => (xs.take items.size).any (· == k)) (unlTo xs items.size) →
      (∀ b o, s.heap.get? b = some o → h2.get? b = some o) → Q (.ref s.heap.objs.size) { s with heap := h2, toks := tk }) : wpAny (model prog w) A (call (.type "set") [.ref l]) Q E s := by
  refine set_of (Z := fun s2 => ∃ h2 tk, s2 = { s with heap := h2, toks := tk } ∧ h2.SetOf (PySem.strKind prog w) s.heap.objs.size (fun k => (xs.take items.size).any (· == k)) (unlTo xs items.size) ∧ ∀ b o, s.heap.get? b = some o → h2.get? b = some o) ?_ fun led => ?_
  · rintro s2 ⟨h2, tk, rfl, z1, z2⟩
    exact h h2 tk z1 z2
  have hS : (s.heap.push (set0 led)).get? s.heap.objs.size = some (set0 led) := Heap.get?_push_size _ rfl
  have sz : xs.length = items.size := by rw [← StrsAre.len_eq hi, Array.length_toList]
  have hv : ∀ (i : Nat) (v : Value), items[i]? = some v → ∃ t, v = .str (xs.getD i Str.empty) t := fun i v e => SS.strs_at hi i v (by rw [Array.getElem?_toList]; exact e)
  have h3 : A.in1.in1.in1.handled = none := by simp [hh]
  have hT : Shared.TypeIs { s with heap := s.heap.push (set0 led) } (.ref s.heap.objs.size) "set" := ⟨_, hS, rfl⟩
  have goOn : ∀ {it : Obj} {St : Nat → Shared → Prop} {E' : Value → Shared → Prop} {K : Value → Shared → Prop} (lt : l < s.heap.objs.size), it.isFreed = false →
      WalksS prog w A.in1.in1.in1 (s.heap.push (set0 led)).objs.size [(s.heap.push (set0 led)).objs.size, l] [(s.heap.push (set0 led)).objs.size] (fun a b => b = a) items.size (fun i v => items[i]? = some v) St →
      St 0 { s with heap := (s.heap.push (set0 led)).push it } →
      (∀ s2, (∃ h2 tk, s2 = { s with heap := h2, toks := tk } ∧ h2.SetOf (PySem.strKind prog w) s.heap.objs.size (fun k => (xs.take items.size).any (· == k)) (unlTo xs items.size) ∧ ∀ b o, s.heap.get? b = some o → h2.get? b = some o) → K .none s2) →
      codeAny (model prog w) A.in1.in1 (.builtin "set.update.loop" ⟨[.ref s.heap.objs.size, .ref (s.heap.push (set0 led)).objs.size], []⟩) (wants K E') { s with heap := (s.heap.push (set0 led)).push it } := by
    intro it St E' K lt nf wk st hk
    refine loopTexts wk s.heap.objs.size ?_ xs sz (by omega) hv (items.size - 0) 0 _ rfl (Nat.zero_le _) st ?_ ?_
    · rw [Heap.size_push]
      simp only [List.mem_cons, List.not_mem_nil, or_false, not_or]
      exact ⟨Nat.ne_of_lt (Nat.lt_succ_self _), Nat.ne_of_gt lt⟩
    · exact SetOf_congr ((setObjOf_fresh (knd := PySem.strKind prog w) led).setOf (Heap.get?_push_of_some _ hS) (by unfold scanBound; omega)) (fun _ => rfl) rfl
    · rintro ⟨h2, g2, d2, t2, o2⟩ mv hS2
      have e1 : g2 = s.gens := mv.gens
      have e2 : d2 = s.drawn := mv.drawn
      have e3 : o2 = s.os := mv.os
      subst e1 e2 e3
      refine hk _ ⟨h2, t2, rfl, hS2, fun b o e => ?_⟩
      have lb := Heap.lt_size e
      refine mv.heap b o ?_ (Heap.get?_push_of_some _ (Heap.get?_push_of_some _ e))
      rw [Heap.size_push]
      simp only [List.mem_cons, List.not_mem_nil, or_false, not_or]
      exact ⟨Nat.ne_of_lt lb, Nat.ne_of_lt (Nat.lt_succ_of_lt lb)⟩
  rcases hl with hl | hl
  · obtain ⟨⟨c1, d1, dt1, sl1⟩, ho, ec, nl, ed⟩ := hl
    simp only at ec ed
    subst ec; subst ed
    have lt := Heap.lt_size ho
    have ho2 : (s.heap.push (set0 led)).get? l = some { cls := .type "list", dict := d1, data := .seq items nl, slots := sl1 } := Heap.get?_push_of_some _ ho
    have isL : (s.heap.push (set0 led)).IsList l items := ⟨_, ho2, rfl, nl, rfl⟩
    have q1 := PySem.F.sub_list_set
    have q2 := PySem.F.sub_list_frozenset
    have q3 : (Value.type "list" == Value.type "dict") = false := by decide
    unfold Builtin.«set.__init__» noKeywords Builtin.Frozenset.updateFrom
    generalize hPI : pyIter = PI
    wp_walk
    subst hPI
    refine wpAny_pyIter_list isL (wpAny_bind (wpAny_runValue ?_))
    have ne : l ≠ (s.heap.push (set0 led)).objs.size := by rw [Heap.size_push]; exact Nat.ne_of_lt (Nat.lt_succ_of_lt lt)
    refine goOn lt rfl ((PySem.Walks.list h3 _ l ne items).toS) ⟨⟨_, Heap.get?_push_size _ rfl, rfl, rfl⟩, isL.push _⟩ fun s2 hz => ?_
    exact wpAny_pure (wpAny_pure ⟨rfl, hz⟩)
  · obtain ⟨⟨c1, d1, dt1, sl1⟩, ho, ec, nl, ed⟩ := hl
    simp only at ec ed
    subst ec; subst ed
    have lt := Heap.lt_size ho
    have ho2 : (s.heap.push (set0 led)).get? l = some { cls := .type "tuple", dict := d1, data := .seq items nl, slots := sl1 } := Heap.get?_push_of_some _ ho
    have isT : (s.heap.push (set0 led)).IsTuple l items := ⟨_, ho2, rfl, nl, rfl⟩
    have q1 := PySem.F.sub_tuple_set
    have q2 := PySem.F.sub_tuple_frozenset
    have q3 : (Value.type "tuple" == Value.type "dict") = false := by decide
    unfold Builtin.«set.__init__» noKeywords Builtin.Frozenset.updateFrom
    generalize hPI : pyIter = PI
    wp_walk
    subst hPI
    refine wpAny_pyIter_tuple isT (wpAny_bind (wpAny_runValue ?_))
    have ne : l ≠ (s.heap.push (set0 led)).objs.size := by rw [Heap.size_push]; exact Nat.ne_of_lt (Nat.lt_succ_of_lt lt)
    refine goOn lt rfl ((PySem.Walks.tuple h3 _ l ne items).toS) ⟨⟨_, Heap.get?_push_size _ rfl, rfl, rfl⟩, isT.push _⟩ fun s2 hz => ?_
    exact wpAny_pure (wpAny_pure ⟨rfl, hz⟩)
end
/-- len(set(x)) of texts -/
def tLenSetT (K : PySem.W.Frag) (ta : TE) : TE := fun σ H Q => ta σ H fun x H1 => ∃ l, ∃ xs : List Str, x = .ref l ∧ (SqL K H1 l (xs.map V.str) ∨ SqT K H1 l (xs.map V.str)) ∧ xs.length ≤ 1000 ∧ Q (.int (unlTo xs xs.length)) H1
theorem pe_lenSetT {X : Cx} {K : PySem.W.Frag} {a : Expr} {ta : TE} {p p2 q pos : Pos} (hK : X.K = K) (hc : X.calm = true) (hg : Gl X "len") (hm : X.mg "len" = none) (hg2 : Gl X "set") (hm2 : X.mg "set" = none) (ha : PE X a ta)
    (na : starEach [a] X.env = (false, eval a X.env) :: starEach [] X.env := by rfl) : PE X (.Call (.Name "len" p) [.Call (.Name "set" p2) [a] [] q] [] pos) (tLenSetT K ta) := by
  subst hK
  constructor
  intro pins s σ H Q I h
  refine Call_ (ld_blt I hg hm boot_len (callWith_builtin1 (args_cons (Call_ (ld_blt I hg2 hm2 boot_set (callWith_type1 (args_cons (thn (ha.run pins s σ H _ I h) ?_) na) na rfl))) rfl) rfl rfl))
  rintro v s1 ⟨x, H1, I1, r1, l, xs, rfl, hq, h1, q1⟩
  cases r1
  refine args_nil ?_
  have fin : ∀ (its : List Value), Vals (xs.map V.str) its → (s1.heap.IsList l its.toArray ∨ s1.heap.IsTuple l its.toArray) →
      wpAny (model X.prog X.w) X.A (call (.type "set") [.ref l]) (fun v s' => wpAny (model X.prog X.w) X.A (spliced (backTo pos (starEach [] X.env))) (fun vs s2 => wpAny (model X.prog X.w) X.A (call (.builtin "len") (v :: vs)) (EP X pins σ Q) X.xe s2) X.xe s') X.xe s1 := fun its r isS => by
    refine set_texts (xs := xs) (I1.ok.hd hc) isS (by simpa using strsAre_of r) (by unfold scanBound; omega) fun h2 tk hS kp => ?_
    refine args_nil ?_
    have hl : its.toArray.size = xs.length := by rw [List.size_toArray, ← r.length, List.length_map]
    rw [hl] at hS
    obtain ⟨o, es, ep, t, ho, hex, hd, _, _, _, hf, hn⟩ := hS
    have I2 : Inv X pins σ H1 { s1 with heap := h2, toks := tk } := I1.kept kp
    have small := unlTo_le xs xs.length
    refine call_len_set ho hex hd hf (by rw [hn]; omega) ⟨.int (unlTo xs xs.length), H1, I2.tok _, ⟨_, by rw [hn]⟩, q1⟩
  rcases hq with hq | hq
  · obtain ⟨its, r, pl, hz⟩ := I1.list hq
    exact fin its r (.inl pl.isList)
  · obtain ⟨its, r, pl, hz⟩ := I1.tuple hq
    exact fin its r (.inr pl)
end M3

/-! L4G: len(set(..)) and in, over trees; classes of the text and how they are made. -/
namespace M3
open PySem L2
def txs : List T → Option (List Str)
  | [] => some []
  | .str x :: r => (txs r).map (x :: ·)
  | _ => none
@[simp] theorem strs_map : ∀ xs : List Str, txs (xs.map T.str) = some xs
  | [] => rfl
  | x :: xs => by show (txs (xs.map T.str)).map (x :: ·) = _; rw [strs_map xs]; rfl
theorem strs_is : ∀ {ts : List T} {xs : List Str}, txs ts = some xs → ts = xs.map T.str
  | [], xs, h => by cases h; rfl
  | t :: ts, xs, h => by
    cases t with
    | str y =>
      have h : (txs ts).map (y :: ·) = some xs := h
      cases e : txs ts with
      | none => rw [e] at h; cases h
      | some l => rw [e] at h; cases h; rw [strs_is e, List.map_cons]
    | _ => cases h
def lenSet3 (a : E3) : E3 := fun σ Q X => a σ (fun d => ob (items d) fun ts => ob (txs ts) fun xs => xs.length ≤ 1000 ∧ Q (.int (unlTo xs xs.length))) X
section
variable {K : PySem.W.Frag} {c : Cf} {W : WX} {ta : TE} {a : E3} {X : Cx}
theorem RepL.texts {H : Hp} : ∀ {vs : List V} {xs : List Str}, RepL K H vs (xs.map T.str) → vs = xs.map V.str
  | _, [], .nil => rfl
  | _, x :: xs, .cons r q => by rw [r.strI, RepL.texts q, List.map_cons]
theorem lift_lenSet (ha : Lift K c W ta a) : Lift K c W (tLenSetT K ta) (lenSet3 a) := by
  intro σ3 Q3 X h Hb G A σ H Q R k e
  refine ha _ _ _ h Hb G A σ H _ R (fun v d H1 L1 r q => ?_) e
  obtain ⟨ts, et, q1⟩ := ob_iff.mp q
  obtain ⟨xs, ex, hl, q2⟩ := ob_iff.mp q1
  cases strs_is ex
  rcases items_cases et with rfl | rfl
  · obtain ⟨p, vs, rfl, hp, rl⟩ := r.lstI
    cases RepL.texts rl
    exact ⟨p, xs, rfl, .inl (SqL.of (hid_same _ _ hp)), hl, k _ _ H1 L1 (.int _) q2⟩
  · obtain ⟨p, vs, rfl, hp, rl⟩ := r.tupI
    cases RepL.texts rl
    exact ⟨p, xs, rfl, .inr (Same.sqT hid_same hp), hl, k _ _ H1 L1 (.int _) q2⟩
/-! ### in: a list, a tuple, a sign of a text -/
abbrev rInP (K : PySem.W.Frag) (neg : Bool) : R2 := fun x y H Q => rIn K neg x y H Q ∨ (fun x y H Q => ∃ (c : Nat) (z : Str), x = .str ⟨#[c]⟩ ∧ y = .str z ∧ Q (.bl (if neg then !decide (c ∈ z.cps.toList) else decide (c ∈ z.cps.toList))) H) x y H Q
theorem op_inP (h : X.K = K) : OpR X (compareOp .In) (rInP K false) := OpR.or (op_inK h) (op_in_sign)
theorem op_notInP (h : X.K = K) : OpR X (compareOp .NotIn) (rInP K true) := OpR.or (op_notInK h) (op_notIn_sign)
def asCh : T → Option Nat
  | .str ⟨⟨[c]⟩⟩ => some c
  | _ => none
theorem asCh_is {d : T} {c : Nat} (h : asCh d = some c) : d = .str ⟨#[c]⟩ := by
  unfold asCh at h
  split at h
  · cases h; rfl
  · cases h
@[simp] theorem asCh_ch (c : Nat) : asCh (.str ⟨#[c]⟩) = some c := rfl
@[simp] theorem asCh_chT (c : Nat) : asCh (chT c) = some c := rfl
def inP (neg : Bool) (x y : T) (Q : T → Prop) : Prop := match y with
  | .str z => ob (asCh x) fun c => Q (.bl (if neg then !decide (c ∈ z.cps.toList) else decide (c ∈ z.cps.toList)))
  | y => in3 neg x y Q
theorem rl_inP (neg : Bool) : RL2 K (rInP K neg) (inP neg) := by
  refine RL2.or2 (rl_in neg) (q' := fun x y Q => ob (asCh x) fun c => ob (asS y) fun z => Q (.bl (if neg then !decide (c ∈ z.cps.toList) else decide (c ∈ z.cps.toList)))) ?_ fun x y Q h => ?_
  · intro c x y Q3 hh Hb G A σ3 σ H vx vy Q R rx ry k
    obtain ⟨n, en, h1⟩ := ob_iff.mp hh
    obtain ⟨z, ez, q⟩ := ob_iff.mp h1
    cases asCh_is en
    cases asS_is ez
    exact ⟨n, z, rx.strI, ry.strI, k _ _ H (Le.refl R.inv) (.bl _) q⟩
  · cases y with
    | str z =>
      right
      obtain ⟨n, en, q⟩ := ob_iff.mp h
      exact ob_iff.mpr ⟨n, en, q⟩
    | _ => exact .inl h
end
/-! ### the unlike ones -/
theorem unlTo_full : ∀ (xs : List Str) (i : Nat), i ≤ xs.length → (unlTo xs i = i ↔ (xs.take i).Nodup)
  | xs, 0, _ => by simp [unlTo]
  | xs, i + 1, h => by
    have ih := unlTo_full xs i (by omega)
    have le := unlTo_le xs i
    have ei : xs[i]? = some (xs.getD i Str.empty) := by
      rw [List.getD_eq_getElem?_getD, List.getElem?_eq_getElem (by omega)]
      rfl
    have et : xs.take (i + 1) = xs.take i ++ [xs.getD i Str.empty] := by rw [List.take_add_one, ei]; rfl
    rw [et, List.nodup_append]
    unfold unlTo
    by_cases hm : (xs.take i).any (· == xs.getD i Str.empty) = true
    · rw [if_pos hm]
      obtain ⟨y, hy, ey⟩ := List.any_eq_true.mp hm
      have ey : y = xs.getD i Str.empty := eq_of_beq ey
      constructor
      · intro z; omega
      · intro z
        exact absurd ey (z.2.2 y hy _ (List.mem_singleton.mpr rfl))
    · rw [if_neg hm]
      constructor
      · intro z
        refine ⟨ih.mp (by omega), by simp, fun a ha b hb e => ?_⟩
        cases List.mem_singleton.mp hb
        exact hm (List.any_eq_true.mpr ⟨a, ha, beq_iff_eq.mpr e⟩)
      · intro z
        have := ih.mpr z.1
        omega
theorem unlTo_nodup (xs : List Str) : unlTo xs xs.length = xs.length ↔ xs.Nodup := by
  rw [unlTo_full xs xs.length (Nat.le_refl _), List.take_length]
/-! ### making -/
/-- C(e, ..) may be called -/
structure MkC (P : Program) (w : World) (K : PySem.W.Frag) (mg : Str → Option Value) (base : Heap) (CX : CXT) (x : Str) (C : Addr) (k : Nat) (dvs : List V) (sp : Sp) : Prop where
  ex : ∃ (f : Addr) (fd : FuncData) (ps : List Str) (ds : List Value), FnOk P w K mg base CX k f fd ps sp ∧ mg x = some (.ref C) ∧ Mk K C f ∧ Binds K fd ps ds ∧ Vals dvs ds
structure MkN (P : Program) (w : World) (K : PySem.W.Frag) (mg : Str → Option Value) (base : Heap) (CX : CXT) (x : Str) (C : Addr) (k n : Nat) (ks : List Str) (gV : List V → List V → List V) (sp : Sp) : Prop where
  ex : ∃ (f : Addr) (fd : FuncData) (ps : List Str) (g : List Value → List Value → List Value), FnOk P w K mg base CX k f fd ps sp ∧ mg x = some (.ref C) ∧ Mk K C f ∧ KBn K fd ps (n + 1) ks g gV
section
variable {X : Cx} {CX : CXT} {k n : Nat} {C : Addr} {sp : Sp} {dvs : List V} {E : XK} {x : Str} {p pos : Pos} {e : Expr} {es : List Expr} {kws : List Keyword} {ks : List Str} {t tk : TA} {gV : List V → List V → List V}
theorem pe_mkC (M : MkC X.prog X.w X.K X.mg X.base CX x C k dvs sp) (hr : Room (k + 1) X.A) (hg : Gl X x) (hx : Passes CX X E) (ha : PA X (e :: es) t) (h1 : (x == ("__debug__" : Str)) = false := by decide)
    (h2 : starEach (e :: es) X.env = (false, eval e X.env) :: starEach es X.env := by rfl) (h3 : (backTo pos (starEach es X.env)).any (·.1) = false := by rfl) : PE X (.Call (.Name x p) (e :: es) [] pos) (tMake C sp dvs E t) := by
  obtain ⟨f, fd, ps, ds, F, hm, M, hb, hd⟩ := M.ex
  exact pe_make M F hr hg hm hb hd hx ha h1 h2 h3
theorem pe_mkC0 (M : MkC X.prog X.w X.K X.mg X.base CX x C k dvs sp) (hr : Room (k + 1) X.A) (hg : Gl X x) (hx : Passes CX X E) (h1 : (x == ("__debug__" : Str)) = false := by decide) : PE X (.Call (.Name x p) [] [] pos) (tMake C sp dvs E tNil) := by
  obtain ⟨f, fd, ps, ds, F, hm, M, hb, hd⟩ := M.ex
  exact pe_make0 M F hr hg hm hb hd hx h1
theorem pe_mkN (M : MkN X.prog X.w X.K X.mg X.base CX x C k n ks gV sp) (hr : Room (k + 1) X.A) (hg : Gl X x) (hx : Passes CX X E) (ha : PA X (e :: es) t) (hkw : PK X kws tk)
    (h1 : (backToKw pos (keywordEach kws X.env)).all (·.1.isSome) = true := by rfl) (h2 : (backToKw pos (keywordEach kws X.env)).filterMap (·.1) = ks := by rfl) (h3 : (x == ("__debug__" : Str)) = false := by decide)
    (h4 : starEach (e :: es) X.env = (false, eval e X.env) :: starEach es X.env := by rfl) (h5 : ((backTo pos (starEach (e :: es) X.env)).any (·.1) || (backToKw pos (keywordEach kws X.env)).any (·.1.isNone)) = false := by rfl) :
    PE X (.Call (.Name x p) (e :: es) kws pos) (tMakeK C n ks.length sp gV E t tk) := by
  obtain ⟨f, fd, ps, g, F, hm, M, hb⟩ := M.ex
  exact pe_makeK M F hr hg hm hb hx ha hkw h1 h2 h3 h4 h5
end
/-- a method as it stands in its class -/
structure MethAt (K : PySem.W.Frag) (C : Addr) (m x qual : Str) (st : Stmt) (dts : List T) (kns : List Str) (kts : List T) : Prop where
  ex : ∃ f fd dvs kvs, (∀ H, RepL K H dvs dts) ∧ (∀ H, RepL K H kvs kts) ∧ FunD K x qual (defArgs st) (defBody st) (defScope st) dvs (kns.zip kvs) f fd ∧ PySem.W.findIn K (.ref C) m = some (some (.ref f))
structure OkM (P : Program) (w : World) (K : PySem.W.Frag) (mg : Str → Option Value) (base : Heap) (CX : CXT) (C : Addr) (m x qual : Str) (st : Stmt) (dts : List T) (kns : List Str) (kts : List T) (lv : Nat) (ps : List Str) (sp : Sp) : Prop where
  ex : ∃ f fd dvs kvs, (∀ H, RepL K H dvs dts) ∧ (∀ H, RepL K H kvs kts) ∧ FunD K x qual (defArgs st) (defBody st) (defScope st) dvs (kns.zip kvs) f fd ∧ PySem.W.findIn K (.ref C) m = some (some (.ref f)) ∧ FnOk P w K mg base CX lv f fd ps sp
/-- a class that is made by __init__ -/
structure ClsAt (K : PySem.W.Frag) (mg : Str → Option Value) (x : Str) : Prop where
  g : mg x = some (.ref ((csOf K mg).at_ x))
  cl : Cls K ((csOf K mg).at_ x)
  mks : PySem.W.makesIn K ((csOf K mg).at_ x) = true
  kp : PySem.W.keepIn K (.ref ((csOf K mg).at_ x)) = true
section
variable {P : Program} {w : World} {K : PySem.W.Frag} {mg : Str → Option Value} {base : Heap} {CX : CXT} {x qual : Str} {st : Stmt} {dts kts : List T} {kns : List Str} {lv : Nat} {ps : List Str} {sp : Sp} {cx : Str}
structure MkNT (P : Program) (w : World) (K : PySem.W.Frag) (mg : Str → Option Value) (base : Heap) (CX : CXT) (x : Str) (C : Addr) (k n : Nat) (ks : List Str) (is : List Nat) (mts : List T) (sp : Sp) : Prop where
  ex : ∃ mvs, (∀ H, RepL K H mvs mts) ∧ MkN P w K mg base CX x C k n ks (fun vs zs => sel is (vs ++ (mvs ++ zs))) sp
structure MkT (P : Program) (w : World) (K : PySem.W.Frag) (mg : Str → Option Value) (base : Heap) (CX : CXT) (x : Str) (C : Addr) (k : Nat) (dts : List T) (sp : Sp) : Prop where
  ex : ∃ dvs, (∀ H, RepL K H dvs dts) ∧ MkC P w K mg base CX x C k dvs sp
/-- C(e, .., k = v, ..); n counts self -/
theorem OkM.mkN0 (O : OkM P w K mg base CX ((csOf K mg).at_ cx) "__init__" x qual st [] kns kts lv ps sp) (M : ClsAt K mg cx) (hf : ∀ f, PySem.W.findIn K (.ref ((csOf K mg).at_ cx)) "__init__" = some (some (.ref f)) → PySem.W.isFn K (.ref f) = true) (n : Nat) (ks : List Str) (ms is : List Nat) (hk : kts ≠ []) (hl : kns.length = kts.length) (hms : ∀ i ∈ ms, i < kns.length)
    (h : ∀ (D : Addr) (doc pm : Value) (an : Option Addr) (cdv ct : Value) (us mv ws : List Value), us.length = n + 1 → mv.length = ms.length → ws.length = ks.length →
      KwChain D ((sel ms kns).zip mv) (bindArgs (PySem.W.fnOf x qual (defArgs st) (defBody st) (defScope st) .none (.ref D) doc pm an cdv ct) ⟨us, ks.zip ws⟩) (ps.zip (sel is (us ++ (mv ++ ws))))) : MkNT P w K mg base CX cx ((csOf K mg).at_ cx) lv n ks is (sel ms kts) sp := by
  obtain ⟨f, fd, dvs, kvs, rd, rk, F, hm, O⟩ := O.ex
  have e := (rd (fun _ => none)).len0
  subst e
  obtain ⟨mvs, g, h1, B⟩ := kbn0 rk F (n + 1) ks ms is hk hl hms h
  exact ⟨mvs, h1, f, fd, ps, g, O, M.g, ⟨M.mks, hm, hf f hm, M.kp⟩, B⟩
/-- C(e, ..): every parameter is written -/
theorem OkM.mkP (O : OkM P w K mg base CX ((csOf K mg).at_ cx) "__init__" x qual st [] kns kts lv ps sp) (M : ClsAt K mg cx) (hf : ∀ f, PySem.W.findIn K (.ref ((csOf K mg).at_ cx)) "__init__" = some (some (.ref f)) → PySem.W.isFn K (.ref f) = true)
    (h : ∀ (kV doc pm : Value) (an : Option Addr) (cdv ct : Value) (us : List Value), us.length = ps.length → bindArgs (PySem.W.fnOf x qual (defArgs st) (defBody st) (defScope st) .none kV doc pm an cdv ct) ⟨us, []⟩ = pure (ps.zip us)) : MkT P w K mg base CX cx ((csOf K mg).at_ cx) lv [] sp := by
  obtain ⟨f, fd, dvs, kvs, rd, rk, F, hm, O⟩ := O.ex
  have e := (rd (fun _ => none)).len0
  subst e
  exact ⟨[], fun _ => .nil, f, fd, ps, [], O, M.g, ⟨M.mks, hm, hf f hm, M.kp⟩, F.bindsN h, .nil⟩
end
theorem methAt_mk {K : PySem.W.Frag} {C : Addr} {m x qual : Str} {st : Stmt} {dts kts : List T} {kns : List Str} {f : Addr} {oc dV kV doc pm cdv ct : Value} {od an : Option Addr} {osl : Array (Option Value)} (hm : PySem.W.findIn K (.ref C) m = some (some (.ref f)))
    (l : K.lookup f = some ⟨oc, od, .func (PySem.W.fnOf x qual (defArgs st) (defBody st) (defScope st) dV kV doc pm an cdv ct), osl⟩) (c : PySem.W.codeIn K cdv qual = true) (k : PySem.W.keepIn K (.ref f) = true)
    (hd : (dts = [] ∧ dV = .none) ∨ (dts ≠ [] ∧ ∃ (Ta : Addr) (o : Obj) (its : List Value) (n : Nat), dV = .ref Ta ∧ K.lookup Ta = some o ∧ o.data = .seq its.toArray n ∧ TreesAt K dts its))
    (hk : (kns = [] ∧ kts = []) ∨ ∃ (D : Addr) (us : List Value), kV = .ref D ∧ TreesAt K kts us ∧ kns.length = us.length ∧ ∀ q ∈ kns.zip us, PySem.W.nsIn K D q.1 = some (some q.2)) : MethAt K C m x qual st dts kns kts := by
  obtain ⟨f', fd, dvs, kvs, h1, h2, F, e⟩ := (defAt_mk (mg := fun _ => some (.ref f)) (x := x) rfl l c k hd hk).ex
  cases e
  exact ⟨_, fd, dvs, kvs, h1, h2, F, hm⟩
end M3

/-! L5D: for .. in zip(x, y), each of x, y a list, a tuple or a text. -/
namespace M3
open PySem PySem.Spec PyProof.Rows L2
/-- a later heap that has all that was there -/
theorem R3.ext {K : PySem.W.Frag} {c : Cf} {Hb H H' : Hp} {G : List Addr} {A : List (Option Addr)} {σ3 : List Sl} {σ : L2.St} (r : R3 K c Hb G A σ3 σ H) (k : ∀ b o, H b = some o → H' b = some o) : Le c G A H H' where
  vis := fun a u e => by
    obtain ⟨e1, e2⟩ := hid_some e
    exact hid_mk (k _ _ e1) e2
  own := fun a ha => by
    have hm : a ∈ c.S G A := mem_S.mpr (by rcases List.mem_append.mp ha with z | z; exact .inr (.inl z); exact .inr (.inr z))
    cases e : H a with
    | none => exact absurd e (r.there hm)
    | some o => exact k _ _ e
  inv := c.st H _ (fun a ha => by
    have hm : a ∈ c.S G A := mem_S.mpr (.inl ha)
    cases e : H a with
    | none => exact absurd e (r.there hm)
    | some o => exact k _ _ e) (fun a φ e => k _ _ e) r.inv
/-- what may be zipped -/
inductive Kd where
  | l (a : Addr) | t (a : Addr) | s (x : Str)
def Kd.v : Kd → V
  | .l a => .ref a
  | .t a => .ref a
  | .s x => .str x
def Kd.has (K : PySem.W.Frag) (H : Hp) : Kd → List V → Prop
  | .l a, xs => SqL K H a xs
  | .t a, xs => SqT K H a xs
  | .s x, xs => xs = x.cps.toList.map fun c => V.str ⟨#[c]⟩
def Kd.fp (j : Addr) : Kd → List Addr
  | .l a => [j, a]
  | .t a => [j, a]
  | .s _ => [j]
def Kd.tn (j : Addr) (i : Nat) (h : Heap) : Kd → Prop
  | .l a => h.IsListIter j a i
  | .t a => h.IsTupleIter j a i
  | .s x => ∃ t, h.IsStrIter j (strIterType x) x t i
def Kd.ne (j : Addr) : Kd → Prop
  | .l a => a ≠ j
  | .t a => a ≠ j
  | .s _ => True
section
variable {X : Cx} {pins : List (Addr × Obj)} {σ : L2.St} {H : Hp} {s : Shared} {j : Addr} {i : Nat} {xs : List V}
theorem Kd.draws (I : Inv X pins σ H s) (k : Kd) (h : k.has X.K H xs) (ne : k.ne j) (tn : k.tn j i s.heap) :
    ∃ (P : Nat → Value → Prop) (St : Nat → Heap → Prop), (∀ B : Around, B.handled = none → Draws X.prog X.w B j (k.fp j) xs.length P St) ∧ St i s.heap ∧ (∀ m v, P m v → ∃ x, xs[m]? = some x ∧ RelV x v) ∧ ∀ m h, St m h → k.tn j m h := by
  cases k with
  | l a =>
    obtain ⟨its, rv, p, _⟩ := I.list h
    have e : its.toArray.size = xs.length := by rw [List.size_toArray]; exact rv.length.symm
    refine ⟨fun i v => its.toArray[i]? = some v, fun i h => h.IsListIter j a i ∧ h.IsList a its.toArray, fun B hB => by rw [← e]; exact Draws.list hB j a ne its.toArray, ⟨tn, p.isList⟩, fun m v hv => ?_, fun m h st => st.1⟩
    have hv : its[m]? = some v := by simpa using hv
    have hm : m < xs.length := by rw [rv.length]; exact (List.getElem?_eq_some_iff.mp hv).1
    obtain ⟨u, hu, r⟩ := rv.get (List.getElem?_eq_getElem hm)
    rw [hv] at hu
    cases hu
    exact ⟨_, List.getElem?_eq_getElem hm, r⟩
  | t a =>
    obtain ⟨its, rv, p, _⟩ := I.tuple h
    have e : its.toArray.size = xs.length := by rw [List.size_toArray]; exact rv.length.symm
    refine ⟨fun i v => its.toArray[i]? = some v, fun i h => h.IsTupleIter j a i ∧ h.IsTuple a its.toArray, fun B hB => by rw [← e]; exact Draws.tuple hB j a ne its.toArray, ⟨tn, p⟩, fun m v hv => ?_, fun m h st => st.1⟩
    have hv : its[m]? = some v := by simpa using hv
    have hm : m < xs.length := by rw [rv.length]; exact (List.getElem?_eq_some_iff.mp hv).1
    obtain ⟨u, hu, r⟩ := rv.get (List.getElem?_eq_getElem hm)
    rw [hv] at hu
    cases hu
    exact ⟨_, List.getElem?_eq_getElem hm, r⟩
  | s x =>
    obtain ⟨t, st⟩ := tn
    have h : xs = x.cps.toList.map fun c => V.str ⟨#[c]⟩ := h
    have e : x.cps.size = xs.length := by rw [h, List.length_map, Array.length_toList]
    refine ⟨fun i v => ∃ c u, x.cps[i]? = some c ∧ v = .str ⟨#[c]⟩ u, fun i h => h.IsStrIter j (strIterType x) x t i, fun B hB => by rw [← e]; exact Draws.text hB j x t, st, fun m v hv => ?_, fun m h st => ⟨t, st⟩⟩
    obtain ⟨c, u, hc, rfl⟩ := hv
    refine ⟨.str ⟨#[c]⟩, ?_, ⟨u, rfl⟩⟩
    rw [h, List.getElem?_map, Array.getElem?_toList, hc]
    rfl
theorem Kd.keep {h h' : Heap} (k : Kd) (tn : k.tn j i h) (kp : ∀ o, h.get? j = some o → h'.get? j = some o) : k.tn j i h' := by
  cases k with
  | l a => exact Heap.IsListIter.at tn kp
  | t a => exact Heap.IsTupleIter.at tn kp
  | s x =>
    obtain ⟨t, o, ho, r⟩ := tn
    exact ⟨t, o, kp o ho, r⟩
theorem Kd.obj {h : Heap} (k : Kd) (tn : k.tn j i h) : ∃ o, h.get? j = some o ∧ ∀ v, o.data ≠ .cell v := by
  cases k with
  | l a =>
    obtain ⟨o, e, _, d⟩ := tn
    exact ⟨o, e, fun v q => by rw [d] at q; cases q⟩
  | t a =>
    obtain ⟨o, e, _, d⟩ := tn
    exact ⟨o, e, fun v q => by rw [d] at q; cases q⟩
  | s x =>
    obtain ⟨t, o, e, _, d⟩ := tn
    exact ⟨o, e, fun v q => by rw [d] at q; cases q⟩
theorem Kd.fp_mem (k : Kd) : j ∈ k.fp j := by cases k <;> exact List.mem_cons_self ..
end
def ItzG (K : PySem.W.Frag) (k1 k2 : Kd) : It :=
  ⟨fun i H => ∃ (xs ys : List V) (x y : V), k1.has K H xs ∧ k2.has K H ys ∧ xs[i]? = some x ∧ ys[i]? = some y,
    fun i H v H' => ∃ Tt x y, v = .ref Tt ∧ H Tt = none ∧ H' = upd H Tt (.tup [x, y]) ∧ (∀ xs, k1.has K H xs → xs[i]? = some x) ∧ ∀ ys, k2.has K H ys → ys[i]? = some y,
    fun i H => ∃ xs ys : List V, k1.has K H xs ∧ k2.has K H ys ∧ i ≤ xs.length ∧ i ≤ ys.length ∧ (i = xs.length ∨ i = ys.length)⟩
theorem Kd.inj {X : Cx} {pins : List (Addr × Obj)} {σ : L2.St} {H : Hp} {s : Shared} (I : Inv X pins σ H s) {xs ys : List V} (k : Kd) (h : k.has X.K H xs) (h' : k.has X.K H ys) : xs = ys := by
  cases k with
  | l a => exact I.list_inj h h'
  | t a => exact I.tuple_inj h h'
  | s x => exact h.trans h'.symm
theorem turn_zipG {P : Program} {w : World} {K : PySem.W.Frag} {elts : List Expr} {kk : Nat} {tpos : Pos} {zz TI TO j1 j2 : Addr} {k1 k2 : Kd} (S : ZipSep2 zz TI TO j1 j2 (k1.fp j1) (k2.fp j2)) (n1 : k1.ne j1) (n2 : k2.ne j2) :
    Turn P w K (.Tuple elts kk tpos) (ItzG K k1 k2) [zz, TI, TO, j1, j2] zz (fun i h => IsZip h zz TI TO .none ∧ IsTupOf2 h TI (.ref j1) (.ref j2) ∧ (∃ x y, IsTupOf2 h TO x y) ∧ k1.tn j1 i h ∧ k2.tn j2 i h) where
  mem := by simp
  obj := fun i h st c hc => by
    obtain ⟨hz, hTI, ⟨x, y, hTO⟩, t1, t2⟩ := st
    have e' : c = zz ∨ c = TI ∨ c = TO ∨ c = j1 ∨ c = j2 := by simpa using hc
    rcases e' with q | q | q | q | q
    · subst q; exact ⟨_, hz, fun v q => nomatch q⟩
    · subst q; exact ⟨_, hTI, fun v q => nomatch q⟩
    · subst q; exact ⟨_, hTO, fun v q => nomatch q⟩
    · subst q; exact k1.obj t1
    · subst q; exact k2.obj t2
  keep := fun i h h' st k => by
    obtain ⟨hz, hTI, ⟨x, y, hTO⟩, t1, t2⟩ := st
    exact ⟨k zz (by simp) _ hz, k TI (by simp) _ hTI, ⟨x, y, k TO (by simp) _ hTO⟩, k1.keep t1 (k j1 (by simp)), k2.keep t2 (k j2 (by simp))⟩
  item := by
    intro X hP hw hK hc i pins s σ H E I hf st hg
    subst hP hw hK
    obtain ⟨hz, hTI, ⟨x0, y0, hTO⟩, t1, t2⟩ := st
    obtain ⟨xs, ys, x, y, hqx, hqy, hx, hy⟩ := hg
    obtain ⟨P1, St1, D1, st1, pr1, to1⟩ := k1.draws I hqx n1 t1
    obtain ⟨P2, St2, D2, st2, pr2, to2⟩ := k2.draws I hqy n2 t2
    have hh := I.ok.hd hc
    have l1 : i < xs.length := (List.getElem?_eq_some_iff.mp hx).1
    have l2 : i < ys.length := (List.getElem?_eq_some_iff.mp hy).1
    have hzl : zz < s.heap.objs.size := Heap.lt_size hz
    refine wpAny_pyNext_zipD2_item S (D1 _ hh) (D2 _ hh) hz hTI hTO st1 st2 l1 l2 fun u u2 h' tk p1 p2 zz' TO' s1' s2' hT hsz hk => ?_
    obtain ⟨xx, ex, ru⟩ := pr1 i u p1
    obtain ⟨yy, ey, ru2⟩ := pr2 i u2 p2
    rw [hx] at ex
    rw [hy] at ey
    cases ex
    cases ey
    refine ⟨_, rfl, wpAny_letOwnedTupleGo_zip (s := { s with heap := h', toks := tk }) zz' fun h'' z'' sb => ?_⟩
    replace sb : Heap.SameBut zz h' h'' := sb
    have hT2 : h''.get? s.heap.objs.size = some { cls := .type "tuple", data := .seq #[u, u2] } := (sb.2 _ (Nat.ne_of_gt hzl)).trans hT
    have new : ObjOk X.prog X.w (upd H s.heap.objs.size (.tup [x, y])) h'' s.heap.objs.size (.tup [x, y]) := ⟨by show 2 ≤ sizeLine; decide, [u, u2], .cons ru (.cons ru2 .nil), ⟨_, hT2, rfl, _, rfl⟩⟩
    have I1 : Inv X pins σ (upd H s.heap.objs.size (.tup [x, y])) { s with heap := h'', toks := tk } :=
      I.turnedNew (t' := tk) (ch := [zz, TI, TO, j1, j2]) (fun c o hb q => (sb.2 c (fun q' => hb (by simp [q']))).trans (hk c o (fun q' => hb (by simp [q'])) (fun q' => hb (by simp [q'])) (fun q' => hb (by simp [q'])) (fun q' => hb (by simp [q'])) q)) hf (Nat.le_refl _) new
    refine ⟨.ref s.heap.objs.size, _, I1, rfl, ⟨_, x, y, rfl, I.hok.fresh (Nat.le_refl _), rfl, fun l hl => by rw [k1.inj I hl hqx]; exact hx, fun l hl => by rw [k2.inj I hl hqy]; exact hy⟩, ⟨z'', ?_, ⟨u, u2, ?_⟩, ?_, ?_⟩, fun c hcm => ?_⟩
    · exact (sb.2 _ S.TIz).trans (hk _ _ S.TIz S.TITO S.TIi1 S.TIi2 hTI)
    · exact (sb.2 _ S.TOz).trans TO'
    · exact k1.keep (to1 _ _ s1') fun o q => (sb.2 _ (fun e => S.zi1 e.symm)).trans q
    · exact k2.keep (to2 _ _ s2') fun o q => (sb.2 _ (fun e => S.zi2 e.symm)).trans q
    · have hlt : c < s.heap.objs.size := by
        have e' : c = zz ∨ c = TI ∨ c = TO ∨ c = j1 ∨ c = j2 := by simpa using hcm
        rcases e' with q | q | q | q | q
        · rw [q]; exact hzl
        · rw [q]; exact Heap.lt_size hTI
        · rw [q]; exact Heap.lt_size hTO
        · rw [q]; obtain ⟨_, e1, _⟩ := k1.obj t1; exact Heap.lt_size e1
        · rw [q]; obtain ⟨_, e2, _⟩ := k2.obj t2; exact Heap.lt_size e2
      rw [upd_ne (Nat.ne_of_lt hlt)]
      exact (hf c hcm).1
  done := by
    intro X hP hw hK hc i pins s σ H E I hf st hg
    subst hP hw hK
    obtain ⟨hz, hTI, ⟨x0, y0, hTO⟩, t1, t2⟩ := st
    obtain ⟨xs, ys, hqx, hqy, le1, le2, hend⟩ := hg
    obtain ⟨P1, St1, D1, st1, _, _⟩ := k1.draws I hqx n1 t1
    obtain ⟨P2, St2, D2, st2, _, _⟩ := k2.draws I hqy n2 t2
    have hh := I.ok.hd hc
    exact wpAny_pyNext_zipD2_end S (D1 _ hh) (D2 _ hh) hz hTI hTO st1 st2 le1 le2 hend fun h' tk hk => ⟨rfl, I.turnedL (t' := tk) (ch := [zz, TI, TO, j1, j2]) (fun c o hb q =>
      hk c o (fun q' => hb (by simp [q'])) (fun q' => hb (by simp [q'])) (fun q' => hb (by simp [q'])) (fun q' => hb (by simp [q'])) q) hf⟩
  self := fun A i s Q E st h => wpAny_pyIter_zip st.1 h
def iZipG (K : PySem.W.Frag) (ta : TA) : TI := fun σ H R => ta σ H fun vs H1 => ∃ k1 k2 xs ys, vs = [Kd.v k1, Kd.v k2] ∧ k1.has K H1 xs ∧ k2.has K H1 ys ∧ R (ItzG K k1 k2) H1
/-- iter of such a thing -/
theorem Kd.begins {X : Cx} {pins : List (Addr × Obj)} {σ : L2.St} {H : Hp} {s : Shared} {xs : List V} {u : Value} (I : Inv X pins σ H s) (k : Kd) (h : k.has X.K H xs) (r : RelV k.v u) :
    ∃ o B, Begins u o B ∧ B s.heap ∧ (∀ j h, h.get? j = some o → k.tn j 0 h) ∧ ∀ b, b ∈ k.fp b → True ∧ ∀ c, s.heap.objs.size ≤ c → c ∉ (k.fp c).tail ∧ k.ne c ∧ ∀ d, s.heap.objs.size ≤ d → c ≠ d → c ∉ k.fp d := by
  cases k with
  | l a =>
    obtain ⟨its, rv, p, _⟩ := I.list h
    cases r
    have la : a < s.heap.objs.size := p.lt
    refine ⟨_, _, begins_list a its.toArray, p.isList, fun j h e => ⟨_, e, rfl, rfl⟩, fun b _ => ⟨trivial, fun c hc => ?_⟩⟩
    have ac : a ≠ c := Nat.ne_of_lt (Nat.lt_of_lt_of_le la hc)
    exact ⟨by simp [Kd.fp]; exact fun e => ac e.symm, ac, fun d _ cd => by simp [Kd.fp]; exact ⟨cd, fun e => ac e.symm⟩⟩
  | t a =>
    obtain ⟨its, rv, p, _⟩ := I.tuple h
    cases r
    have la : a < s.heap.objs.size := by
      obtain ⟨o, ho, _⟩ := id p
      exact Heap.lt_size ho
    refine ⟨_, _, begins_tuple a its.toArray, p, fun j h e => ⟨_, e, rfl, rfl⟩, fun b _ => ⟨trivial, fun c hc => ?_⟩⟩
    have ac : a ≠ c := Nat.ne_of_lt (Nat.lt_of_lt_of_le la hc)
    exact ⟨by simp [Kd.fp]; exact fun e => ac e.symm, ac, fun d _ cd => by simp [Kd.fp]; exact ⟨cd, fun e => ac e.symm⟩⟩
  | s x =>
    obtain ⟨t, rfl⟩ := r
    refine ⟨_, _, begins_text x t, trivial, fun j h e => ⟨t, _, e, rfl, rfl⟩, fun b _ => ⟨trivial, fun c hc => ?_⟩⟩
    exact ⟨by simp [Kd.fp], trivial, fun d _ cd => by simp [Kd.fp]; exact cd⟩
theorem pi_zipG {X : Cx} {K : PySem.W.Frag} {e e2 : Expr} {ta : TA} {p pos tpos : Pos} {elts : List Expr} {kk : Nat} (hK : X.K = K) (hg : Gl X "zip") (hm : X.mg "zip" = none) (ha : PA X [e, e2] ta)
    (hs : starEach [e, e2] X.env = (false, eval e X.env) :: starEach [e2] X.env := by rfl) (hpl : (backTo pos (starEach [e2] X.env)).any (·.1) = false := by rfl) :
    PI X (.Tuple elts kk tpos) (.Call (.Name "zip" p) [e, e2] [] pos) (iZipG K ta) := by
  subst hK
  refine ⟨fun pins s σ H R I h => ?_⟩
  refine Call_ (ld_blt I hg hm PyProof.Rows.boot_zip (PyProof.Rows.callWith_type1 (thn (ha.run pos pins s σ H _ I h) fun us s1 ⟨vs, H1, I1, r1, q1⟩ => ?_) hs hpl))
  obtain ⟨k1, k2, xs, ys, ex, hqx, hqy, q⟩ := q1
  subst ex
  cases r1 with
  | cons r rr =>
    cases rr with
    | cons r' rr =>
      cases rr
      have fresh5 : ∀ c, c ∈ [s1.heap.objs.size + 4, s1.heap.objs.size + 2, s1.heap.objs.size + 3, s1.heap.objs.size, s1.heap.objs.size + 1] → FpOk X pins H1 c := fun c hcm => by
        have hle : s1.heap.objs.size ≤ c := by
          have e' : c = s1.heap.objs.size + 4 ∨ c = s1.heap.objs.size + 2 ∨ c = s1.heap.objs.size + 3 ∨ c = s1.heap.objs.size ∨ c = s1.heap.objs.size + 1 := by simpa using hcm
          rcases e' with z | z | z | z | z <;> rw [z] <;> first | exact Nat.le_add_right _ _ | exact Nat.le_refl _
        exact I1.fpOk hle (I1.hok.fresh hle)
      obtain ⟨o1, B1, b1, hb1, t1, f1⟩ := k1.begins I1 hqx r
      obtain ⟨o2, B2, b2, hb2, t2, f2⟩ := k2.begins I1 hqy r'
      have g1 := fun c hc => (f1 0 (k1.fp_mem (j := 0))).2 c hc
      have g2 := fun c hc => (f2 0 (k2.fp_mem (j := 0))).2 c hc
      refine zip_begins2 b1 b2 hb1 hb2 fun h' hz hTI hTO h1 h2 hsz hk => wpAny_pyIter_zip hz ?_
      have I2 : Inv X pins σ H1 { s1 with heap := h' } := I1.kept (t' := s1.toks) hk
      have ge : ∀ j, s1.heap.objs.size ≤ s1.heap.objs.size + j := fun j => Nat.le_add_right _ j
      have ne : ∀ i j : Nat, i ≠ j → s1.heap.objs.size + i ≠ s1.heap.objs.size + j := fun i j h e => h (Nat.add_left_cancel e)
      have S : ZipSep2 (s1.heap.objs.size + 4) (s1.heap.objs.size + 2) (s1.heap.objs.size + 3) s1.heap.objs.size (s1.heap.objs.size + 1) (k1.fp s1.heap.objs.size) (k2.fp (s1.heap.objs.size + 1)) :=
        ⟨ne 2 4 (by decide), ne 3 4 (by decide), ne 2 3 (by decide), ne 2 0 (by decide), k1.fp_mem, (g1 _ (ge 4)).2.2 _ (ge 0) (ne 4 0 (by decide)), (g1 _ (ge 3)).2.2 _ (ge 0) (ne 3 0 (by decide)), ne 2 1 (by decide), k2.fp_mem,
          (g2 _ (ge 4)).2.2 _ (ge 1) (ne 4 1 (by decide)), (g2 _ (ge 3)).2.2 _ (ge 1) (ne 3 1 (by decide)), (g2 _ (ge 0)).2.2 _ (ge 1) (ne 0 1 (by decide)), (g1 _ (ge 1)).2.2 _ (ge 0) (ne 1 0 (by decide))⟩
      exact ⟨s1.heap.objs.size + 4, [s1.heap.objs.size + 4, s1.heap.objs.size + 2, s1.heap.objs.size + 3, s1.heap.objs.size, s1.heap.objs.size + 1], _, _, H1, rfl, I2, turn_zipG S (g1 _ (ge 0)).2.1 (g2 _ (ge 1)).2.1, ⟨hz, hTI, ⟨_, _, hTO⟩, t1 _ _ h1, t2 _ _ h2⟩, fresh5, q⟩
/-! ### over trees -/
section
variable {K : PySem.W.Frag} {c : Cf} {W : WX}
/-- what a tree is when it is walked -/
theorem Rep.kd {S : List Addr} {H : Hp} {v : V} {t : T} {ds : List T} (r : Rep K (hid S H) v t) (h : itemsP t = some ds) : ∃ k vs, v = Kd.v k ∧ RepL K (hid S H) vs ds ∧ ∀ S' H', Same (hid S H) (hid S' H') → k.has K H' vs := by
  cases t with
  | lst xs =>
    obtain ⟨a, vs, rfl, h1, h2⟩ := r.lstI
    cases h
    exact ⟨.l a, vs, rfl, h2, fun S' H' e => SqL.of (hid_same _ _ (e _ _ h1))⟩
  | tup xs =>
    obtain ⟨a, vs, rfl, h1, h2⟩ := r.tupI
    cases h
    exact ⟨.t a, vs, rfl, h2, fun S' H' e => Same.sqT hid_same (Same.sqT e h1)⟩
  | str z =>
    cases r.strI
    cases h
    refine ⟨.s z, z.cps.toList.map fun c => V.str ⟨#[c]⟩, rfl, ?_, fun _ _ _ => rfl⟩
    have : ∀ l : List Nat, RepL K (hid S H) (l.map fun c => V.str ⟨#[c]⟩) (l.map chT) := fun l => by
      induction l with
      | nil => exact .nil
      | cons c l ih => exact .cons (.str _) ih
    exact this _
  | _ => cases h
theorem walks_zipG {S : List Addr} {H0 : Hp} {k1 k2 : Kd} {vs ws : List V} {xs ys : List T} (ha : ∀ S' H', Same (hid S H0) (hid S' H') → k1.has K H' vs) (hb : ∀ S' H', Same (hid S H0) (hid S' H') → k2.has K H' ws) (r : RepL K (hid S H0) vs xs) (s : RepL K (hid S H0) ws ys) :
    WalksB K true (hid S H0) (ItzG K k1 k2) (pairT xs ys) where
  go := fun i d S' H hd e => by
    obtain ⟨x, y, h1, h2, _⟩ := pairT_get hd
    obtain ⟨v, hv, _⟩ := r.get h1
    obtain ⟨w, hw, _⟩ := s.get h2
    exact ⟨vs, ws, v, w, ha _ _ e, hb _ _ e, hv, hw⟩
  yld := fun i d S' H x H' hd e hS y => by
    obtain ⟨x1, y1, h1, h2, rfl⟩ := pairT_get hd
    obtain ⟨v, hv, rv⟩ := r.get h1
    obtain ⟨w, hw, rw'⟩ := s.get h2
    obtain ⟨Tt, p, q, rfl, hT, e', f1, f2⟩ := y
    have z1 := f1 vs (ha _ _ e)
    have z2 := f2 ws (hb _ _ e)
    rw [hv] at z1
    rw [hw] at z2
    cases z1
    cases z2
    exact yld_pair hS hT e' (rv.mono e) (rw'.mono e)
  stop := fun S' H e => ⟨vs, ws, ha _ _ e, hb _ _ e, by rw [pairT_len, r.length]; exact Nat.min_le_left _ _, by rw [pairT_len, s.length]; exact Nat.min_le_right _ _, by rw [pairT_len, r.length, s.length]; omega⟩
def iterZG3 (x : A3) : A3 := fun σ Q X => x σ (fun ds => ob (two ds) fun p => ob (itemsP p.1) fun xs => ob (itemsP p.2) fun ys => Q (pairT xs ys)) X
theorem lift_iZG {t : TA} {x : A3} (ha : LiftA K c W t x) : LiftIB K c true W (iZipG K t) (iterZG3 x) := by
  intro σ3 Q3 X h Hb G A σ H R' R k e
  refine ha _ _ _ h Hb G A σ H _ R (fun v d H1 L1 r q => ?_) e
  obtain ⟨⟨d, d'⟩, ed, q1⟩ := ob_iff.mp q
  obtain ⟨xs, ex, q2⟩ := ob_iff.mp q1
  obtain ⟨ys, ey, q3⟩ := ob_iff.mp q2
  cases two_is ed
  obtain ⟨v, w, rfl, rv, rw'⟩ := repL_two r
  obtain ⟨k1, vs, rfl, rl1, a1⟩ := rv.kd ex
  obtain ⟨k2, ws, rfl, rl2, a2⟩ := rw'.kd ey
  exact ⟨k1, k2, vs, ws, rfl, a1 _ _ (Same.refl _), a2 _ _ (Same.refl _), k _ _ H1 L1 (walks_zipG a1 a2 rl1 rl2) q3⟩
end
end M3

/-! L5E: [x for a in e for x in f], flat. -/
namespace M3
open PySem L2
def flatC (s1 : A3) (i : Nat) (σ : List Sl) (X : X3) (Q : List T → Prop) : List T → List T → Prop
  | [], acc => Q acc
  | d :: r, acc => s1 (σ.set i (.val d)) (fun es => acc.length + es.length ≤ sizeLine ∧ flatC s1 i σ X Q r (acc ++ es)) X
def lcF3 (s : A3) (i : Nat) (s1 : A3) (j : Nat) : E3 := fun σ Q X => noOwn σ [i, j] ∧ j < σ.length ∧ s σ (fun ds => flatC s1 i (wipe3 σ [i, j]) X (fun ys => Q (.lst ys)) ds []) X
section
variable {K : PySem.W.Frag} {c : Cf} {W : WX} {Hb H H1 H' : Hp} {G : List Addr} {A A' : List (Option Addr)} {σ3 σ3' : List Sl} {σ σ' : St}
theorem R3.unown (r : R3 K c Hb G A σ3 σ H) {i : Nat} (h : ∀ t, σ3[i]? ≠ some (.own t)) : A.set i none = A := by
  apply set_eq_self
  by_cases hv : i < A.length
  · left
    have h1 : i < σ3.length := by rw [← r.l1]; exact hv
    have h2 : i < σ.length := by rw [r.l2]; exact h1
    have q := r.at_ i _ _ _ (List.getElem?_eq_getElem h1) (List.getElem?_eq_getElem hv) (List.getElem?_eq_getElem h2)
    rw [List.getElem?_eq_getElem hv]
    cases e : σ3[i] with
    | no => rw [e] at q; rw [q]
    | val t => rw [e] at q; rw [q.1]
    | own t => exact absurd (by rw [List.getElem?_eq_getElem h1, e]) (h t)
  · exact .inr (Nat.le_of_not_lt hv)
theorem wipe_set {vs : List Nat} {σ : St} {i : Nat} {x : Option V} (h : i ∈ vs) : wipe ((wipe σ vs).set i x) vs = wipe σ vs := by
  rw [wipe_eq (σ := wipe σ vs) (by rw [List.length_set]) (fun j hj => List.getElem?_set_ne (fun z => hj (by rw [← z]; exact h))), wipe_wipe]
theorem lift_lcF {i j : Nat} {wi wi1 : TI} {s s1 : A3} (hij : i ≠ j) (hi : LiftI K c W wi s) (hi1 : LiftI K c W wi1 s1) (hW : ∀ cls dd σ σ' H, W cls dd σ H → W cls dd σ' H) :
    Lift K c W (tLc2 wi (gName i) tYes wi1 (gName j) tYes (tVar j) [i, j] [j]) (lcF3 s i s1 j) := by
  intro σ3 Q3 X h Hb G A σ H Q R k e
  obtain ⟨no, jl, h⟩ := h
  refine hi _ _ _ h Hb G A σ H _ R (fun J ds H1 L1 w q => ?_) e
  have R1 := R.le L1
  intro D hD
  have nD : D ∉ c.S G A := R1.free hD
  have RW := R1.wiped (vs := [i, j]) no
  have hAi : A.set i none = A := RW.unown fun t z => no i (by simp) t (wipe3_own z)
  have sD : ∀ a, a ∈ c.S (D :: G) A ↔ a ∈ D :: c.S G A := fun a => by
    rw [mem_S, List.mem_cons, List.mem_cons, mem_S]
    exact ⟨fun h => by rcases h with h | (h | h) | h <;> simp [h], fun h => by rcases h with h | h | h | h <;> simp [h]⟩
  have sm1 : ∀ H, Same (hid (c.S (D :: G) A) H) (hid (D :: c.S G A) H) := fun H => hid_mono fun a h => (sD a).mpr h
  have sm2 : ∀ H, Same (hid (D :: c.S G A) H) (hid (c.S (D :: G) A) H) := fun H => hid_mono fun a h => (sD a).mp h
  have sm3 : ∀ H, Same (hid (D :: c.S G A) H) (hid (c.S G A) H) := fun H => hid_mono fun a h => List.mem_cons_of_mem _ h
  refine ⟨fun i' m H' => m = ds.length - i' ∧ i' ≤ ds.length ∧ ∃ accV acc, H' D = some (.lst accV) ∧ RepL K (hid (D :: c.S G A) H') accV acc ∧ flatC s1 i (wipe3 σ3 [i, j]) X (fun ys => Q3 (.lst ys)) (ds.drop i') acc ∧
    Same (hid (c.S G A) H1) (hid (D :: c.S G A) H') ∧ (∀ a ∈ G ++ addrs A, H' a = H1 a) ∧ c.I H', ⟨ds.length, rfl, Nat.zero_le _, [], [], upd_same, .nil, by simpa using q, ?_, ?_, ?_⟩, ?_⟩
  · rw [hid_upd_in (List.mem_cons_self ..)]
    intro a o z
    obtain ⟨z1, z2⟩ := hid_some z
    exact hid_mk z1 fun y => by
      rcases List.mem_cons.mp y with y | y
      · subst y; rw [hD] at z1; cases z1
      · exact z2 y
  · exact (R1.new (o := .lst []) hD).own
  · exact (R1.new (o := .lst []) hD).inv
  rintro i' m H2 ⟨rfl, hi', accV, acc, hd2, racc, q2, vis, own, inv⟩
  have vis' : Same (hid (c.S G A) H1) (hid (c.S G A) H2) := Same.trans vis (sm3 _)
  by_cases hl : i' = ds.length
  · subst hl
    left
    refine ⟨w.stop _ _ vis', ?_⟩
    have e' : ds.drop ds.length = [] := List.drop_length
    rw [e'] at q2
    exact k _ _ H2 (L1.trans ⟨vis', own, inv⟩) (.mkL (hid_mk hd2 nD) (racc.mono (sm3 _))) q2
  · right
    have hlt : i' < ds.length := Nat.lt_of_le_of_ne hi' hl
    have hdd : ds[i']? = some ds[i'] := List.getElem?_eq_getElem hlt
    rw [List.drop_eq_getElem_cons hlt] at q2
    refine ⟨w.go i' _ _ _ hdd vis', fun H3 => ∃ accV acc, H3 D = some (.lst accV) ∧ RepL K (hid (D :: c.S G A) H3) accV acc ∧ flatC s1 i (wipe3 σ3 [i, j]) X (fun ys => Q3 (.lst ys)) (ds.drop (i' + 1)) acc ∧
      Same (hid (c.S G A) H1) (hid (D :: c.S G A) H3) ∧ (∀ a ∈ G ++ addrs A, H3 a = H1 a) ∧ c.I H3, ?_, ?_⟩
    · rintro H3 ⟨accV, acc, z⟩
      exact ⟨ds.length - (i' + 1), by omega, rfl, hlt, accV, acc, z⟩
    · intro x H3 y
      have RU := RW.under hD hd2 vis own inv (c.gL _)
      obtain ⟨hn, rxb⟩ := w.yld i' _ (c.S (D :: G) A) _ x H3 hdd (Same.trans vis (sm2 _)) (fun a h => RU.there h) y
      have rx := rxb.f
      have L3 : Le c (D :: G) A H2 H3 := by
        rcases hn with rfl | ⟨p, o, hp, rfl⟩
        · exact Le.refl inv
        · exact RU.new hp
      have R4 := (RU.le L3).set i rx
      rw [hAi] at R4
      have back : ∀ H', Le c (D :: G) A H2 H' → Same (hid (c.S G A) H1) (hid (D :: c.S G A) H') ∧ (∀ a ∈ G ++ addrs A, H' a = H1 a) ∧ c.I H' ∧ H' D = some (.lst accV) := fun H' L => by
        refine ⟨Same.trans vis (Same.trans (sm2 _) (Same.trans L.vis (sm1 _))), fun a h => ?_, L.inv, ?_⟩
        · rw [L.own a (by rcases List.mem_append.mp h with h | h <;> simp [h]), own a h]
        · rw [L.own D (by simp), hd2]
      have exn : ∀ (σ' : St) cls dd x H', Le c (D :: G) A H2 H' → XRep K (hid (c.S (D :: G) A) H') cls dd x → X x → W cls dd σ' H' := fun σ' cls dd x H' L r hx => by
        obtain ⟨b1, b2, b3, b4⟩ := back H' L
        refine hW cls dd σ σ' H' (e cls dd x H' (L1.trans ⟨Same.trans b1 (sm3 _), b2, b3⟩) ?_ hx)
        have sm : Same (hid (c.S (D :: G) A) H') (hid (c.S G A) H') := Same.trans (sm1 _) (sm3 _)
        obtain ⟨r1, r2⟩ := r
        refine ⟨r1, ?_⟩
        cases dd with
        | none => exact r2
        | some d =>
          obtain ⟨fs, f1, f2, f3⟩ := r2
          exact ⟨fs, sm _ _ f1, f2, f3.mono sm⟩
      refine ⟨wipe_set (by simp), ?_⟩
      unfold tYes
      dsimp only
      rw [if_pos rfl]
      refine hi1 _ _ _ q2 _ (D :: G) A _ H3 _ R4 (fun J1 es H4 L4 w1 q4 => ?_) (fun cls dd x H' L => exn _ cls dd x H' (L3.trans L))
      obtain ⟨hsz, q4⟩ := q4
      obtain ⟨b1, b2, b3, b4⟩ := back H4 (L3.trans L4)
      refine ⟨fun jj k' H' => k' = es.length - jj ∧ jj ≤ es.length ∧ ∃ accV', H' D = some (.lst accV') ∧ RepL K (hid (D :: c.S G A) H') accV' (acc ++ es.take jj) ∧ Same (hid (c.S (D :: G) A) H4) (hid (c.S (D :: G) A) H') ∧ (∀ a ∈ G ++ addrs A, H' a = H1 a) ∧ c.I H',
        ⟨es.length, rfl, Nat.zero_le _, accV, b4, by simpa using racc.mono (Same.trans (sm2 _) (Same.trans (L3.trans L4).vis (sm1 _))), Same.refl _, b2, b3⟩, ?_⟩
      rintro jj k' H5 ⟨rfl, hjj, accV5, hd5, racc5, vis5, own5, inv5⟩
      have here : ∀ a ∈ c.S (D :: G) A, H5 a ≠ none := fun a ha => by
        rcases List.mem_cons.mp ((sD a).mp ha) with z | z
        · rw [z, hd5]; intro y; cases y
        · rcases mem_S.mp z with z | z | z
          · exact c.on H5 inv5 a z
          · rw [own5 a (List.mem_append.mpr (.inl z))]; exact R1.there (mem_S.mpr (.inr (.inl z)))
          · rw [own5 a (List.mem_append.mpr (.inr z))]; exact R1.there (mem_S.mpr (.inr (.inr z)))
      by_cases hl5 : jj = es.length
      · subst hl5
        left
        rw [List.take_length] at racc5
        exact ⟨w1.stop _ _ vis5, accV5, acc ++ es, hd5, racc5, q4, Same.trans b1 (Same.trans (sm2 _) (Same.trans vis5 (sm1 _))), own5, inv5⟩
      · right
        have hlt5 : jj < es.length := Nat.lt_of_le_of_ne hjj hl5
        have hee : es[jj]? = some es[jj] := List.getElem?_eq_getElem hlt5
        refine ⟨w1.go jj _ _ _ hee vis5, fun H' => ∃ accV', H' D = some (.lst accV') ∧ RepL K (hid (D :: c.S G A) H') accV' (acc ++ es.take (jj + 1)) ∧ Same (hid (c.S (D :: G) A) H4) (hid (c.S (D :: G) A) H') ∧ (∀ a ∈ G ++ addrs A, H' a = H1 a) ∧ c.I H', ?_, ?_⟩
        · rintro H' z
          exact ⟨es.length - (jj + 1), by omega, rfl, hlt5, z⟩
        · intro x5 H6 y6
          obtain ⟨hn6, rxb6⟩ := w1.yld jj _ _ _ x5 H6 hee vis5 here y6
          have rx6 := rxb6.f
          have f6 : Same (hid (c.S (D :: G) A) H5) (hid (c.S (D :: G) A) H6) ∧ (∀ a ∈ G ++ addrs A, H6 a = H1 a) ∧ c.I H6 ∧ H6 D = some (.lst accV5) := by
            rcases hn6 with rfl | ⟨p, o, hp, rfl⟩
            · exact ⟨Same.refl _, own5, inv5, hd5⟩
            · have np : ∀ a, H5 a ≠ none → a ≠ p := fun a h z => h (by rw [z]; exact hp)
              refine ⟨fun a u z => ?_, fun a ha => ?_, ?_, ?_⟩
              · obtain ⟨z1, z2⟩ := hid_some z
                exact hid_mk (by rw [upd_ne (ne_of_none z1 hp)]; exact z1) z2
              · rw [upd_ne (np a (here a ((sD a).mpr (List.mem_cons_of_mem _ (mem_S.mpr (by rcases List.mem_append.mp ha with z | z; exact .inr (.inl z); exact .inr (.inr z)))))))]
                exact own5 a ha
              · exact c.st H5 _ (fun a ha => by rw [upd_ne (np a (c.on H5 inv5 a ha))]) (fun a φ z => by rw [upd_ne (ne_of_none z hp)]; exact z) inv5
              · rw [upd_ne (np D (by rw [hd5]; intro z; cases z))]; exact hd5
          obtain ⟨v6, o6, i6, d6⟩ := f6
          refine ⟨wipe_set (by simp), ?_⟩
          try unfold tYes
          dsimp only
          rw [if_pos rfl]
          refine ⟨x5, ?_, accV5, d6, ?_, ?_⟩
          · rw [List.getElem?_set_self]
            rw [wipe_length, List.length_set, wipe_length, R1.l2]
            exact jl
          · rw [racc5.length, List.length_append, List.length_take]
            omega
          · have nDo : ∀ a ∈ G ++ addrs A, a ≠ D := fun a ha z => by
              subst z
              exact nD (mem_S.mpr (by rcases List.mem_append.mp ha with z | z; exact .inr (.inl z); exact .inr (.inr z)))
            have et : acc ++ es.take (jj + 1) = (acc ++ es.take jj) ++ [es[jj]] := by rw [List.take_succ_eq_append_getElem hlt5, List.append_assoc]
            refine ⟨accV5 ++ [x5], upd_same, ?_, ?_, fun a ha => by rw [upd_ne (nDo a ha)]; exact o6 a ha, ?_⟩
            · rw [hid_upd_in (List.mem_cons_self ..), et]
              exact (racc5.mono (Same.trans (sm2 _) (Same.trans v6 (sm1 _)))).append (.cons (rx6.mono (sm1 _)) .nil)
            · rw [hid_upd_in ((sD D).mpr (List.mem_cons_self ..))]
              exact Same.trans vis5 v6
            · exact c.st H6 _ (fun a ha => by rw [upd_ne (fun z => nD (by rw [← z]; exact mem_S.mpr (.inl ha)))]) (fun a φ z => by rw [upd_ne (ne_of z d6 (by intro y; cases y))]; exact z) i6
end
end M3

/-! L5F: dicts of the module by text keys, {written}.get(x, y). -/
namespace M3
open PySem PySem.Spec PyProof.Rows L2
inductive DEnts (K : PySem.W.Frag) (P : Params) : List (Str × T) → List DictEntry → Prop
  | nil : DEnts K P [] []
  | cons {x : Str} {t : Tok} {tr : T} {v : Value} {r : List (Str × T)} {es : List DictEntry} (h : TreeAt K tr v) (q : DEnts K P r es) : DEnts K P ((x, tr) :: r) (⟨PyData.keyHash P x, .str x t, v⟩ :: es)
structure KdAt (K : PySem.W.Frag) (w : World) (d : Addr) (kts : List (Str × T)) : Prop where
  ex : ∃ es n, KDict K w d es n ∧ DEnts K w.params kts es.toList
theorem DEnts.lit {K : PySem.W.Frag} {P : Params} : ∀ {kts : List (Str × T)} {es : List DictEntry}, DEnts K P kts es → PySem.W.KeysLit P es
  | _, _, .nil => trivial
  | _, _, .cons _ q => ⟨⟨_, _, rfl, rfl⟩, q.lit⟩
theorem kdAt_mk {K : PySem.W.Frag} {w : World} {d : Addr} {kts : List (Str × T)} {es : Array DictEntry} {n : Nat} {l : List DictEntry} (h : K.lookup d = some ⟨.type "dict", none, .dict es n, #[]⟩) (lo : (d == sysModules) = false) (he : es.toList = l) (q : DEnts K w.params kts l) : KdAt K w d kts :=
  ⟨es, n, ⟨h, by rw [he]; exact q.lit, lo⟩, by rw [he]; exact q⟩
def Look (K : PySem.W.Frag) (es : List DictEntry) (z : Str) : Option T → Prop
  | some tr => ∃ e, es.find? (·.key.isStr z) = some e ∧ TreeAt K tr e.val
  | none => es.find? (·.key.isStr z) = none
theorem DEnts.look {K : PySem.W.Frag} {P : Params} {z : Str} : ∀ {kts : List (Str × T)} {es : List DictEntry}, DEnts K P kts es → Look K es z (kts.lookup z)
  | _, _, .nil => rfl
  | _, _, @DEnts.cons _ _ x t tr v r es h q => by
    have ih := q.look (z := z)
    by_cases e : z = x
    · subst e
      have l1 : ((z, tr) :: r).lookup z = some tr := by simp [List.lookup]
      rw [l1]
      exact ⟨_, by rw [List.find?_cons_of_pos]; simp [Value.isStr], h⟩
    · have l1 : ((x, tr) :: r).lookup z = r.lookup z := by
        have e' : (z == x) = false := by simpa using e
        simp [List.lookup, e']
      have n1 : ∀ w' : Value, (⟨PyData.keyHash P x, .str x t, w'⟩ : DictEntry).key.isStr z = false := fun w' => by
        show (Value.str x t).isStr z = false
        simp [Value.isStr]
        exact fun y => e y.symm
      rw [l1]
      have f1 : (⟨PyData.keyHash P x, .str x t, v⟩ :: es).find? (·.key.isStr z) = es.find? (·.key.isStr z) := by rw [List.find?_cons_of_neg]; simpa using n1 v
      revert ih
      cases r.lookup z with
      | none => intro ih; exact f1.trans ih
      | some tr' => intro ⟨e', h1, h2⟩; exact ⟨e', f1.trans h1, h2⟩
theorem DEnts.noref {K : PySem.W.Frag} {P : Params} : ∀ {kts : List (Str × T)} {es : List DictEntry}, DEnts K P kts es → es.any (·.refKey) = false
  | _, _, .nil => rfl
  | _, _, .cons _ q => by
    rw [List.any_cons, q.noref]
    rfl
theorem KdAt.some_ {K : PySem.W.Frag} {w : World} {d : Addr} {kts : List (Str × T)} (h : KdAt K w d kts) {z : Str} {tr : T} (e : kts.lookup z = some tr) : ∃ u, PySem.W.nsIn K d z = some (some u) ∧ TreeAt K tr u := by
  obtain ⟨es, n, D, E⟩ := h.ex
  have l := E.look (z := z)
  rw [e] at l
  obtain ⟨en, h1, h2⟩ := l
  refine ⟨en.val, ?_, h2⟩
  unfold PySem.W.nsIn
  rw [D.at_]
  show (match es.toList.find? (·.key.isStr z) with | some e => some (some e.val) | none => _) = _
  rw [h1]
theorem KdAt.none_ {K : PySem.W.Frag} {w : World} {d : Addr} {kts : List (Str × T)} (h : KdAt K w d kts) {z : Str} (e : kts.lookup z = none) : PySem.W.nsIn K d z = some none := by
  obtain ⟨es, n, D, E⟩ := h.ex
  have l := E.look (z := z)
  rw [e] at l
  have l : es.toList.find? (·.key.isStr z) = none := l
  unfold PySem.W.nsIn
  rw [D.at_]
  show (match es.toList.find? (·.key.isStr z) with | some e => some (some e.val) | none => if es.toList.any (·.refKey) then none else some none) = _
  rw [l]
  show (if es.toList.any (·.refKey) then none else some none) = _
  rw [E.noref]
  rfl
def rInK (d : Addr) (kts : List (Str × T)) (neg : Bool) : R2 := fun x y H Q => ∃ z, x = .str z ∧ y = .ref d ∧ Q (.bl (if neg then !(kts.lookup z).isSome else (kts.lookup z).isSome)) H
def rGetK (K : PySem.W.Frag) (d : Addr) (kts : List (Str × T)) : R2 := fun x y H Q => ∃ z tr, x = .ref d ∧ y = .str z ∧ kts.lookup z = some tr ∧ ∀ v, (∀ H, Rep K H v tr) → Q v H
section
variable {X : Cx} {K : PySem.W.Frag} {w : World} {d : Addr} {kts : List (Str × T)}
theorem op_inKd (hK : X.K = K) (hw : X.w = w) (D : KdAt K w d kts) : OpR X (compareOp .In) (rInK d kts false) := by
  subst hK hw
  intro pins s σ H x y v u Q I rx ry h
  obtain ⟨z, rfl, rfl, q⟩ := h
  obtain ⟨es, n, D0, E⟩ := D.ex
  cases e : kts.lookup z with
  | none => exact op_in_kd D0 pins s σ H _ _ v u Q I rx ry ⟨z, none, rfl, rfl, D.none_ e, by rw [e] at q; exact q⟩
  | some tr =>
    obtain ⟨u0, h1, _⟩ := D.some_ e
    exact op_in_kd D0 pins s σ H _ _ v u Q I rx ry ⟨z, some u0, rfl, rfl, h1, by rw [e] at q; exact q⟩
theorem op_notInKd (hK : X.K = K) (hw : X.w = w) (D : KdAt K w d kts) : OpR X (compareOp .NotIn) (rInK d kts true) := by
  subst hK hw
  intro pins s σ H x y v u Q I rx ry h
  obtain ⟨z, rfl, rfl, q⟩ := h
  obtain ⟨es, n, D0, E⟩ := D.ex
  cases e : kts.lookup z with
  | none => exact op_notIn_kd D0 pins s σ H _ _ v u Q I rx ry ⟨z, none, rfl, rfl, D.none_ e, by rw [e] at q; exact q⟩
  | some tr =>
    obtain ⟨u0, h1, _⟩ := D.some_ e
    exact op_notIn_kd D0 pins s σ H _ _ v u Q I rx ry ⟨z, some u0, rfl, rfl, h1, by rw [e] at q; exact q⟩
theorem ix_kd (hK : X.K = K) (hw : X.w = w) (D : KdAt K w d kts) : IxR X (rGetK K d kts) := by
  subst hK hw
  intro value slice pins s σ H x y v u Q I rx ry h hs
  obtain ⟨z, tr, rfl, rfl, e, q⟩ := h
  obtain ⟨es, n, D0, E⟩ := D.ex
  obtain ⟨u0, h1, v0, r0, rp⟩ := D.some_ e
  exact ix_kdict value slice pins s σ H _ _ v u Q I rx ry ⟨d, z, v0, rfl, rfl, ⟨es, n, u0, D0.at_, D0.lit, h1, r0⟩, q v0 rp⟩ hs
end
def inK3 (kts : List (Str × T)) (neg : Bool) (a : E3) : E3 := fun σ Q X => a σ (fun t => ob (asS t) fun z => Q (.bl (if neg then !(kts.lookup z).isSome else (kts.lookup z).isSome))) X
def getK3 (kts : List (Str × T)) (a : E3) : E3 := fun σ Q X => a σ (fun t => ob (asS t) fun z => ob (kts.lookup z) Q) X
/-- {written}.get(a, written) -/
def dgetK3 (kts : List (Str × T)) (df : T) (a : E3) : E3 := fun σ Q X => a σ (fun t => ob (asS t) fun z => Q ((kts.lookup z).getD df)) X
section
variable {K : PySem.W.Frag} {c : Cf} {W : WX} {ta tb te : TE} {a b e : E3} {d : Addr} {kts : List (Str × T)} {neg : Bool}
theorem lift_inK (ha : Lift K c W ta a) : Lift K c W (tOp (rInK d kts neg) ta (tC (.ref d))) (inK3 kts neg a) := by
  intro σ3 Q3 X h Hb G A σ H Q R k e
  refine ha _ _ _ h Hb G A σ H _ R (fun vx x H1 L1 rx hx => ?_) e
  obtain ⟨z, ez, q⟩ := ob_iff.mp hx
  cases asS_is ez
  exact ⟨z, rx.strI, rfl, k _ _ H1 L1 (.bl _) q⟩
theorem lift_getK (ha : Lift K c W ta a) : Lift K c W (tOp (rGetK K d kts) (tC (.ref d)) ta) (getK3 kts a) := by
  intro σ3 Q3 X h Hb G A σ H Q R k e
  refine ha _ _ _ h Hb G A σ H _ R (fun vx x H1 L1 rx hx => ?_) e
  obtain ⟨z, ez, q⟩ := ob_iff.mp hx
  obtain ⟨tr, et, q⟩ := ob_iff.mp q
  cases asS_is ez
  exact ⟨z, tr, rfl, rx.strI, et, fun v rv => k _ _ H1 L1 (rv _) q⟩
theorem merge_app : ∀ (more acc : List (Key × V)), ((acc ++ more).map (·.1)).Nodup → mergeK acc more = acc ++ more
  | [], acc, _ => by simp [mergeK]
  | p :: more, acc, h => by
    have hn : valV acc p.1 = none := by
      cases e : valV acc p.1 with
      | none => rfl
      | some v =>
        exfalso
        unfold valV at e
        cases e2 : acc.find? fun kv => decide (kv.1 = p.1) with
        | none => rw [e2] at e; cases e
        | some q =>
          have hq := List.find?_some e2
          have hm := List.mem_of_find?_eq_some e2
          rw [List.map_append, List.map_cons] at h
          have := (List.nodup_append.mp h).2.2 q.1 (List.mem_map.mpr ⟨q, hm, rfl⟩) p.1 (List.mem_cons_self ..)
          exact this (of_decide_eq_true hq)
    have e1 : mergeK acc (p :: more) = mergeK (acc ++ [p]) more := by
      show mergeK (putK acc p.1 p.2) more = _
      rw [putK_new p.2 hn]
    rw [e1, merge_app more (acc ++ [p]) (by simpa using h)]
    simp
def dvs (l : List (Str × V)) : List (Key × V) := l.map fun p => (.inr p.1, p.2)
def dtr (l : List (Str × V)) : List (TE × TE) := l.map fun p => (tC (.str p.1), tC p.2)
theorem pairs_const : ∀ (l : List (Str × V)) (σ : L2.St) (H : Hp) (Q : List (V × V) → Hp → Prop), Q (l.map fun p => (.str p.1, p.2)) H → tPairs (dtr l) σ H Q
  | [], _, _, _, q => q
  | p :: l, σ, H, Q, q => pairs_const l σ H (fun ps H3 => Q ((.str p.1, p.2) :: ps) H3) q
theorem val_dvs (z : Str) : ∀ l : List (Str × V), valV (dvs l) (.inr z) = l.lookup z
  | [] => rfl
  | p :: l => by
    by_cases e : z = p.1
    · have : valV (((.inr p.1, p.2) : Key × V) :: dvs l) ((.inr z : Key)) = some p.2 := valV_pos (by rw [e])
      show valV (((.inr p.1, p.2) : Key × V) :: dvs l) ((.inr z : Key)) = _
      rw [this, e]
      obtain ⟨x, v⟩ := p
      simp [List.lookup]
    · have e' : (z == p.1) = false := by simpa using e
      have : valV (((.inr p.1, p.2) : Key × V) :: dvs l) ((.inr z : Key)) = valV (dvs l) ((.inr z : Key)) := valV_neg (fun y => e (Sum.inr.inj (show (Sum.inr p.1 : Key) = Sum.inr z from y)).symm)
      show valV (((.inr p.1, p.2) : Key × V) :: dvs l) ((.inr z : Key)) = _
      rw [this, val_dvs z l]
      obtain ⟨x, v⟩ := p
      simp [List.lookup, e']
/-- the written values as trees -/
inductive CRep (K : PySem.W.Frag) : List (Str × V) → List (Str × T) → Prop
  | nil : CRep K [] []
  | cons {x : Str} {v : V} {t : T} {l : List (Str × V)} {m : List (Str × T)} (h : ∀ H, Rep K H v t) (q : CRep K l m) : CRep K ((x, v) :: l) ((x, t) :: m)
theorem CRep.look {z : Str} {dv : V} {dt : T} (hd : ∀ H, Rep K H dv dt) : ∀ {l : List (Str × V)} {m : List (Str × T)}, CRep K l m → ∀ H, Rep K H ((l.lookup z).getD dv) ((m.lookup z).getD dt)
  | _, _, .nil => hd
  | _, _, @CRep.cons _ x v t l m h q => fun H => by
    by_cases e : z = x
    · subst e
      simpa [List.lookup] using h H
    · have e' : (z == x) = false := by simpa using e
      simpa [List.lookup, e'] using q.look hd H
theorem lift_dgetK {l : List (Str × V)} {dv : V} {dt : T} (hl : CRep K l kts) (hd : ∀ H, Rep K H dv dt) (hn : ((dvs l).map (·.1)).Nodup) (h15 : l.length ≤ 15) (ha : Lift K c W ta a) :
    Lift K c W (tDGet2 (tDisp (dtr l)) ta (tC dv)) (dgetK3 kts dt a) := by
  intro σ3 Q3 X h Hb G A σ H Q R k e p hp
  refine pairs_const l σ _ _ ⟨upd_same, dvs l, ?_, by unfold dvs; rw [List.length_map]; exact h15, ?_⟩
  · unfold dvs; rw [List.map_map]; rfl
  have em : mergeK [] (dvs l) = dvs l := merge_app (dvs l) [] (by simpa using hn)
  rw [em]
  have eu : upd (upd H p (.dK [])) p (.dK (dvs l)) = upd H p (.dK (dvs l)) := by
    funext b
    by_cases hb : b = p
    · rw [hb, upd_same, upd_same]
    · rw [upd_ne hb, upd_ne hb, upd_ne hb]
  rw [eu]
  have L0 := R.new (o := .dK (dvs l)) hp
  refine ⟨p, rfl, .inl ⟨_, .inl upd_same⟩, ?_⟩
  refine ha _ _ _ h Hb G A σ _ _ (R.le L0) (fun vx x H1 L1 rx hx => ?_) (fun cls dd x H' L => e cls dd x H' (L0.trans L))
  obtain ⟨z, ez, q⟩ := ob_iff.mp hx
  cases asS_is ez
  refine ⟨valV (dvs l) (.inr z), .inl ⟨dvs l, .inr z, .inl ?_, by rw [rx.strI]; rfl, rfl⟩, ?_⟩
  · exact (hid_some (L1.vis _ _ (R.newAt (o := .dK (dvs l)) hp))).1
  · rw [val_dvs]
    exact k _ _ H1 (L0.trans L1) (hl.look hd _) q
end
end M3

/-! L5G: exceptions with an own __init__ of one text. -/
namespace M3
open PySem PySem.Spec PyProof.Rows L2
/-- an own exception class whose __init__ is ValueError's -/
structure VeiC (K : PySem.W.Frag) (mg : Str → Option Value) (x : Str) : Prop where
  g : mg x = some (.ref ((csOf K mg).at_ x))
  sg : PySem.W.specialIn K (.ref ((csOf K mg).at_ x)) "__getattribute__" = some (some (.builtin "type.__getattribute__"))
  rd : PySem.W.readsIn K ((csOf K mg).at_ x) (.type "type") = true
  fc : PySem.W.findCls K (.ref ((csOf K mg).at_ x)) (.type "type") "__init__" = some (.val (.builtin "ValueError.__init__"))
section
variable {X : Cx} {K : PySem.W.Frag} {mg : Str → Option Value} {o e : Expr} {es : List Expr} {to te : TE} {ta : TA} {f x : Str} {p p' p1 p2 pos : Pos}
theorem pe_cinit {pl : Sem Bool} (hK : X.K = K) (hmg : X.mg = mg) (V : VeiC K mg x) (hg : Gl X x) (ha : PA X (e :: es) ta) (hdb : (x == ("__debug__" : Str)) = false)
    (hc : eval (.Call (.Attribute (.Name x p1) "__init__" p2) (e :: es) [] pos) X.env = (do
      let ov ← eval (.Name x p1) X.env
      standAt p2.atName
      let (f, first) ← holding [ov] (getMethod ov "__init__" pl)
      callWith pos f first (backTo pos (starEach (e :: es) X.env)) (backToKw pos (keywordEach [] X.env))) := by rfl)
    (he : starEach (e :: es) X.env = (false, eval e X.env) :: starEach es X.env := by rfl) (hpl : (backTo pos (starEach es X.env)).any (·.1) = false := by rfl) :
    PE X (.Call (.Attribute (.Name x p1) "__init__" p2) (e :: es) [] pos) (tVeI K ta) := by
  subst hK hmg
  refine ⟨fun pins s σ H Q I h => ?_⟩
  refine PySem.W.methodCall_KW (ld_glob I hg V.g ?_ hdb) hc
  refine PySem.W.method_cls I.kIn V.sg (PySem.W.cls_value I.kIn V.rd V.fc (by decide +kernel) ?_)
  show wpAny _ _ (callWith pos (Value.builtin "ValueError.__init__") [] (backTo pos (starEach (e :: es) X.env)) []) _ _ _
  refine PyProof.Rows.callWith_method1 (thn (ha.run pos pins _ σ H _ (I.tok _) h) fun us s1 ⟨vs, H1, I1, r1, a, C, ws, ev, hl, T, ea, q⟩ => ?_) he hpl
  subst ev
  cases r1 with
  | @cons _ u0 _ ur ra rw' =>
    obtain rfl : u0 = Value.ref a := ra
    have hlen : ur.length ≤ sizeLine := by
      have : sizeLine = 16777216 := by decide
      have := Paired.length rw'
      omega
    exact oinit_ok T I1 ea hlen fun s' J => ⟨.non, H1, J, rfl, q⟩
theorem ps_ostK (hK : X.K = K) (ho : PE X o to) (he : PE X e te) (hs : swapsWith e (some (.Attribute o f p')) pos.line X.env = pure false := by rfl) : PS X (.Assign [.Attribute o f p'] e pos) (tOst K f to te) := hK ▸ ps_ost ho he hs
end
/-- what such an __init__ promises -/
def spX1 (C : Addr) (f : Str) : Sp := fun vs H Q _ => ∃ a z, vs = [.ref a, .str z] ∧ H a = some (exo a C none) ∧ z.length ≤ 1000 ∧ ∀ dx, H dx = none → dx ≠ a → Q .non (upd (upd H dx (exd dx [(f, .str z)])) a (exo a C (some dx)))
theorem spX1_len {C : Addr} {f : Str} {ps : List Str} (h : ps.length = 2) : ∀ vs H Q E, spX1 C f vs H Q E → vs.length = ps.length := by
  rintro vs H Q E ⟨a, z, rfl, _⟩
  exact h.symm
/-- the body's own question -/
theorem bodyX1 {K : PySem.W.Frag} {C : Addr} {f m : Str} {vs : List V} {H : Hp} {Q : VK} {E : XK} {N : List Str} (hN : N.length = 2) (hm : m.length ≤ 1000) (T : OexC K C) (hno : PySem.W.findIn K (.ref C) f = some none) (h : spX1 C f vs H Q E) :
    tSeq (tDrop (tVeI K (tCons (tVar 0) (tCons (fun σ H Q => tJs [tC (.str m), tFmt (tVar 1)] Str.empty σ H fun out H1 => Q (.str out) H1) tNil)))) (tOst K f (tVar 0) (tVar 1)) { nx := fun _ H' => Q .non H', rt := Q } (start N vs) H := by
  obtain ⟨a, z, rfl, ha, hz, q⟩ := h
  have es : start N [V.ref a, V.str z] = [some (.ref a), some (.str z)] := by
    rw [start_eq, hN]
    rfl
  rw [es]
  have sl : sizeLine = 16777216 := by decide
  have l0 : (Str.empty ++ m).length = m.length := by simp [Str.length_append] <;> rfl
  have l1 : (Str.empty ++ m ++ z).length = m.length + z.length := by
    rw [Str.length_append, l0]
  refine ⟨.ref a, rfl, m, rfl, by rw [l0]; omega, .str z, rfl, .inl ⟨z, rfl, by omega, z, rfl, by rw [l1]; omega, ?_⟩⟩
  refine ⟨a, C, _, rfl, by show (1 : Nat) ≤ 1000; decide, T, ha, ?_⟩
  exact ⟨.str z, rfl, .ref a, rfl, a, C, rfl, T, hno, .inl ⟨ha, fun dx h1 h2 => q dx h1 h2⟩⟩
/-- raise C(e) -/
def raiseT3 (cls : Value) (f : Str) (a : E3) : S3 := fun N σ => a σ (fun t => ob (asS t) fun z => z.length ≤ 1000 ∧ N.xn σ ⟨cls, [(f, .str z)]⟩) (N.xn σ)
theorem lift_raiseT {K : PySem.W.Frag} {c : Cf} {W : WX} {ta : TE} {a : E3} {C : Addr} {f : Str} (ha : Lift K c W ta a) : LiftS K c W (fun _ σ H => tMkO C (spX1 C f) [] (tCons ta tNil) σ H fun cls d H' => W cls d σ H') (raiseT3 (.ref C) f a) := by
  intro N σ3 h Hb G A σ H D R Z
  refine ha _ _ _ h Hb G A σ H _ R (fun v t H1 L1 r q0 => ?_) (fun cls dd x H' L r q => Z.xn _ _ _ _ _ _ _ (R.le L) r q)
  obtain ⟨z, ez, hz, q⟩ := ob_iff.mp q0
  cases asS_is ez
  cases r.strI
  have R1 := R.le L1
  refine ⟨by show (1 : Nat) ≤ 1000; decide, fun b hb => ⟨b, z, rfl, upd_same, hz, fun dx h1 h2 => ⟨rfl, dx, [(f, .str z)], upd_same, ?_, ?_, ?_⟩⟩⟩
  · rw [upd_ne h2, upd_same]
  · rw [upd_ne h2] at h1; exact h1
  · have h1' : H1 dx = none := by rw [upd_ne h2] at h1; exact h1
    have eH : upd (L2.del (upd (upd (upd H1 b (exo b C none)) dx (exd dx [(f, .str z)])) b (exo b C (some dx))) b) dx (.xd [(f, .str z)]) = upd H1 dx (.xd [(f, .str z)]) := by
      funext y
      by_cases y1 : y = dx
      · rw [y1, upd_same, upd_same]
      · rw [upd_ne y1, upd_ne y1]
        by_cases y2 : y = b
        · rw [y2, del_same, hb]
        · rw [del_ne y2, upd_ne y2, upd_ne y1, upd_ne y2]
    rw [eH]
    have L2 := R1.new (o := .xd [(f, .str z)]) h1'
    exact Z.xn _ _ _ _ _ _ ⟨.ref C, [(f, .str z)]⟩ (R1.le L2) ⟨rfl, [(f, .str z)], R1.newAt h1', rfl, .cons (.str z) .nil⟩ q
end M3

/-! L5H: several except clauses, some with a name for the error. -/
namespace M3
open PySem PySem.Spec PyProof.Rows L2
abbrev Hd := Value × Option Nat × (Addr → Value → Option Addr → TS)
/-- the ends of a suite whose name goes behind it -/
def asEnds (i : Nat) (D : Ends) : Ends := { nx := fun σ' H' => D.nx (σ'.set i none) H', rt := D.rt, bk := fun σ' H' => D.bk (σ'.set i none) H', ct := fun σ' H' => D.ct (σ'.set i none) H' }
def wMix (K : PySem.W.Frag) (Wo : WX) (D : Ends) : List Hd → WX
  | [] => Wo
  | (c, o, ts) :: r => fun cls d σ H => ∃ b, PySem.W.exmOne K cls c = some b ∧ (b = true → ∀ a, H a = none → match o with | none => ts a cls d D σ H | some i => ts a cls d (asEnds i D) (σ.set i (some (.ref a))) H) ∧ (b = false → wMix K Wo D r cls d σ H)
inductive HdsM (X : Cx) : List ExceptHandler → List Hd → Prop
  | nil : HdsM X [] []
  | bare {x : Str} {c : Value} {ts : Addr → Value → Option Addr → TS} {b₀ : Stmt} {suite : List Stmt} {np pos' : Pos} {hds : List ExceptHandler} {l : List Hd} (hc : Names X x c)
      (hsu : ∀ (a : Addr) (oe : Obj) (cls : Value) (d : Option Addr) (pn : List (Addr × Obj)), Zc cls d oe → (∃ vs, oe.data = .fields vs) → PSs (X.suite a ((a, oe) :: pn)) (b₀ :: suite) (ts a cls d)) (r : HdsM X hds l) :
      HdsM X (.ExceptHandler (some (.Name x np)) none (b₀ :: suite) pos' :: hds) ((c, none, ts) :: l)
  | as {x n : Str} {i : Nat} {c : Value} {ts : Addr → Value → Option Addr → TS} {b₀ : Stmt} {suite : List Stmt} {np pos' : Pos} {hds : List ExceptHandler} {l : List Hd} (hN : X.N.Nodup) (hi : X.N[i]? = some n) (hln : X.env.kindOf n = some .local) (hc : Names X x c)
      (hsu : ∀ (a : Addr) (oe : Obj) (cls : Value) (d : Option Addr) (pn : List (Addr × Obj)), Zc cls d oe → (∃ vs, oe.data = .fields vs) → PSs (X.suite a ((a, oe) :: pn)) (b₀ :: suite) (ts a cls d)) (r : HdsM X hds l) :
      HdsM X (.ExceptHandler (some (.Name x np)) (some n) (b₀ :: suite) pos' :: hds) ((c, some i, ts) :: l)
section
variable {X : Cx} {body : List Stmt} {h₀ : ExceptHandler} {hds : List ExceptHandler} {l : List Hd} {pos : Pos} {tb : WX → TS} {Wo : WX}
theorem ps_try_mix (hs : X.stack = X.env :: X.outer) (hf : X.env.frame = some X.env.locals) (tk : Takes X Wo)
    (hb : ∀ (W : WX) (pn : List (Addr × Obj)) (xe : Value → Shared → Prop), Takes (X.tr pn xe) W → PassesOwn (model X.prog X.w) X.A X.env xe → PSs (X.tr pn xe) body (tb W))
    (hh : HdsM X (h₀ :: hds) l) : PS X (.Try body (h₀ :: hds) [] [] pos) (fun D σ H => tb (wMix X.K Wo D l) D σ H) := by
  refine ⟨fun pins s σ H D I h => ?_⟩
  have ok := I.ok
  have fr0 : X.A.frames = some (X.env :: X.outer) := by rw [ok.frames, hs]
  refine wpAny_Try_except ?_
  refine wpAny_mono ((hb (wMix X.K Wo D l) (X.pn ++ pins) (fun e s₁ => wpAny (model X.prog X.w) X.A (noteFrame e X.env) (fun _ s₂ => wpAny (model X.prog X.w) X.A (setFlight e none) (fun _ s₃ => wpAny (model X.prog X.w) X.A (handleBy e X.env (h₀ :: hds)) (SP X pins D) X.xe s₃) X.xe s₂) X.xe s₁)
    (fun u s' xx => ?_) PassesOwn.looking).run [] s σ H D (I.toTry _) h) (fun f s1 hsp => ?_) (fun e s1 he => he)
  · obtain ⟨a, B, sI, pins', σ', H', cls, d, rfl, J', nb, up, sky, na, os, ag, w⟩ := xx
    have J : Inv X pins σ' H' sI := J'.ofTry ok
    have sky' : Sky B (X.env :: X.outer) a (Zc cls d) X.env.locals s'.heap := by rw [← hs]; exact sky
    show wpAny (model X.prog X.w) X.A (noteFrame (.ref a) X.env) _ _ _
    refine Sky.land Zc.steady fr0 hf sky' fun h3 fl3 up3 => ?_
    have J3 : Inv X pins σ' H' { s' with heap := h3 } := J.landed nb fl3.1 (up.trans up3) os ag
    obtain ⟨oe3, vs3, he3, hz3, hd3⟩ := fl3.there
    have nfr : a ∉ frs (X.env :: X.outer) := fun hm => by
      obtain ⟨_, o', e', hnf⟩ := fl3.2.2.1.mem hm
      rw [he3] at e'; cases e'
      exact hnf _ hd3
    have nL : a ≠ X.env.locals := fun z => nfr (List.mem_filterMap.mpr ⟨X.env, List.mem_cons_self, by rw [hf, z]⟩)
    have nF : a ∉ X.fs := fun hm => by
      obtain ⟨e, he, q⟩ := List.mem_filterMap.mp hm
      exact nfr (List.mem_filterMap.mpr ⟨e, List.mem_cons_of_mem _ he, q⟩)
    have S3 := J3.suite he3 hd3 na nL nF
    have LT : PySem.W.Looks (model X.prog X.w) h3 (typeOf (.ref a)) cls := fun A Q E s k q => wpAny_typeOf_ref (k _ _ he3) (by rw [hz3.1]; exact q)
    suffices go : ∀ {hds' : List ExceptHandler} {l' : List Hd}, HdsM X hds' l' → wMix X.K Wo D l' cls d σ' H' → wpAny (model X.prog X.w) X.A (handleBy (.ref a) X.env hds') (SP X pins D) X.xe { s' with heap := h3 } from go hh w
    intro hds' l' hk
    induction hk with
    | nil =>
      intro w
      refine wpAny_handleBy_nil ?_
      obtain ⟨k1, k2, k3, oe, vs, Tt, oT, ts', he, hz, hd, h1, hr⟩ := id fl3
      unfold PySem.passOn
      refine wpAny_bind (wpAny_field he hd h1 ?_)
      rw [if_neg (show ¬ ((Value.ref Tt == Value.none) = true) from by simp)]
      have fin : wpAny (model X.prog X.w) X.A (setFlight (.ref a) X.env.frame) (fun _ s4 => wpAny (model X.prog X.w) X.A (throw (.ref a) : Sem Flow) (SP X pins D) X.xe s4) X.xe { s' with heap := h3 } := by
        rw [hf]
        exact HandSPX.setFlight_upZ fl3 fun h4 hh4 up4 => wpAny_throw (tk _ _ ⟨a, B, sI, pins, σ', H', cls, d, rfl, J, nb, (up.trans up3).trans up4, .inr (.inr (by rw [hs]; exact hh4)), na, os, ag, w⟩)
      first | exact wpAny_bind (wpAny_pure (wpAny_bind fin)) | exact wpAny_bind fin
    | @bare x c ts b₀ suite np pos' hds2 l2 hc hsu r ih =>
      intro w
      obtain ⟨b, hb1, hyes, hno⟩ := w
      refine wpAny_handleBy_cons (codeAny_handlers_test ?_) (by intro q; cases q)
      have LM := PySem.W.exm_one (M := model X.prog X.w) (J3.kIn) LT hb1
      have test : ∀ {Q : Value → Shared → Prop} {E : Value → Shared → Prop}, Q c { s' with heap := h3 } → wpAny (model X.prog X.w) (X.A.mark (some (.ref a))) (eval (.Name x np) X.env) Q E { s' with heap := h3 } := fun {Q E} q => by
        obtain ⟨hg, hdbg, hm | ⟨hm, hv, hnn⟩⟩ := hc
        · exact ld_glob (X := X.suite a ((a, oe3) :: (X.pn ++ pins))) S3 hg hm q hdbg
        · exact ld_blt (X := X.suite a ((a, oe3) :: (X.pn ++ pins))) S3 hg hm hv q hnn hdbg
      refine test (LM.here ?_)
      cases b with
      | true =>
        refine codeAny_handlers_suite ?_
        refine HandSPX.lands_againZ fl3 fun h4 fl4 up4 => ?_
        have J4 : Inv X pins σ' H' { s' with heap := h4 } := J.landed nb fl4.1 ((up.trans up3).trans up4) os ag
        obtain ⟨oe4, vs4, he4, hz4, hd4⟩ := fl4.there
        have S4 := J4.suite he4 hd4 na nL nF
        refine wpAny_mono ((hsu a oe4 cls d (X.pn ++ pins) hz4 ⟨_, hd4⟩).run [] _ _ H' _ S4 (hyes rfl a na)) (fun f s6 hsp => ?_) (fun _ _ z => False.elim z)
        cases f with
        | ret u =>
          obtain ⟨v6, σ6, H6, S6, r6, q6⟩ := hsp
          exact ⟨_, _, _, S6.unsuite ok, r6, q6⟩
        | _ =>
          obtain ⟨σ6, H6, S6, q6⟩ := hsp
          exact ⟨_, _, S6.unsuite ok, q6⟩
      | false => exact ih (hno rfl)
    | @as x n i c ts b₀ suite np pos' hds2 l2 hN hi hln hc hsu r ih =>
      intro w
      obtain ⟨b, hb1, hyes, hno⟩ := w
      refine wpAny_handleBy_cons (codeAny_handlers_test ?_) (by intro q; cases q)
      have LM := PySem.W.exm_one (M := model X.prog X.w) (J3.kIn) LT hb1
      have test : ∀ {Q : Value → Shared → Prop} {E : Value → Shared → Prop}, Q c { s' with heap := h3 } → wpAny (model X.prog X.w) (X.A.mark (some (.ref a))) (eval (.Name x np) X.env) Q E { s' with heap := h3 } := fun {Q E} q => by
        obtain ⟨hg, hdbg, hm | ⟨hm, hv, hnn⟩⟩ := hc
        · exact ld_glob (X := X.suite a ((a, oe3) :: (X.pn ++ pins))) S3 hg hm q hdbg
        · exact ld_blt (X := X.suite a ((a, oe3) :: (X.pn ++ pins))) S3 hg hm hv q hnn hdbg
      refine test (LM.here ?_)
      cases b with
      | true =>
        refine codeAny_handlers_suite_as ?_
        refine HandSPX.lands_againZ fl3 fun h4 fl4 up4 => ?_
        have J4 : Inv X pins σ' H' { s' with heap := h4 } := J.landed nb fl4.1 ((up.trans up3).trans up4) os ag
        obtain ⟨oe4, vs4, he4, hz4, hd4⟩ := fl4.there
        have S4 := J4.suite he4 hd4 na nL nF
        refine store_ok (X := X.suite a ((a, oe4) :: (X.pn ++ pins))) (v := .ref a) S4 hN hi (.inl hln) rfl (fun s5 S5 => ?_) (.inr hln)
        refine wpAny_mono ((hsu a oe4 cls d (X.pn ++ pins) hz4 ⟨_, hd4⟩).run [] s5 _ H' _ S5 (hyes rfl a na)) (fun f s6 hsp => ?_) (fun _ _ z => False.elim z)
        have end_ : ∀ {σ6 : L2.St} {H6 : Hp} {Q : Shared → Prop}, Inv (X.suite a ((a, oe4) :: (X.pn ++ pins))) [] σ6 H6 s6 → (∀ s7, Inv X pins (σ6.set i none) H6 s7 → Q s7) →
            wpAny (model X.prog X.w) X.A (do bindName X.env n .none; unbindBehindTheSuite X.env n pos') (fun _ s7 => Q s7) X.xe s6 := fun {σ6 H6 Q} S6 hq => gone_ok (S6.unsuite ok) hN hi hln hq
        cases f with
        | ret u =>
          obtain ⟨v6, σ6, H6, S6, r6, q6⟩ := hsp
          exact end_ S6 fun s7 J7 => ⟨_, _, _, J7, r6, q6⟩
        | _ =>
          obtain ⟨σ6, H6, S6, q6⟩ := hsp
          exact end_ S6 fun s7 J7 => ⟨_, _, J7, q6⟩
      | false => exact ih (hno rfl)
  · cases f with
    | next =>
      obtain ⟨σ', H', J', q⟩ := hsp
      exact wpAny_execs_nil ⟨σ', H', J'.ofTry ok, q⟩
    | ret u =>
      obtain ⟨v, σ', H', J', r, q⟩ := hsp
      exact ⟨v, σ', H', J'.ofTry ok, r, q⟩
    | _ =>
      obtain ⟨σ', H', J', q⟩ := hsp
      exact ⟨σ', H', J'.ofTry ok, q⟩
end
end M3

/-! L5I: the law's lambda: try: act() / except C as e: return (text, e.f, ..) .. / return (text,). -/
namespace M3
open PySem PySem.Spec L2
theorem takes_len {X : Cx} {W : WX} (t : Takes X W) : Takes X (fun cls d σ H => σ.length = X.N.length → W cls d σ H) := fun u s' ⟨a, B, sI, pins, σ, H, cls, d, e, I, nb, up, sky, na, os, ag, w⟩ =>
  t u s' ⟨a, B, sI, pins, σ, H, cls, d, e, I, nb, up, sky, na, os, ag, w I.len⟩
def tFs (a : Addr) (cls : Value) (d : Option Addr) (C : Addr) : List Str → TA
  | [] => tNil
  | f :: fs => tCons (tXf a cls d C f (tVar 1)) (tFs a cls d C fs)
abbrev WhyL := List (Addr × Str × List Str)
def slotF : List Str → Option Nat
  | [] => none
  | _ :: _ => some 1
def tWhy (C : Addr) (s : Str) (fs : List Str) (a : Addr) (cls : Value) (d : Option Addr) : TS := tRet (tTup (tCons (tC (.str s)) (tFs a cls d C fs)))
def whyH (l : WhyL) : List Hd := l.map fun p => (.ref p.1, slotF p.2.2, tWhy p.1 p.2.1 p.2.2)
def TTwhyF (K : PySem.W.Frag) (n : Nat) (l : WhyL) (s0 : Str) : (XK → Hp → VK → Prop) → Hp → VK → Prop := fun tl H Q =>
  tl (fun cls d H' => ∀ σ' : L2.St, σ'.length = n → wMix K (fun _ _ _ _ => False) { nx := fun _ _ => False, rt := Q } (whyH l) cls d σ' H') H (fun _ H' => tOne s0 { nx := fun _ _ => False, rt := Q } [] H')
theorem wMix_rt {K : PySem.W.Frag} {Wo : WX} {D D' : Ends} (e : D.rt = D'.rt) : ∀ (l : WhyL) cls d σ H, wMix K Wo D (whyH l) cls d σ H → wMix K Wo D' (whyH l) cls d σ H
  | [], cls, d, σ, H, h => h
  | (C, s, fs) :: l, cls, d, σ, H, h => by
    obtain ⟨b, h1, h2, h3⟩ := h
    refine ⟨b, h1, fun hb a ha => ?_, fun hb => wMix_rt e l cls d σ H (h3 hb)⟩
    have := h2 hb a ha
    cases fs with
    | nil =>
      show tTup _ σ H D'.rt
      rw [← e]
      exact this
    | cons f fs =>
      show tTup _ (σ.set 1 (some (.ref a))) H D'.rt
      rw [← e]
      exact this
theorem why_givesF {X : Cx} {Ng : List Str} {x a q s0 : Str} {sg : Scope} {g : Addr} {cdg : Value} {j k0 : Nat} {p1 p2 p3 p4 p5 p6 p7 : Pos} {h₀ : ExceptHandler} {hds : List ExceptHandler} {l : WhyL}
    (hh : ∀ s H, HdsM (cxOf C8.CX0 X.prog X.w X.K X.mg X.base Ng x sg g cdg X.A X.stack s H C8.E0).nox (h₀ :: hds) (whyH l)) (h0 : ∀ f : Addr, (L2.start Ng [V.ref f])[0]? = some (some (V.ref f))) :
    LamX.GivesTo X Ng x sg g cdg [.Try [.Expr (.Call (.Name a p1) [] [] p2) p3] (h₀ :: hds) [] [] p4, .Return (some (.Tuple [.Constant (.str s0) j p5] k0 p6)) p7] a q (TTwhyF X.K Ng.length l s0) := by
  intro f c' s H Q tl act hc h
  refine ⟨_, pss_cons (ps_try_mix (X := (cxOf C8.CX0 X.prog X.w X.K X.mg X.base Ng x sg g cdg X.A X.stack s H C8.E0).nox)
      (tb := fun W D σ H => ∃ Ech : XK, (∀ cls d σ' H', Ech cls d H' → σ'.length = Ng.length → W cls d σ' H') ∧ σ[0]? = some (some (.ref f)) ∧ H c' = some (LamX.CodeO c' q) ∧ tl Ech H (fun _ H' => D.nx σ H'))
      rfl rfl takes0 (fun W pn xe tk _ => ?_) (hh s H)) (pss_one (ps_ret (pe_tup (pa_cons pe_str pa_nil)))), ?_⟩
  · refine ⟨fun pins s' σ H' D I h' => ?_⟩
    obtain ⟨Ech, hW, h1, h2, h3⟩ := h'
    have hp := act (fun cls d σ H => σ.length = Ng.length → W cls d σ H) pn xe Ech p1 p2 (takes_len tk) (fun cls d σ' H' z hl => hW cls d σ' H' z hl)
    have hq := pss_one (ps_expr (pos := p3) hp)
    exact hq.run pins s' σ H' D I ⟨h1, h2, h3⟩
  · refine ⟨fun cls d H' => ∀ σ' : L2.St, σ'.length = Ng.length → wMix X.K (fun _ _ _ _ => False) { nx := fun _ _ => False, rt := Q } (whyH l) cls d σ' H', fun cls d σ' H' z hl => wMix_rt (K := X.K) (D := { nx := fun _ _ => False, rt := Q }) (D' := { nx := tRet (tTup (tCons (tC (V.str s0)) tNil)) { nx := fun x H' => Q V.non H', rt := Q }, rt := Q }) rfl l cls d σ' H' (z σ' hl), h0 f, hc, ?_⟩
    exact h
def getFs (l : List (Str × T)) : List Str → Option (List T)
  | [] => some []
  | f :: fs => (l.lookup f).bind fun t => (getFs l fs).map (t :: ·)
def whyX5 (em : Value → Value → Option Bool) (x : Xn) (Q : T → Prop) : WhyL → Prop
  | [] => False
  | (C, s, fs) :: l => ob (em x.cls (.ref C)) fun b => if b = true then (fs = [] ∨ x.cls = .ref C) ∧ ob (getFs x.fs fs) fun ts => ts.length < 1000 ∧ Q (.tup (.str s :: ts)) else whyX5 em x Q l
def why5 (em : Value → Value → Option Bool) (l : WhyL) (s0 : Str) (t : E3) : E3 := fun σ Q _ => t σ (fun _ => Q (.tup [.str s0])) (fun x => whyX5 em x Q l)
theorem fs_vals {K : PySem.W.Frag} {Hv H : Hp} {C a dd : Addr} {x : Xn} {vs : List (Str × V)} {σ : L2.St} (hσ : σ[1]? = some (some (.ref a))) (hd : H dd = some (.xd vs)) (hk : vs.map (·.1) = x.fs.map (·.1)) (hr : RepL K Hv (vs.map (·.2)) (x.fs.map (·.2))) :
    ∀ (fs : List Str) (ts : List T) (Q : List V → Hp → Prop), getFs x.fs fs = some ts → (∀ ws, RepL K Hv ws ts → Q ws H) → tFs a (.ref C) (some dd) C fs σ H Q
  | [], ts, Q, e, q => by
    cases e
    exact q [] .nil
  | f :: fs, ts, Q, e, q => by
    obtain ⟨t, e1, e2⟩ := Option.bind_eq_some_iff.mp (show (x.fs.lookup f).bind _ = some ts from e)
    obtain ⟨ts', e3, rfl⟩ := Option.map_eq_some_iff.mp e2
    obtain ⟨v, ev, rv⟩ := lookup_rep hk hr e1
    refine ⟨_, hσ, rfl, rfl, dd, vs, v, rfl, hd, ev, ?_⟩
    exact fs_vals hσ hd hk hr fs ts' _ e3 fun ws r => q (v :: ws) (.cons rv r)
theorem lift_lam5 {K : PySem.W.Frag} {p cc : Addr} {P : Addr × Str} {Ts : List (Addr × Str)} {W : WX} {l : WhyL} {s0 : Str} {n : Nat} (hn : 1 < n ∨ ∀ e ∈ l, e.2.2 = []) {t : XK → TE} {t3 : E3} (ht : ∀ E : XK, Lift K (potT p cc (P :: Ts)) (fun cls d _ H => E cls d H) (t E) t3) :
    Lift K (potT p cc (P :: Ts)) W (LamX.tLam (P :: Ts) (TTwhyF K n l s0) t) (why5 (PySem.W.exmOne K) l s0 t3) := by
  intro σ3 Q3 X h Hb G A σ H Q R k e
  refine ⟨R.inv.2, fun H1 ex tb => ?_⟩
  have own : ∀ a o, H a = some o → vis o = true → H1 a = some o := fun a o e v => ex a o e (fun ps z => by rw [z] at v; cases v)
  have L1 : Le (potT p cc (P :: Ts)) G A H H1 := by
    refine ⟨fun a o z => ?_, fun a ha => ?_, ?_, tb⟩
    · obtain ⟨z1, z2, z3⟩ := hid_all z
      exact hid_mk (own a o z1 z3) z2 z3
    · rcases List.mem_append.mp ha with ha | ha
      · cases eo : H a with
        | none => exact absurd eo (R.gk a ha).2.1
        | some o =>
          rcases R.gv a ha o eo with z | z
          · cases z
          · exact own a o eo z
      · have hm := mem_addrs.mp ha
        obtain ⟨i, hi⟩ := List.getElem?_of_mem hm
        have hl : i < A.length := (List.getElem?_eq_some_iff.mp hi).1
        have h1 : i < σ3.length := by rw [← R.l1]; exact hl
        have h2 : i < σ.length := by rw [R.l2]; exact h1
        have z := R.at_ i _ _ _ (List.getElem?_eq_getElem h1) hi (List.getElem?_eq_getElem h2)
        cases es : σ3[i] with
        | no => rw [es] at z; cases z
        | val t => rw [es] at z; cases z.1
        | own t =>
          rw [es] at z
          obtain ⟨b, e1, e2, q⟩ := z
          cases e1
          cases t with
          | lst xs => obtain ⟨vs, q1, _⟩ := q; rw [q1]; exact own a _ q1 rfl
          | dic xs => obtain ⟨vs, q1, _⟩ := q; rw [q1]; exact own a _ q1 rfl
          | tup xs => obtain ⟨x, C, fs, _, _, dx, ks, q1, _⟩ := q; rw [q1]; exact own a _ q1 rfl
          | _ => exact q.elim
    · obtain ⟨cs, i, n, s, h1, h2, r⟩ := R.inv.1
      exact ⟨cs, i, n, s, own _ _ h1 rfl, own _ _ h2 rfl, r⟩
  have R1 := R.le L1
  have out1 : ∀ (s : Str) (H2 : Hp) (ws : List V) (ts : List T) (a : Addr) (o : Obj), Le (potT p cc (P :: Ts)) G A H1 H2 → RepL K (hid ((potT p cc (P :: Ts)).S G A) H2) ws ts → H2 a = none → o.dict = none → Q3 (.tup (.str s :: ts)) → Q (.ref a) (upd H2 a (.frz o (.tup (.str s :: ws)))) := fun s H2 ws ts a o L2 rw ha hd q => by
    have R2 := R1.le L2
    have L3 := R2.new (o := .frz o (.tup (.str s :: ws))) ha
    exact k _ _ _ ((L1.trans L2).trans L3) (.mkT (FqT.of hd (R2.newAt ha)) (.cons (.str s) (rw.mono L3.vis))) q
  refine ht _ σ3 _ _ h Hb G A σ H1 _ R1 (fun v d H2 L2 _ q => ⟨one_line, fun a o ha hd => out1 s0 H2 [] [] a o L2 .nil ha hd q⟩) (fun cls dd x H2 L2 rx hx σ' hl => ?_)
  have ec : x.cls = cls := rx.1
  subst ec
  clear h
  induction l with
  | nil => exact hx.elim
  | cons v l ih =>
    obtain ⟨C, s1, fs⟩ := v
    obtain ⟨b, hb, hy⟩ := ob_iff.mp hx
    refine ⟨b, hb, fun hb1 a _ => ?_, fun hb1 => ?_⟩
    · subst hb1
      have hy : (fs = [] ∨ x.cls = .ref C) ∧ ob (getFs x.fs fs) fun ts => ts.length < 1000 ∧ Q3 (.tup (.str s1 :: ts)) := by simpa using hy
      obtain ⟨hor, hy⟩ := hy
      obtain ⟨ts, et, hlt, q⟩ := ob_iff.mp hy
      have sl : sizeLine = 16777216 := by decide
      cases fs with
      | nil =>
        cases et
        exact ⟨one_line, fun b o hb hd => out1 s1 H2 [] [] b o L2 .nil hb hd q⟩
      | cons f fs =>
        have hC : x.cls = .ref C := by
          rcases hor with z | z
          · cases z
          · exact z
        have hn1 : 1 < n := by
          rcases hn with z | z
          · exact z
          · have := z _ (List.mem_cons_self ..); cases this
        obtain ⟨_, rx2⟩ := rx
        cases dd with
        | none =>
          exfalso
          have rx2 : x.fs = [] := rx2
          rw [rx2] at et
          cases et
        | some d =>
          obtain ⟨vs, v1, v2, v3⟩ := rx2
          show tTup (tCons (tC (.str s1)) (tFs a x.cls (some d) C (f :: fs))) (σ'.set 1 (some (.ref a))) H2 Q
          rw [hC]
          show tFs a (.ref C) (some d) C (f :: fs) (σ'.set 1 (some (.ref a))) H2 (fun xs H3 => (V.str s1 :: xs).length ≤ sizeLine ∧ newT H3 (V.str s1 :: xs) Q)
          refine fs_vals (x := x) (by rw [List.getElem?_set_self]; rw [hl]; exact hn1) (hid_some v1).1 v2 v3 (f :: fs) ts _ et fun ws r => ?_
          have hw := r.length
          exact ⟨by show ws.length + 1 ≤ sizeLine; omega, fun b o hb hd => out1 s1 H2 ws ts b o L2 r hb hd q⟩
    · subst hb1
      exact ih (by rcases hn with z | z; exact .inl z; exact .inr fun e he => z e (List.mem_cons_of_mem _ he)) (by simpa using hy)
end M3

/-! L5J: raise C(e) of a class with an own __init__ of one text: the facts together. -/
namespace M3
open PySem PySem.Spec PyProof.Rows L2
structure XCls (K : PySem.W.Frag) (mg : Str → Option Value) (x f : Str) : Prop where
  g : mg x = some (.ref ((csOf K mg).at_ x))
  oex : OexC K ((csOf K mg).at_ x)
  no : PySem.W.findIn K (.ref ((csOf K mg).at_ x)) f = some none
  fn : ∀ fI, PySem.W.findIn K (.ref ((csOf K mg).at_ x)) "__init__" = some (some (.ref fI)) → PySem.W.isFn K (.ref fI) = true
structure MkX (P : Program) (w : World) (K : PySem.W.Frag) (mg : Str → Option Value) (base : Heap) (lv : Nat) (x f : Str) : Prop where
  ex : ∃ fI fd ps, PySem.W.findIn K (.ref ((csOf K mg).at_ x)) "__init__" = some (some (.ref fI)) ∧ FnOk P w K mg base CX0 lv fI fd ps (spX1 ((csOf K mg).at_ x) f) ∧ Binds K fd ps []
theorem mkX_of {P : Program} {w : World} {K : PySem.W.Frag} {mg : Str → Option Value} {base : Heap} {x f m qual : Str} {st : Stmt} {k : Nat} {ps : List Str} (D : MethAt K ((csOf K mg).at_ x) "__init__" m qual st [] [] [])
    (hb : ∀ (kV doc pm : Value) (an : Option Addr) (cdv ct : Value) (us : List Value), us.length = ps.length → bindArgs (PySem.W.fnOf m qual (defArgs st) (defBody st) (defScope st) .none kV doc pm an cdv ct) ⟨us, []⟩ = pure (ps.zip us))
    (h : ∀ (fI : Addr) (fd : FuncData), FunD K m qual (defArgs st) (defBody st) (defScope st) [] [] fI fd → FnOk P w K mg base CX0 k fI fd ps (spX1 ((csOf K mg).at_ x) f)) : MkX P w K mg base k x f := by
  obtain ⟨fI, fd, dvs, kvs, rd, rk, F, hm⟩ := D.ex
  have e := (rd (fun _ => none)).len0
  have e2 := (rk (fun _ => none)).len0
  subst e e2
  exact ⟨fI, fd, ps, hm, h fI fd F, F.bindsN hb⟩
theorem pmk_X {X : Cx} {P : Program} {w : World} {K : PySem.W.Frag} {mg : Str → Option Value} {base : Heap} {x f : Str} {k : Nat} {e : Expr} {es : List Expr} {ta : TA} {p pos : Pos} (M : MkX P w K mg base k x f) (C : XCls K mg x f) (hP : X.prog = P) (hw : X.w = w) (hK : X.K = K) (hmg : X.mg = mg) (hba : X.base = base)
    (hr : Room (k + 1) X.A) (hg : Gl X x) (ha : PA X (e :: es) ta) (hdb : (x == ("__debug__" : Str)) = false := by decide) (he : starEach (e :: es) X.env = (false, eval e X.env) :: starEach es X.env := by rfl) (hpl : (backTo pos (starEach es X.env)).any (·.1) = false := by rfl) :
    PMk X (.Call (.Name x p) (e :: es) [] pos) (tMkO ((csOf K mg).at_ x) (spX1 ((csOf K mg).at_ x) f) [] ta) := by
  subst hP hw hK hmg hba
  obtain ⟨fI, fd, ps, hm, F, B⟩ := M.ex
  exact pmk_oex C.oex hm (beq_iff_eq.mp (C.fn fI hm)) F hr B .nil pass0 hg C.g ha hdb he hpl
theorem oex_mk {K : PySem.W.Frag} {C : Addr} {nm q : Str} {N : Addr} {bs bm : List Value} {sn : List Str} {sub : List Value} {ab : Bool} {col : Option Bool} {dd : Option Addr} {k0 k1 k2 k3 k5 : Option Value} (h : K.lookup C = some (excClassObj nm q C N bs bm true sn sub ab col dd k0 k1 k2 k3 k5 "ValueError.__new__")) (hb : PySem.HandSPX.refsVE bm = true)
    (sa : PySem.W.findIn K (.ref C) "__setattr__" = some (some (.builtin "object.__setattr__"))) (ex : PySem.W.subIn K (.ref C) (.type "BaseException") = some true) (ty : PySem.W.typeIn K (.ref C) = some (.type "type")) (kC : PySem.W.keepIn K (.ref C) = true) : OexC K C :=
  ⟨⟨nm, q, N, bs, bm, sn, sub, ab, col, dd, k0, k1, k2, k3, k5, h, hb⟩, sa, ex, ty, kC⟩
end M3

/-! L5K: x(lambda a=n: body): a parameter with a written number, never used. -/
namespace M3
open PySem PySem.Spec PyProof.Rows L2 LamX
/-- one parameter of its own, which is no name of the maker; else captured ones and globals -/
structure LamD (N : List Str) (sc scope : Scope) (b : Str) : Prop where
  kind : scope.kind = .function
  co : scope.isCoroutine = false
  gen : scope.isGenerator = false
  own : ∀ y ∈ scope.names, (y.2 = .local → y.1 = b) ∧ y.2 ≠ .cell
  nb : b ∉ N
  lb : scope.names.lookup b = some .local
  free : ∀ y ∈ scope.names, y.2 = .free → sc.names.lookup y.1 = some .cell ∨ sc.names.lookup y.1 = some .free
def lamDB (N : List Str) (sc scope : Scope) (b : Str) : Bool :=
  decide (scope.kind = .function) && !scope.isCoroutine && !scope.isGenerator && (scope.names.all fun y => (!decide (y.2 = .local) || decide (y.1 = b)) && !decide (y.2 = .cell) && (!decide (y.2 = .free) || decide (sc.names.lookup y.1 = some .cell) || decide (sc.names.lookup y.1 = some .free)))
    && !decide (b ∈ N) && decide (scope.names.lookup b = some .local)
theorem lamD_by {N : List Str} {sc scope : Scope} {b : Str} (h : lamDB N sc scope b = true) : LamD N sc scope b := by
  unfold lamDB at h
  simp only [Bool.and_eq_true, Bool.or_eq_true, Bool.not_eq_true', decide_eq_true_eq, decide_eq_false_iff_not, List.all_eq_true] at h
  obtain ⟨⟨⟨⟨⟨h1, h2⟩, h3⟩, h4⟩, h5⟩, h6⟩ := h
  refine ⟨h1, h2, h3, fun y hy => ⟨fun e => ?_, (h4 y hy).1.2⟩, h5, h6, fun y hy e => ?_⟩
  · rcases (h4 y hy).1.1 with z | z
    · exact absurd e z
    · exact z
  · rcases (h4 y hy).2 with (z | z) | z
    · exact absurd e z
    · exact .inl z
    · exact .inr z
theorem LamD.has {X : Cx} {N : List Str} {scope : Scope} {b : Str} (L : LamD N X.env.scope scope b) (ok : X.Ok) : ∀ y ∈ scope.names, y.2 = .free → ∃ c, X.env.cells.lookup y.1 = some c := fun y hy e => by
  rcases L.free y hy e with k | k
  · exact ok.has _ (.inl k)
  · exact ok.has _ (.inr k)
abbrev dObj (X : Cx) (params : Arguments) (body : Expr) (scope : Scope) (t : Addr) (doc pm : Value) (c' : Addr) (ctv : Value) : Obj := PySem.W.kdv_obj "<lambda>" (X.env.qual ++ "<lambda>") params (.expr body) scope (cloFrom X.env.cells scope.names []) (.ref t) doc pm c' ctv
section
variable {X : Cx} {pins : List (Addr × Obj)} {σ : L2.St} {H : Hp} {s : Shared}
/-- the lambda is made, with its tuple of defaults -/
theorem lam_makeD {Ts : List (Addr × Str)} {c P : Addr} {params : Arguments} {e0 body : Expr} {n0 : Int} {scope : Scope} {pos : Pos} {Q : Value → Shared → Prop} (I : Inv X pins σ H s) (TB : TabB X.base X.mg c P) (hcode : X.env.code = .ref c)
    (hm : (P, X.env.qual ++ "<lambda>") ∈ Ts) (hu : ∀ p ∈ Ts, p.1 = P → p.2 = X.env.qual ++ "<lambda>") (hT : Tabs Ts H) (hd1 : params.defaults = [e0]) (hd2 : params.kw_defaults = []) (he0 : PE X e0 (tC (.int n0))) (hfree : ∀ y ∈ scope.names, y.2 = .free → ∃ c, X.env.cells.lookup y.1 = some c)
    (h : ∀ (f t c' : Addr) (u doc pm ctv : Value) (H1 : Hp) (s' : Shared), Inv X pins σ H1 s' → ExtN H H1 → Tabs Ts H1 → s'.heap.get? f = some (dObj X params body scope t doc pm c' ctv) → H1 f = none → f ∉ frs X.stack →
      s'.heap.get? t = some (PySem.W.kdv_tup [u]) → H1 t = none → t ∉ frs X.stack → H1 c' = some (CodeO c' (X.env.qual ++ "<lambda>")) → Q (.ref f) s') :
    wpAny (model X.prog X.w) X.A (eval (.Lambda params body scope pos) X.env) Q X.xe s := by
  obtain ⟨ps, hP, ht, ha⟩ := hT _ hm
  refine PySem.W.kdv_lam (by rw [hd1]; rfl) hd2 ?_
  rw [hd1]
  refine PySem.W.kdv_all1 (thn (he0.run pins s σ H (fun v H' => v = .int n0 ∧ H' = H) I ⟨rfl, rfl⟩) fun u s0 ⟨v, H0, I0, r0, ev, eH⟩ => PySem.W.kdv_all0 ?_)
  subst ev
  rw [eH] at I0
  rw [makeFunction_eq]
  simp only [List.zip_nil_right, List.filterMap_nil, List.isEmpty_nil, List.isEmpty_cons, if_true, pure_bind, Bool.false_eq_true, if_false]
  refine wpAny_bind (wpAny_newTextTuple ?_)
  have nofr : ∀ f, s0.heap.objs.size ≤ f → f ∉ frs X.stack := fun f hf z => by
    rcases List.mem_cons.mp (I0.stkSub _ z) with e | e
    · have h1 := I0.lt
      rw [← e] at h1
      exact Nat.lt_irrefl _ (Nat.lt_of_lt_of_le h1 hf)
    · exact I0.nofs hf e
  have nT : H s0.heap.objs.size = none := I0.hok.fresh (Nat.le_refl _)
  have IT : Inv X pins σ H { s0 with heap := s0.heap.push (PySem.W.kdv_tup [u]) } := I0.kept (t' := s0.toks) fun b o e => Heap.get?_push_of_some _ e
  have gT : (s0.heap.push (PySem.W.kdv_tup [u])).get? s0.heap.objs.size = some (PySem.W.kdv_tup [u]) := Heap.get?_push_size _ rfl
  have zT : (s0.heap.push (PySem.W.kdv_tup [u])).objs.size = s0.heap.objs.size + 1 := Heap.size_push ..
  have bP : (s0.heap.push (PySem.W.kdv_tup [u])).BuiltinsAt X.mg P := TB.bm.keeps IT.bk
  have hP' : (s0.heap.push (PySem.W.kdv_tup [u])).get? P = some { cls := .none, data := .fields ps } := IT.hok P _ hP
  cases hc : codeAmong pos ps.toList with
  | none =>
    refine PySem.W.kdv_makeTail (mg := X.mg) (c := c) (P := P) (ps := ps) (closure_ok hfree) IT.ok.glob (IT.mod.glob.keeps IT.bk) hcode (TB.code.keeps IT.bk) hP' ht hc TB.gP bP fun c' ctv doc h' tk hx hge hlt hrec htb => ?_
    obtain ⟨c2, oc, vs, t, e2, hoc, hd, hv⟩ := hrec
    cases e2
    replace hge : s0.heap.objs.size + 1 ≤ c' := by rw [← zT]; exact hge
    have hgo : (s0.heap.push (PySem.W.kdv_tup [u])).objs.size ≤ c' := by rw [zT]; exact hge
    have hsz : (s0.heap.push (PySem.W.kdv_tup [u])).objs.size ≤ h'.objs.size := Nat.le_trans hgo (Nat.le_of_lt hlt)
    have nC : H c' = none := IT.hok.fresh hgo
    have I1 := inv_table (t' := tk) (more := #[rawInt pos.line, rawInt pos.col, .ref c']) (h' := h'.push (dObj X params body scope s0.heap.objs.size doc ((X.mg "__name__").getD .none) c' ctv)) IT hP
      (fun b o hb e => Heap.get?_push_of_some _ (hx b o hb e)) (Heap.get?_push_of_some _ htb) hgo ⟨oc, vs, t, Heap.get?_push_of_some _ hoc, hd, hv⟩
    have hE : ExtN H (upd (upd H P (.tbl (ps ++ #[rawInt pos.line, rawInt pos.col, .ref c']))) c' (CodeO c' (X.env.qual ++ "<lambda>"))) := fun b o e n => by
      rw [upd_ne (ne_of_none e nC), upd_ne (fun z => n ps (Option.some.inj (e.symm.trans (by rw [z]; exact hP))))]
      exact e
    have eL : (ps ++ #[rawInt pos.line, rawInt pos.col, .ref c']).toList = ps.toList ++ [rawInt pos.line, rawInt pos.col, .ref c'] := by simp
    have nTP : s0.heap.objs.size ≠ P := fun z => by rw [z, hP] at nT; cases nT
    have nTc : s0.heap.objs.size ≠ c' := Nat.ne_of_lt hge
    refine h h'.objs.size s0.heap.objs.size c' u doc ((X.mg "__name__").getD .none) ctv _ _ I1 hE (fun p hp => ?_) (Heap.get?_push_size _ rfl) ?_ (nofr _ (Nat.le_trans (by rw [zT]; exact Nat.le_succ _) hsz)) (Heap.get?_push_of_some _ (hx _ _ nTP gT)) ?_ (nofr _ (Nat.le_refl _)) upd_same
    · by_cases hb : p.1 = P
      · rw [hu p hp hb, hb]
        refine ⟨_, by rw [upd_ne (ne_of_none hP nC), upd_same], by rw [eL]; exact PySem.TriplesOk_snoc _ _ _ _ ht, fun p' cv hcv => ?_⟩
        rw [eL] at hcv
        rcases among_app _ ht hcv with z | z
        · obtain ⟨c0, e1, e2⟩ := ha p' cv z
          exact ⟨c0, e1, hE _ _ e2 codeO_ne⟩
        · exact ⟨c', z, upd_same⟩
      · obtain ⟨ps', a1, a2, a3⟩ := hT p hp
        refine ⟨ps', by rw [upd_ne (ne_of_none a1 nC), upd_ne hb]; exact a1, a2, fun p' cv hcv => ?_⟩
        obtain ⟨c0, e1, e2⟩ := a3 p' cv hcv
        exact ⟨c0, e1, hE _ _ e2 codeO_ne⟩
    · have n1 : h'.objs.size ≠ c' := Nat.ne_of_gt hlt
      have n2 : h'.objs.size ≠ P := Nat.ne_of_gt (Nat.lt_of_lt_of_le (Heap.lt_size hP') hsz)
      rw [upd_ne n1, upd_ne n2]
      exact IT.hok.fresh hsz
    · rw [upd_ne nTc, upd_ne nTP]
      exact nT
  | some cv =>
    obtain ⟨c', e, hco⟩ := ha pos cv hc
    subst e
    refine PySem.W.kdv_makeTailHit (mg := X.mg) (c := c) (P := P) (ps := ps) (closure_ok hfree) IT.ok.glob (IT.mod.glob.keeps IT.bk) hcode (TB.code.keeps IT.bk) hP' ht hc bP fun ctv doc h' tk hx hsz => ?_
    have I1 : Inv X pins σ H { s0 with heap := h'.push (dObj X params body scope s0.heap.objs.size doc ((X.mg "__name__").getD .none) c' ctv), toks := tk } := IT.kept fun b o e => Heap.get?_push_of_some _ (hx b o e)
    exact h h'.objs.size s0.heap.objs.size c' u doc ((X.mg "__name__").getD .none) ctv H _ I1 (ExtN.refl H) hT (Heap.get?_push_size _ rfl) (IT.hok.fresh hsz) (nofr _ (Nat.le_trans (by rw [zT]; exact Nat.le_succ _) hsz)) (Heap.get?_push_of_some _ (hx _ _ gT)) nT (nofr _ (Nat.le_refl _)) hco
theorem lam_startD {HZ : Hp} {s1 : Shared} {A : Around} {outer : List Env} {E : XK} {scope : Scope} {b : Str} {u : Value} {f c' : Addr} {h₁ : Heap} {tk : Nat} (I : Inv X pins σ H s) (L : LamD X.N X.env.scope scope b) (e0 : Env0 X.prog X.w X.K X.mg X.base A outer s1 HZ) (hd : A.handled = none)
    (un : Un (frs X.stack) [] H HZ s.heap s1.heap) (hns : h₁.Ns s1.heap.objs.size fun y => ([(b, u)] : List (Str × Value)).reverse.lookup y) (kp : ∀ b o, s1.heap.get? b = some o → h₁.get? b = some o) :
    Inv (lamCx X A outer s1 HZ E scope f c') [] σ HZ { s1 with heap := h₁, toks := tk } := by
  have hfree := L.has I.ok
  have cm : ∀ {y c}, (cloFrom X.env.cells scope.names []).lookup y = some c → X.env.cells.lookup y = some c := fun {y c} e => by
    rcases cloFrom_mem (PySem.mem_of_lookup e) with hm | ⟨h1, h2⟩
    · cases hm
    · obtain ⟨c1, hc⟩ := hfree _ h1 rfl
      have hc : X.env.cells.lookup y = some c1 := hc
      have e2 : c = c1 := by
        rw [h2, hc] <;> rfl
      rw [e2]
      exact hc
  have look : ∀ {y}, scope.names.lookup y = some .free → ∃ c, (cloFrom X.env.cells scope.names []).lookup y = some c := fun {y} hl => by
    have hy : (y, NameKind.free) ∈ scope.names := PySem.mem_of_lookup hl
    exact mem_lookup (cloFrom_has (cells := X.env.cells) (acc := []) hy)
  have cellK : ∀ {c : Addr} {v : Option Value}, H c = none → s.heap.IsCell c v → h₁.IsCell c v := fun {c v} n ⟨o, ho, hd⟩ => by
    obtain ⟨sl, q⟩ := un.any ho n (by simp)
    exact ⟨_, kp _ _ q, hd⟩
  have noA : ∀ b : Addr, b ∉ (lamCx X A outer s1 HZ E scope f c').ex := fun b z => absurd (show b ∈ ([] : List Addr) from z) (by simp)
  refine ⟨⟨e0.mod, L.kind, rfl, rfl, Nat.le_refl _, fun y z c e1 e2 => I.ok.inj y z c (cm e1) (cm e2), fun y hy => ?_, fun y c z _ => ?_, fun _ => hd, Around.frames_deeper e0.frames, .inr ⟨rfl, rfl⟩, fun b z => absurd z (noA b), e0.bs, e0.bsz, fun b _ _ => noA b,
      fun b z => absurd z (noA b), e0.funs, e0.frf⟩,
    rfl, e0.bare, Un.kept kp, ⟨_, hns, fun i y v e1 e2 e3 => ?_⟩, fun y c e => ?_, e0.hok.fresh (Nat.le_refl _), fun y c e => ?_, fun q hq => absurd (show q ∈ ([] : List (Addr × Obj)) ++ [] from hq) (by simp), e0.hok.kept kp, I.len⟩
  · have hy : scope.names.lookup y = some .cell ∨ scope.names.lookup y = some .free := hy
    rcases hy with hy | hy
    · exact absurd rfl (L.own _ (PySem.mem_of_lookup hy)).2
    · exact look hy
  · have z : false = true := z
    cases z
  · have e3 : Vis scope y := e3
    rcases e3 with k | k | k
    · have : y = b := (L.own _ (PySem.mem_of_lookup k)).1 rfl
      have e1 : X.N[i]? = some y := e1
      rw [this] at e1
      exact absurd (List.mem_of_getElem? e1) L.nb
    · exact absurd rfl (L.own _ (PySem.mem_of_lookup k)).2
    · obtain ⟨m, hn, hl⟩ := I.loc
      have hvis : Vis X.env.scope y := (L.free _ (PySem.mem_of_lookup k) rfl).elim (fun k => .inr (.inl k)) (fun k => .inr (.inr k))
      obtain ⟨w', r, q⟩ := hl i y v e1 e2 hvis
      obtain ⟨c2, h2⟩ := look k
      refine ⟨w', r, .inr ⟨.inr k, c2, h2, ?_⟩⟩
      have c1 := cm h2
      rcases q with ⟨k', _⟩ | ⟨_, c3, e', z⟩
      · have k' : X.env.scope.names.lookup y = some .local := k'
        rcases L.free _ (PySem.mem_of_lookup k) rfl with k2 | k2 <;> rw [show X.env.scope.names.lookup y = _ from k2] at k' <;> cases k'
      · rw [c1] at e'
        cases e'
        exact cellK (I.freeC y _ c1) z
  · obtain ⟨w', z⟩ := I.cell y c (cm e)
    exact ⟨w', cellK (I.freeC y c (cm e)) z⟩
  · obtain ⟨v, o, ho, hd⟩ := I.cell y c (cm e)
    exact un.free c o ho (I.freeC y c (cm e)) (by simp)
theorem pe_actD {CXg : CXT} {Eg : XK} {Ng : List Str} {qg : Str} {sg : Scope} {g f t c' : Addr} {cdg u doc pm ctv : Value} {params : Arguments} {body : Expr} {scope : Scope} {k i : Nat} {a b : Str} {pn : List (Addr × Obj)} {xe : Value → Shared → Prop} {W : WX} {E : XK} {tb : TE} {p1 p2 : Pos}
    (I : Inv X pins σ H s) (L : LamD X.N X.env.scope scope b) (hf : s.heap.get? f = some (dObj X params body scope t doc pm c' ctv)) (hfn : H f = none) (hfr : f ∉ frs X.stack) (htt : s.heap.get? t = some (PySem.W.kdv_tup [u])) (htn : H t = none) (htr : t ∉ frs X.stack)
    (hbind : ∀ s', s'.heap.get? t = some (PySem.W.kdv_tup [u]) → BindsTo s' (PySem.W.kdv_fn "<lambda>" (X.env.qual ++ "<lambda>") params (.expr body) scope (cloFrom X.env.cells scope.names []) (.ref t) doc pm (.ref c') ctv) ⟨[], []⟩ [(b, u)])
    (tk : Takes ((cxOf CXg X.prog X.w X.K X.mg X.base Ng qg sg g cdg X.A X.stack s H Eg).tr pn xe) W) (hW : ∀ cls d σ' H', E cls d H' → W cls d σ' H') (hr : Room (k + 1) (X.A.deeper (envOfC qg sg s.heap.objs.size g cdg)))
    (hbody : ∀ (A : Around) (outer : List Env) (s : Shared) (H : Hp), Room k (A.deeper (lamEnv X scope s.heap.objs.size f c')) → PE (lamCx X A outer s H E scope f c') body tb)
    (hN : Ng[i]? = some a) (hv : Vis sg a) (hd : (a == ("__debug__" : Str)) = false := by decide) (hcd : (a == ("__classdict__" : Str)) = false := by decide) :
    PE ((cxOf CXg X.prog X.w X.K X.mg X.base Ng qg sg g cdg X.A X.stack s H Eg).tr pn xe) (.Call (.Name a p1) [] [] p2)
      (fun σZ HZ Q => σZ[i]? = some (some (.ref f)) ∧ HZ c' = some (CodeO c' (X.env.qual ++ "<lambda>")) ∧ tb σ HZ Q) := by
  refine ⟨fun pinsZ sZ σZ HZ Q IZ h => ?_⟩
  obtain ⟨hs, hc, ht⟩ := h
  refine wpAny_Call_Name_kw (thn ((pe_var (pos := p1) (i := i) hN hv hd hcd).run pinsZ sZ σZ HZ (fun v H1 => v = .ref f ∧ H1 = HZ) IZ ⟨.ref f, hs, rfl, rfl⟩) fun u1 s1 ⟨v, H1, I1, r1, q1⟩ => ?_)
  obtain ⟨ev, eH⟩ := q1
  subst ev
  rw [eH] at I1
  obtain rfl : u1 = Value.ref f := r1
  have of1 : s1.heap.get? f = some (dObj X params body scope t doc pm c' ctv) := I1.base.keep f _ hf hfn hfr (fun z => nomatch (show f ∈ ([] : List Addr) from z))
  have ot1 : s1.heap.get? t = some (PySem.W.kdv_tup [u]) := I1.base.keep t _ htt htn htr (fun z => nomatch (show t ∈ ([] : List Addr) from z))
  refine PySem.W.callWith_F0 ⟨_, _, _, _, of1⟩ ?_
  have un : Un (frs X.stack) [] H HZ s.heap s1.heap := I1.base
  obtain ⟨⟨oc, vs, t2, hoc, hdc, hvc⟩, _, _⟩ := I1.hok c' _ hc
  have rc : codeAny (model X.prog X.w) (X.A.deeper (envOfC qg sg s.heap.objs.size g cdg)) (.call (.ref f) ⟨[], []⟩) (CR (L2.CX X.prog X.w) (envOfC qg sg s.heap.objs.size g cdg :: X.stack) X.prog X.w HZ s1 Q E) s1 := by
    refine PySem.W.kla_callFunE hr.depth of1 rfl L.co L.gen rfl ⟨c', oc, vs, t2, rfl, hoc, hdc, hvc⟩ ?_
    refine hbind s1 ot1 _ _ _ _ ?_
    refine wpAny_newFunctionEnv (fun y hy => (L.own y hy).2) (fun y hy => by rw [List.mem_singleton.mp hy]; exact L.lb) (fun h₁ hns hsb => ⟨I1.nolimit.fresh _ hsb, ?_⟩) L.kind
    show codeAny _ _ (.expr body (lamEnv X scope s1.heap.objs.size f c')) _ _
    have kp : ∀ b o, s1.heap.get? b = some o → h₁.get? b = some o := fun b o e => hsb.extBut b o (Nat.ne_of_lt (Heap.lt_size e)) (Heap.get?_push_of_some _ e)
    have J := lam_startD (A := X.A.deeper (envOfC qg sg s.heap.objs.size g cdg)) (outer := envOfC qg sg s.heap.objs.size g cdg :: X.stack) (E := E) (f := f) (c' := c') (u := u) (tk := s1.toks + ([(b, u)] : List (Str × Value)).length) I L I1.env0 hr.hd un hns kp
    refine PySem.W.kla_codeExpr (wpAny_mono ((hbody _ _ s1 HZ (hr.deeper _)).run [] _ _ HZ Q J ht) (fun v s' hq => ?_) fun e s' hq => hq)
    obtain ⟨w', H', J', rv, q⟩ := hq
    exact ⟨w', H', J'.os, J'.bare, J'.base, J'.hok, rv, q⟩
  have hx : Passes (L2.CX X.prog X.w) ((cxOf CXg X.prog X.w X.K X.mg X.base Ng qg sg g cdg X.A X.stack s H Eg).tr pn xe) E := passes_call tk hW
  refine wpAny_call (codeAny_mono rc fun r s' hq => ?_)
  cases r with
  | error e => exact hx pinsZ σZ HZ s1 e s' I1 hq
  | ok fl =>
    cases fl with
    | ret u => exact I1.after hq
    | next => exact False.elim hq
    | brk => exact False.elim hq
    | cont => exact False.elim hq
/-- x(lambda b=n0: body) -/
theorem pe_lamcallD {Ts : List (Addr × Str)} {TT : (XK → Hp → VK → Prop) → Hp → VK → Prop} {x a b : Str} {g c P : Addr} {k : Nat} {pg : Arguments} {bg : List Stmt} {sg : Scope} {dV kV doc pm cdv ct oc : Value} {an od : Option Addr} {osl : Array (Option Value)} {Ng : List Str}
    {params : Arguments} {e0 body : Expr} {n0 : Int} {scope : Scope} {t : XK → TE} {p lpos pos : Pos} (hg : Gl X x) (hm : X.mg x = some (.ref g)) (hk : PySem.W.keepIn X.K (.ref g) = true)
    (lk : X.K.lookup g = some ⟨oc, od, .func (PySem.W.fnOf x x pg bg sg dV kV doc pm an cdv ct), osl⟩) (hcg : PySem.W.codeIn X.K cdv x = true) (hb : L2.Binds X.K (PySem.W.fnOf x x pg bg sg dV kV doc pm an cdv ct) [a] []) (Sg : FnScope Ng [a] sg) (hNg : Ng[0]? = some a) (hva : Vis sg a)
    (hG : GivesTo X Ng x sg g cdv bg a (X.env.qual ++ "<lambda>") TT)
    (TB : TabB X.base X.mg c P) (hcode : X.env.code = .ref c) (hmT : (P, X.env.qual ++ "<lambda>") ∈ Ts) (hu : ∀ p ∈ Ts, p.1 = P → p.2 = X.env.qual ++ "<lambda>") (hr : Room (k + 2) X.A) (L : LamD X.N X.env.scope scope b) (hd1 : params.defaults = [e0]) (hd2 : params.kw_defaults = []) (he0 : PE X e0 (tC (.int n0)))
    (hbind : ∀ (q : Str) (cl : List (Str × Addr)) (doc pm cv ctv u : Value) (t : Addr) (s' : Shared), s'.heap.get? t = some (PySem.W.kdv_tup [u]) → BindsTo s' (PySem.W.kdv_fn "<lambda>" q params (.expr body) scope cl (.ref t) doc pm cv ctv) ⟨[], []⟩ [(b, u)])
    (hbody : ∀ (A : Around) (outer : List Env) (s : Shared) (H : Hp) (E : XK) (f c' : Addr), Room k (A.deeper (lamEnv X scope s.heap.objs.size f c')) → PE (lamCx X A outer s H E scope f c') body (t E))
    (hdb : (x == ("__debug__" : Str)) = false := by decide) (hd : (a == ("__debug__" : Str)) = false := by decide) (hcd : (a == ("__classdict__" : Str)) = false := by decide) :
    PE X (.Call (.Name x p) [.Lambda params body scope lpos] [] pos) (tLam Ts TT t) := by
  refine ⟨fun pins s σ H Q I h => ?_⟩
  obtain ⟨hT, h⟩ := h
  refine wpAny_Call_Name_kw (ld_glob I hg hm ?_ hdb)
  refine PySem.W.callWith_K (h₀ := X.base) I.ok.mod.kin hk ?_ (by rfl) (by rfl)
  show wpAny _ _ (spliced ((false, eval (.Lambda params body scope lpos) X.env) :: backTo pos (starEach [] X.env))) _ _ s
  refine Calls.spliced_cons (lam_makeD I TB hcode hmT hu hT hd1 hd2 he0 (L.has I.ok) fun f tt c' u doc' pm' ctv H1 s' I1 eN T1 hf hfn hfr htt htn htr hco => ?_)
  refine Calls.spliced_nil ⟨I1.kIn, ?_⟩
  have rc : codeAny (model X.prog X.w) X.A (.call (.ref g) ⟨[.ref f], []⟩) (CR C8.CX0 X.stack X.prog X.w H1 s' Q C8.E0) s' := by
    refine run_ofS (N := Ng) (ps := [a]) (us := [.ref f]) (vs := [.ref f]) lk hcg Sg hr I1.env0 (hb s' [.ref f] I1.kIn rfl) (.cons rfl .nil) rfl fun hr' => ?_
    obtain ⟨t', ht', hq'⟩ := hG f c' s' H1 Q (fun E H' Q' => t E σ H' Q') (fun W pn xe E p1 p2 tk hW => pe_actD (i := 0) I1 L hf hfn hfr htt htn htr (fun s' h' => hbind _ _ _ _ _ _ _ _ s' h') tk hW hr' (fun A outer s H hr2 => hbody A outer s H E f c' hr2) hNg hva hd hcd) hco (h H1 eN T1)
    exact ⟨t', ht'.nox, hq'⟩
  refine wpAny_call (codeAny_mono rc fun r s2 hq => ?_)
  cases r with
  | error e => exact (show False from hq).elim
  | ok fl =>
    cases fl with
    | ret u => exact I1.after hq
    | next => exact False.elim hq
    | brk => exact False.elim hq
    | cont => exact False.elim hq
end
end M3

/-! L5L: a list comprehension whose element may raise (a call's exception goes through the block) -/
namespace PySem
section
variable {M : Model} {A : Around} {E : Value → Shared → Prop} {env : Env} {s : Shared}
/-- what is due behind the block: ce the block's env -/
def compPostX (M : Model) (A : Around) (E : Value → Shared → Prop) (Q : Value → Shared → Prop) (acc : Value) (ce : Env) (r : Result) (s' : Shared) : Prop :=
  match r with
  | .ok _ => ∃ m, s'.heap.Ns ce.locals m ∧ ∀ h', Heap.SameBut ce.locals s'.heap h' → Q acc { s' with heap := h' }
  | .error x => ∃ m, s'.heap.Ns ce.locals m ∧ ∀ h', Heap.SameBut ce.locals s'.heap h' → wpAny M A (passOn "comprehension.variables-let-go" x ce : Sem Value) (fun _ _ => False) E { s' with heap := h' }
theorem wpAny_comprehension_X {e : Expr} {scope : Scope} {pos : Pos} {newAcc first : Sem Value} {g : Comprehension} {gs : List Comprehension} {cl : List (Str × Addr)} {Q : Value → Shared → Prop}
    (hcl : clausesOf e = g :: gs) (hs : ∀ x, foldedSetIterable g.iter env x = pure x) (hclos : closureFor scope env = pure cl)
    (hkind : scope.kind = .function) (hnames : ∀ x ∈ scope.names, x.2 = .local → scope.names.lookup x.1 = some .local)
    (h : wpAny M A first (fun x s₁ => wpAny M A (pyIter x) (fun it s₂ => wpAny M A newAcc (fun acc s₃ =>
      wpAny M A (newFunctionEnv scope env.globals cl [] env.qual none .none (some env)) (fun cenv s₄ =>
        codeAny M A (.compStart e 0 it acc { cenv with scope := relabel scope env }) (compPostX M A E Q acc { cenv with scope := relabel scope env }) s₄) E s₃) E s₂) E s₁) E s) :
    wpAny M A (comprehension e scope env pos newAcc false first none) Q E s := by
  unfold comprehension
  rw [hclos, hcl]
  refine wpAny_bind (wpAny_mono h (fun x s₁ h₁ => wpAny_bind (wpAny_standAt (wpAny_bind (wpAny_of_eq (hs x) (wpAny_bind (wpAny_holding (wpAny_mono h₁ (fun it s₂ h₂ =>
    wpAny_standIf (wpAny_bind (wpAny_mono h₂ (fun acc s₃ h₃ => wpAny_bind (wpAny_pure (wpAny_bind (wpAny_mono h₃ (fun cenv s₄ h₄ => ?_) fun _ _ h' => h')))) fun _ _ h' => h')))
      fun _ _ h' => h'))))))) fun _ _ h' => h')
  dsimp only
  have hv : ∀ x ∈ (scope.names.filter fun x => (x.2 == .local || x.2 == .cell) && x.1 != (".0" : Str)).reverse, x.2 = .local →
      Env.kindOf { cenv with scope := relabel scope env } x.1 = some .local := fun x hx hl => lookup_relabel_local (hnames x (List.mem_filter.mp (List.mem_reverse.mp hx)).1 hl)
  refine wpAny_holding (wpAny_bind (wpAny_attempt (wpAny_holding (wpAny_run (codeAny_mono h₄ fun r s' hr => ?_)))))
  cases r with
  | ok f =>
    obtain ⟨m, hn, hr⟩ := hr
    exact wpAny_bind (wpAny_holding (wpAny_comp_letGo (cenv := { cenv with scope := relabel scope env }) hkind _ s' m hv hn fun h' m' _ hs' => wpAny_pure (hr h' hs')))
  | error x =>
    obtain ⟨m, hn, hr⟩ := hr
    exact wpAny_bind (wpAny_holding (wpAny_comp_letGo (cenv := { cenv with scope := relabel scope env }) hkind _ s' m hv hn fun h' m' _ hs' => wpAny_mono (hr h' hs') (fun _ _ f => f.elim) fun _ _ y => y))
theorem noteFrame_congr {e : Value} {env env' : Env} (h : env.frame = env'.frame) : noteFrame e env = noteFrame e env' := by
  unfold noteFrame frameOf
  rw [h]
end
end PySem
namespace L2
open PySem PySem.Spec PyProof.Rows
/-- a heap without one place -/
theorem sans (h : Heap) (C : Addr) : ∃ G : Heap, (∀ b, b ≠ C → G.get? b = h.get? b) ∧ G.get? C = none := by
  obtain ⟨G, g1, g2⟩ := restrict h fun b => decide (b ≠ C)
  exact ⟨G, fun b hb => g1 b (by simp [hb]), g2 C (by simp)⟩
theorem funFrames_sans {C : Addr} {B B3 h h3 : Heap} (hB : ∀ b, b ≠ C → B3.get? b = B.get? b) (hh : ∀ b, b ≠ C → h3.get? b = h.get? b) : ∀ {l : List Env}, h.FunFrames B l → (∀ b ∈ frs l, b ≠ C) → h3.FunFrames B3 l
  | [], _, _ => trivial
  | env :: l, x, n => by
    obtain ⟨hk, ⟨L, o, hf, hb, ho, hd⟩, hr⟩ := x
    have nL : L ≠ C := n L (List.mem_filterMap.mpr ⟨env, List.mem_cons_self, hf⟩)
    exact ⟨hk, ⟨L, o, hf, by rw [hB L nL]; exact hb, by rw [hh L nL]; exact ho, hd⟩, funFrames_sans hB hh hr fun b hb => by
      obtain ⟨e, he, q⟩ := List.mem_filterMap.mp hb
      exact n b (List.mem_filterMap.mpr ⟨e, List.mem_cons_of_mem _ he, q⟩)⟩
theorem held_sans {C : Addr} {B B3 h h3 : Heap} {l : List Env} {e L : Addr} {Z : Obj → Prop} (x : HandSPX.HeldZ B l e Z L h) (hB : ∀ b, b ≠ C → B3.get? b = B.get? b) (hC : B3.get? C = none) (hh : ∀ b, b ≠ C → h3.get? b = h.get? b)
    (n : ∀ b ∈ frs l, b ≠ C) {o : Obj} (ho : h.get? C = some o) (hd : ∀ vs, o.data ≠ .fields vs) : HandSPX.HeldZ B3 l e Z L h3 := by
  obtain ⟨k, ne, ff, oe, vs, T, oT, ts, he, hz, hdv, h1, nT, Te, hT, hdT, h3'⟩ := x
  have eC : e ≠ C := fun q => by rw [q, ho] at he; cases he; exact hd _ hdv
  have TC : T ≠ C := fun q => by rw [q, ho] at hT; cases hT; exact hd _ hdT
  refine ⟨fun b u q => ?_, by rw [hB e eC]; exact ne, funFrames_sans hB hh ff n, oe, vs, T, oT, ts, by rw [hh e eC]; exact he, hz, hdv, h1, by rw [hB T TC]; exact nT, Te, by rw [hh T TC]; exact hT, hdT, h3'⟩
  have bC : b ≠ C := fun z => by rw [z, hC] at q; cases q
  rw [hB b bC] at q
  rw [hh b bC]
  exact k b u q
section
variable {X : Cx} {pins : List (Addr × Obj)} {σ : St} {H : Hp} {s s' : Shared} {E : XK}
/-- a call's exception, in flight -/
theorem fly_of_call (I : Inv X pins σ H s) {u : Value} (c : CX X.prog X.w X.stack H s E u s') : ∃ (a : Addr) (B : Heap) (sI : Shared) (H' : Hp) (cls : Value) (d : Option Addr),
    u = .ref a ∧ Inv X pins σ H' sI ∧ (∀ b o, sI.heap.get? b = some o → b ∉ frs X.stack → B.get? b = some o) ∧ sI.heap.UpToSlots s'.heap ∧ HandSPX.FlyingZ B X.stack a (Zc cls d) s'.heap ∧ H' a = none ∧ s'.os = sI.os ∧ AllBare s'.gens ∧ E cls d H' := by
  obtain ⟨a, B, H', cls, d, rfl, fl, hok, ub, na, os, ag, hE⟩ := c
  obtain ⟨G, g1, g2⟩ := restrict s'.heap fun b => (B.get? b).isSome || decide (b ∈ frs X.stack)
  have st : B.StaysIn s'.heap := fl.1
  have gB : ∀ b o, B.get? b = some o → G.get? b = some o := fun b o e => by
    rw [g1 b (by simp [e])]
    exact st b o e
  have gF : ∀ b, b ∈ frs X.stack → G.get? b = s'.heap.get? b := fun b hb => g1 b (by simp [hb])
  have og : ∀ b o, G.get? b = some o → s'.heap.get? b = some o ∧ ((B.get? b).isSome = true ∨ b ∈ frs X.stack) := fun b o e => by
    cases q : ((B.get? b).isSome || decide (b ∈ frs X.stack)) with
    | false => rw [g2 b q] at e; cases e
    | true =>
      rw [g1 b q] at e
      exact ⟨e, by simpa [Bool.or_eq_true] using q⟩
  refine ⟨a, B, { s with heap := G, gens := s'.gens, drawn := s'.drawn, toks := s'.toks }, H', cls, d, rfl, ?_, fun b o e hb => ?_, Heap.UpToSlots.of_keeps fun b o e => (og b o e).1, fl, na, os, ag, hE⟩
  · refine I.call (ch := []) ⟨fun b o e n hb _ => gB b o (ub.keep b o e n hb), fun b o e n hb _ => ?_, fun b o e n _ => ub.free b o e n, fun b o e _ => ?_, ub.tups, ub.frzs, ub.tbls⟩ (hok.kept gB) ag (fun _ z => nomatch z)
    · obtain ⟨sl, q⟩ := ub.slot b o e hb
      exact ⟨sl, by rw [gF b hb]; exact q⟩
    · by_cases hb : b ∈ frs X.stack
      · obtain ⟨sl, q⟩ := ub.slot b o e hb
        exact ⟨_, by rw [gF b hb]; exact q⟩
      · obtain ⟨o', q⟩ := ub.there b o e hb
        exact ⟨o', gB b o' q⟩
  · obtain ⟨e', h⟩ := og b o e
    rcases h with h | h
    · obtain ⟨o', q⟩ := Option.isSome_iff_exists.mp h
      have z := st b o' q
      rw [e'] at z; cases z
      exact q
    · exact absurd h hb
end
end L2
namespace L2
open PySem PySem.Spec PyProof.Rows
section
variable {X : Cx}
theorem lc_coreX {pins : List (Addr × Obj)} {s : Shared} {σ : St} {H : Hp} {Q : VK} {elt tg iter : Expr} {ifs : List Expr} {scope : Scope} {own : List (Str × Nat)} {pos pos' : Pos} {wi : TI} {g : TG} {tt : TT} {te : TE} {Qf : Value → Shared → Prop} {E : XK} {W : WX}
    (hst : X.stack = X.env :: X.outer) (hfm : X.env.frame = some X.env.locals) (tk : Takes X W) (hEW : ∀ cls d σ H, E cls d H → W cls d σ H)
    (hc : X.calm = true) (hN : X.N.Nodup) (I : Inv X pins σ H s) (hi : PI X tg iter wi) (ok : BlkOk X.N X.env.scope scope own)
    (hg : ∀ (s : Shared) (H : Hp) (C : Addr) (cl : List (Str × Addr)) (fp : List Addr), PG (X.blk s H scope (compEnvC scope cl C X.env) fp) tg g) (ht : ∀ (s : Shared) (H : Hp) (C : Addr) (cl : List (Str × Addr)) (fp : List Addr), PTs (X.blk s H scope (compEnvC scope cl C X.env) fp) ifs tt)
    (he : ∀ (s : Shared) (H : Hp) (C : Addr) (cl : List (Str × Addr)) (fp : List Addr) (xe : Value → Shared → Prop), Passes (CX X.prog X.w) ((X.blk s H scope (compEnvC scope cl C X.env) fp).wish xe) E → PE ((X.blk s H scope (compEnvC scope cl C X.env) fp).wish xe) elt te) (hs : ∀ x, foldedSetIterable iter X.env x = pure x)
    (h : tLc wi g tt te (own.map (·.2)) σ H Q)
    (hRR : ∀ D C s' m H', Inv X pins σ H' s' → Q (.ref D) H' → s'.heap.Ns C m → FpOk X pins H' C → ∃ m, s'.heap.Ns C m ∧ ∀ h', Heap.SameBut C s'.heap h' → Qf (.ref D) { s' with heap := h' }) :
    wpAny (model X.prog X.w) X.A (comprehension (.ListComp elt [⟨tg, iter, ifs, 0⟩] scope pos) scope X.env pos' (newList []) false (eval iter X.env) none) Qf X.xe s := by
  have hfree : ∀ y ∈ scope.names, y.2 = .free → ∃ c, X.env.cells.lookup y.1 = some c := fun y hy e => by
    rcases ok.free y hy e with k | k
    · exact I.ok.has _ (.inl k)
    · exact I.ok.has _ (.inr k)
  refine wpAny_comprehension_X rfl hs (closure_ok hfree) ok.kind (fun y hy e => by rw [ok.uniq y hy, e])
    (thn (hi.run pins s σ H _ I h) fun xv s1 hx => thn hx fun itv s2 h2 => ?_)
  obtain ⟨it, fp, tn, J, H2, e, I2, T, st2, f2, q⟩ := h2
  subst e
  refine wpAny_newObj_type (newEnv_comp ?_) (by show 0 ≤ sizeLine; decide)
  generalize hD : s2.heap.objs.size = D
  have hDn : H2 D = none := I2.hok.fresh (Nat.le_of_eq hD)
  obtain ⟨W0, ⟨m0, w0⟩, turn⟩ := q D hDn
  -- the new list
  generalize hs3 : ({ s2 with heap := s2.heap.push { cls := .type "list", data := .seq ([] : List Value).toArray } } : Shared) = s3
  have I3 : Inv X pins σ (upd H2 D (.lst [])) s3 := by
    rw [← hs3]
    refine I2.laid (t' := s2.toks) (fun b o e => Heap.get?_push_of_some _ e) (Nat.le_of_eq hD) ⟨Nat.zero_le _, [], 0, .nil, ?_⟩
    rw [← hD]
    exact Heap.get?_push_size _ rfl
  have h3 : s3.heap = s2.heap.push { cls := .type "list", data := .seq ([] : List Value).toArray } := by rw [← hs3]
  have sz : ∀ b ∈ fp, b < s2.heap.objs.size := fun b hb => by
    obtain ⟨o, e, _⟩ := T.obj _ _ st2 b hb
    exact Heap.lt_size e
  have f3 : ∀ b ∈ fp, FpOk X pins (upd H2 D (.lst [])) b ∧ b < s3.heap.objs.size := fun b hb => by
    have hlt := sz b hb
    refine ⟨⟨?_, (f2 b hb).2⟩, by rw [h3, Heap.size_push]; exact Nat.lt_succ_of_lt hlt⟩
    rw [upd_ne (by rw [← hD]; exact Nat.ne_of_lt hlt)]
    exact (f2 b hb).1
  have st3 : tn 0 s3.heap := T.keep _ _ _ st2 fun b _ o e => by rw [h3]; exact Heap.get?_push_of_some _ e
  have I4 := block_start I3 ok hN f3
  have pg := hg s3 (upd H2 D (.lst [])) s3.heap.objs.size (cellsFrom (s3.heap.objs.size + 1) scope.names (cloFrom X.env.cells scope.names [])) fp
  have pt := ht s3 (upd H2 D (.lst [])) s3.heap.objs.size (cellsFrom (s3.heap.objs.size + 1) scope.names (cloFrom X.env.cells scope.names [])) fp
  have pe := he s3 (upd H2 D (.lst [])) s3.heap.objs.size (cellsFrom (s3.heap.objs.size + 1) scope.names (cloFrom X.env.cells scope.names [])) fp
  show codeAny _ _ (.compStart (.ListComp elt [⟨tg, iter, ifs, 0⟩] scope pos) 0 (.ref it) (.ref D) (compEnvC scope (cellsFrom (s3.heap.objs.size + 1) scope.names (cloFrom X.env.cells scope.names [])) s3.heap.objs.size X.env)) (compPostX (model X.prog X.w) X.A X.xe Qf (.ref D) (compEnvC scope (cellsFrom (s3.heap.objs.size + 1) scope.names (cloFrom X.env.cells scope.names [])) s3.heap.objs.size X.env)) { s3 with heap := pushCells (s3.heap.push { cls := .type "dict", data := .dict #[] }) scope.names }
  have nfp : ∀ b ∈ fp, (upd H2 D (.lst [])) b = none := fun b hb => (f3 b hb).1.1
  generalize hce : compEnvC scope (cellsFrom (s3.heap.objs.size + 1) scope.names (cloFrom X.env.cells scope.names [])) s3.heap.objs.size X.env = ce at I4 pg pt pe ⊢
  have cL : ce.locals = s3.heap.objs.size := by subst hce; rfl
  have cF : ce.frame = X.env.frame := by subst hce; rfl
  generalize hH3 : upd H2 D (.lst []) = H3 at I3 I4 pg pt pe w0 nfp f3
  generalize hs4 : ({ s3 with heap := pushCells (s3.heap.push { cls := .type "dict", data := .dict #[] }) scope.names } : Shared) = s4 at I4 ⊢
  have st4 : tn 0 s4.heap := T.keep _ _ _ st3 fun b _ o e => by rw [← hs4]; exact pushCells_keeps _ _ _ _ (Heap.get?_push_of_some _ e)
  have stat : ∀ {σ' : St} {H' : Hp} {s' : Shared}, Inv (X.blk s3 H3 scope ce fp) [] σ' H' s' → (∀ b ∈ fp, H' b = none) → ∀ b ∈ fp, FpOk (X.blk s3 H3 scope ce fp) [] H' b := fun {σ' H' s'} I' hn b hb =>
    ⟨hn b hb, (I'.ok.exf b hb).1, I'.ok.exfs b hb, .inl hb, fun x c e => (I'.ok.exf b hb).2 x c e, fun p hp => absurd (show p ∈ ([] : List (Addr × Obj)) ++ [] from hp) (by simp)⟩
  -- back in the def's context, from any state of the block
  have home : ∀ {pins' : List (Addr × Obj)} {σ' : St} {H5 : Hp} {s6 : Shared}, Inv (X.blk s3 H3 scope ce fp) pins' σ' H5 s6 → Inv X pins σ H5 s6 ∧ FpOk X pins H5 s3.heap.objs.size ∧ ∃ m, s6.heap.Ns s3.heap.objs.size m := fun {pins' σ' H5 s6} I6 => by
    have I7 : Inv X pins σ H5 s6 := I3.call' (ch := fp) I6.os I6.base I6.hok I6.bare fun b hb => ⟨(f3 b hb).1.2.2.2.1, (f3 b hb).1.2.1, (f3 b hb).1.2.2.2.2.1, (f3 b hb).1.2.2.2.2.2⟩
    have nC : H5 s3.heap.objs.size = none := by
      have z : H5 ce.locals = none := I6.free
      rw [cL] at z
      exact z
    obtain ⟨m, hn, _⟩ := I6.loc
    have hn : s6.heap.Ns ce.locals m := hn
    rw [cL] at hn
    exact ⟨I7, I3.fpOk (Nat.le_refl _) nC, m, hn⟩
  have nCf : ∀ b ∈ frs X.stack, b ≠ s3.heap.objs.size := fun b hb z => by
    obtain ⟨_, o, e, _⟩ := I3.stack.mem hb
    have := Heap.lt_size e
    rw [z] at this
    exact Nat.lt_irrefl _ this
  -- an exception of a call goes through the block
  have thru : Passes (CX X.prog X.w) ((X.blk s3 H3 scope ce fp).wish (notedBy (model X.prog X.w) X.A ce fun e s' => compPostX (model X.prog X.w) X.A X.xe Qf (.ref D) ce (.error e) s')) E := by
    intro pins' σ' H' s5 u s6 I5 cx
    obtain ⟨a, B, sI, H6, cls, d, rfl, Ib, nb, up, fl, na, os, ag, hE⟩ := fly_of_call I5 cx
    have Ib' : Inv (X.blk s3 H3 scope ce fp) pins' σ' H6 sI := Ib.unwish
    show wpAny (model X.prog X.w) X.A (noteFrame (.ref a) ce) _ _ s6
    rw [noteFrame_congr cF]
    have hfr : X.A.frames = some (X.env :: X.outer) := by rw [I3.ok.frames, hst]
    have fl : HandSPX.FlyingZ B X.stack a (Zc cls d) s6.heap := fl
    rw [hst] at fl
    refine HandSPX.looks_onZ Zc.steady hfr hfm fl fun h' hh up' => ?_
    have Il : Inv (X.blk s3 H3 scope ce fp) pins' σ' H6 { s6 with heap := h' } := Inv.landed (s' := { s6 with heap := h' }) Ib' nb hh.1 (up.trans up') os ag
    obtain ⟨_, fpC, m, hn⟩ := home Il
    have hn' : h'.Ns s3.heap.objs.size m := hn
    show ∃ m, h'.Ns ce.locals m ∧ _
    rw [cL]
    refine ⟨m, hn', fun h3' sb => ?_⟩
    obtain ⟨oC, es, ep, eC, dC, _⟩ := hn'
    have dC' : ∀ vs, oC.data ≠ .fields vs := fun vs z => by rw [dC] at z; cases z
    -- without the block's names
    obtain ⟨B3, b1, b2⟩ := sans B s3.heap.objs.size
    obtain ⟨G3, g1, g2⟩ := sans sI.heap s3.heap.objs.size
    have hn2 : ∀ b ∈ frs (X.env :: X.outer), b ≠ s3.heap.objs.size := by rw [← hst]; exact nCf
    have hh3 := held_sans (h3 := h3') hh b1 b2 sb.2 hn2 eC dC'
    have tr := hh3.2.2.2
    obtain ⟨oe, vs, T0, oT, ts, he0, hz, hdv, h1, _⟩ := tr
    unfold PySem.passOn
    refine wpAny_bind (wpAny_field he0 hdv h1 ?_)
    rw [if_neg (show ¬ ((Value.ref T0 == Value.none) = true) from by simp)]
    refine wpAny_bind ?_
    rw [cF, hfm]
    refine HandSPX.setFlight_onZ hh3 fun h4 hh4 up4 => ?_
    refine wpAny_throw (tk _ _ ?_)
    obtain ⟨Io, fpo, _⟩ := home Ib'
    obtain ⟨f0, f1, f2', f3', f4', f5'⟩ := fpo
    refine ⟨a, B3, { sI with heap := G3, toks := sI.toks }, pins, σ, H6, cls, d, rfl, Io.turned (fun b o hb e => by rw [g1 b hb]; exact e) f0 f1 f3' f4' f5', fun b o e hb => ?_, fun b o e hd => ?_, .inr (.inr (by rw [hst]; exact hh4)), na, os, ag, hEW _ _ _ _ hE⟩
    · have e : G3.get? b = some o := e
      have bC : b ≠ s3.heap.objs.size := fun z => by rw [z, g2] at e; cases e
      rw [g1 b bC] at e
      rw [b1 b bC]
      exact nb b o e hb
    · have e : G3.get? b = some o := e
      have bC : b ≠ s3.heap.objs.size := fun z => by rw [z, g2] at e; cases e
      rw [g1 b bC] at e
      obtain ⟨sl, e1⟩ := (up.trans up') b o e hd
      have e2 : h3'.get? b = some { o with slots := sl } := by rw [sb.2 b bC]; exact e1
      obtain ⟨sl2, e3⟩ := up4 b _ e2 hd
      exact ⟨sl2, e3⟩
  have pe := pe _ thru
  have loop : codeAny (model X.prog X.w) X.A (.compLoop (.ListComp elt [⟨tg, iter, ifs, 0⟩] scope pos) 0 (.ref it) (.ref D) ce) (compPostX (model X.prog X.w) X.A X.xe Qf (.ref D) ce) s4 := by
    refine compLoop_any (fun n s' => ∃ i H', Inv (X.blk s3 H3 scope ce fp) [] (wipe σ (own.map (·.2))) H' s' ∧ tn i s'.heap ∧ (∀ b ∈ fp, H' b = none) ∧ W0 i n H') ?_ m0 ⟨0, H3, I4, st4, nfp, w0⟩
    rintro n s5 ⟨i, H5, I5, st5, n5, w5⟩
    rcases turn i n H5 w5 with ⟨stop, qq⟩ | ⟨go, Nx, hNx, step⟩
    · have td := T.done (X.blk s3 H3 scope ce fp) rfl rfl rfl hc i [] s5 _ H5 (fun _ _ => False) I5 (stat I5 n5) st5 stop
      refine thnF td fun r s6 ⟨hr, I6⟩ => ?_
      subst hr
      obtain ⟨I7, f7, m, hn⟩ := home I6
      show ∃ m, s6.heap.Ns ce.locals m ∧ _
      rw [cL]
      exact hRR D s3.heap.objs.size s6 m H5 I7 qq hn f7
    · have ti := T.item (X.blk s3 H3 scope ce fp) rfl rfl rfl hc i [] s5 _ H5 (fun _ _ => False) I5 (stat I5 n5) st5 go
      refine thnF ti fun r s6 ⟨u, hr, h6⟩ => ?_
      subst hr
      refine thnF h6 fun _ s7 ⟨x, H7, I7, r7, y7, st7, n7⟩ => ?_
      have I7' := I7.pinned (stat I7 n7) (T.obj _ _ st7)
      refine thnF (pg.run _ s7 _ H7 x u _ I7' r7 (step x H7 y7)) fun _ s8 ⟨σ8, H8, I8, hw8, q8⟩ => ?_
      refine thnF (pt.run _ s8 σ8 H8 _ I8 q8) fun b s9 ⟨H9, I9, q9⟩ => ?_
      -- the turn's end
      have fin : ∀ {s' : Shared} {H' : Hp}, Inv (X.blk s3 H3 scope ce fp) ([] ++ pinsAt fp s7.heap) σ8 H' s' → Nx H' → ∃ m, m < n ∧ ∃ i H', Inv (X.blk s3 H3 scope ce fp) [] (wipe σ (own.map (·.2))) H' s' ∧ tn i s'.heap ∧ (∀ b ∈ fp, H' b = none) ∧ W0 i m H' := fun {s' H'} I' nx => by
        obtain ⟨m', hm, w'⟩ := hNx H' nx
        have pin' : ∀ b ∈ fp, ∀ o, s7.heap.get? b = some o → s'.heap.get? b = some o ∧ H' b = none := fun b hb o e =>
          let z := I'.pin (b, o) (List.mem_append_right _ (List.mem_append_right _ (mem_pinsAt hb e)))
          ⟨z.1, z.2.1⟩
        have hl : (wipe σ (own.map (·.2))).length = σ8.length := by rw [← hw8, wipe_length]
        refine ⟨m', hm, i + 1, H', (I'.unpinned (pins := [])).weak hl (fun j v e => ?_), T.keep _ _ _ st7 fun b hb o e => (pin' b hb o e).1, fun b hb => ?_, w'⟩
        · rw [← hw8] at e
          exact (wipe_some e).1
        · obtain ⟨o, e, _⟩ := T.obj _ _ st7 b hb
          exact (pin' b hb o e).2
      cases b with
      | false =>
        simp only [Bool.false_eq_true, if_false] at q9 ⊢
        exact fin I9 q9
      | true =>
        simp only [if_true] at q9 ⊢
        refine thn (pe.run _ s9 σ8 H9 _ (I9.wish _) q9) fun z s10 ⟨yv, H10, I10, r10, acc, hD10, hz10, nx⟩ => ?_
        exact app_ok (X := X.blk s3 H3 scope ce fp) I10.unwish hD10 hz10 r10 fun s11 I11 => fin I11 nx
  exact codeAny_compStart_list loop (T.self X.A 0 _ _ _ st4 loop)
/-- [elt for target in iter if ..], elt may raise -/
theorem pe_lcX {elt tg iter : Expr} {ifs : List Expr} {scope : Scope} {own : List (Str × Nat)} {pos : Pos} {wi : TI} {g : TG} {tt : TT} {te : TE} {E : XK} {W : WX} (hst : X.stack = X.env :: X.outer) (hfm : X.env.frame = some X.env.locals) (tk : Takes X W) (hEW : ∀ cls d σ H, E cls d H → W cls d σ H)
    (hc : X.calm = true) (hN : X.N.Nodup) (hi : PI X tg iter wi) (ok : BlkOk X.N X.env.scope scope own)
    (hg : ∀ (s : Shared) (H : Hp) (C : Addr) (cl : List (Str × Addr)) (fp : List Addr), PG (X.blk s H scope (compEnvC scope cl C X.env) fp) tg g) (ht : ∀ (s : Shared) (H : Hp) (C : Addr) (cl : List (Str × Addr)) (fp : List Addr), PTs (X.blk s H scope (compEnvC scope cl C X.env) fp) ifs tt)
    (he : ∀ (s : Shared) (H : Hp) (C : Addr) (cl : List (Str × Addr)) (fp : List Addr) (xe : Value → Shared → Prop), Passes (CX X.prog X.w) ((X.blk s H scope (compEnvC scope cl C X.env) fp).wish xe) E → PE ((X.blk s H scope (compEnvC scope cl C X.env) fp).wish xe) elt te) (hs : ∀ x, foldedSetIterable iter X.env x = pure x := by intro _; rfl) :
    PE X (.ListComp elt [⟨tg, iter, ifs, 0⟩] scope pos) (tLc wi g tt te (own.map (·.2))) := by
  refine ⟨fun pins s σ H Q I h => ?_⟩
  rw [eval_ListComp]
  refine lc_coreX hst hfm tk hEW hc hN I hi ok hg ht he hs h fun D C s' m H' I' q hn f => ⟨m, hn, fun h'' sb => ?_⟩
  obtain ⟨f0, f1, f2, f3, f4, f5⟩ := f
  exact ⟨.ref D, H', I'.turned (t' := s'.toks) (fun b o hb e => (sb.2 b hb).trans e) f0 f1 f3 f4 f5, rfl, q⟩
end
end L2

set_option maxHeartbeats 200000
/-! L5M: dict([(k, v), ..]), d[k], a, b = [..] -/
namespace L2
open PySem PySem.Spec PyProof.Rows
def mrgK (kvs more : List (Key × V)) : List (Key × V) := more.foldl (fun m kv => putK m kv.1 kv.2) kvs
/-- the tuples at ts are the pairs kvs -/
abbrev PrsV (K : PySem.W.Frag) (H : Hp) : List Addr → List (Key × V) → Prop := Paired fun t kv => SqT K H t [kV kv.1, kv.2]
theorem kv_merge : ∀ {more : List (Key × V)} {more' : List (Key × Value)} {kvs : List (Key × V)} {vs : List (Key × Value)}, KV more more' → KV kvs vs → KV (mrgK kvs more) (merged vs more')
  | [], _, _, _, .nil, r => r
  | p :: more, _, _, _, .cons h t, r => by
    rename_i q more'
    show KV (mrgK (putK _ p.1 p.2) more) (merged (stored _ q.1 q.2) more')
    rw [← h.1]
    exact kv_merge t (r.put p.1 h.2)
section
variable {X : Cx} {K : PySem.W.Frag}
theorem prs_build {pins : List (Addr × Obj)} {s : Shared} {σ : St} {H : Hp} (I : Inv X pins σ H s) : ∀ {ts : List Addr} {kvs : List (Key × V)}, PrsV X.K H ts kvs → ∃ (ps : List (Value × Value)) (kvs' : List (Key × Value)), ps.length = ts.length ∧ KV kvs kvs' ∧ kvs'.length = ps.length ∧
      (∀ (j : Nat) (k v : Value), ps[j]? = some (k, v) → PairAt s.heap (ts.getD j 0) k v) ∧ (∀ (j : Nat) (k v : Value), ps[j]? = some (k, v) → ∃ key : Key, kvs'[j]? = some (key, v) ∧ (mixKind X.prog X.w).is key k = true) := by
  intro ts kvs hp
  induction hp with
  | nil => exact ⟨[], [], rfl, Paired.nil, rfl, fun j k v h => absurd h (by simp), fun j k v h => absurd h (by simp)⟩
  | cons h r ih =>
    rename_i t kv ts kvs
    obtain ⟨ps, kvs', l1, r1, l2, h1, h2⟩ := ih
    obtain ⟨its, rv, it, _⟩ := I.tuple h
    cases rv with
    | cons rk r' =>
      rename_i uk us
      cases r' with
      | cons rv r'' =>
        rename_i uv us
        cases r'' with
        | nil =>
          refine ⟨(uk, uv) :: ps, (kv.1, uv) :: kvs', by simp [l1], Paired.cons ⟨rfl, rv⟩ r1, by simp [l2], ?_, ?_⟩
          · intro j k v e
            cases j with
            | zero =>
              have e : (uk, uv) = (k, v) := by simpa using e
              cases e
              exact Or.inl it
            | succ j => exact h1 j k v (by simpa using e)
          · intro j k v e
            cases j with
            | zero =>
              have e : (uk, uv) = (k, v) := by simpa using e
              cases e
              exact ⟨kv.1, rfl, kV_is rk⟩
            | succ j => exact h2 j k v (by simpa using e)
theorem vals_refs : ∀ {ts : List Addr} {its : List Value}, Vals (ts.map V.ref) its → its = ts.map Value.ref
  | [], _, .nil => rfl
  | t :: ts, _, .cons h r => by
    cases h
    rw [vals_refs r]
    rfl
def rDictL (K : PySem.W.Frag) (xs : List V) (H : Hp) (Q : VK) : Prop := ∃ p ts kvs, xs = [.ref p] ∧ SqL K H p (ts.map V.ref) ∧ PrsV K H ts kvs ∧ ∀ l o, H l = none → Q (.ref l) (upd H l (.frz o (.dK (mrgK [] kvs))))
theorem call_dictL (h : X.K = K) (hc : X.calm = true) : CallR X (.type "dict") (rDictL K) := by
  subst h
  intro pins s σ H xs us Q I r h
  obtain ⟨p, ts, kvs, rfl, hq, hp, q⟩ := h
  obtain ⟨u, rfl, rx⟩ := vals1 r
  cases rx
  obtain ⟨its, rv, pl, hz⟩ := I.list hq
  cases vals_refs rv
  obtain ⟨ps, kvs', l1, r1, l2, h1, h2⟩ := prs_build I hp
  have lz : ps.length ≤ sizeLine := by rw [l1]; simpa using hz
  have PI := PairArg.list (prog := X.prog) (w := X.w) p (ts.map Value.ref).toArray (fun j => ts.getD j 0) ps
  have ok : PlainSeq "list" s.heap p (ts.map Value.ref).toArray ∧ PairItems s.heap (ts.map Value.ref).toArray (fun j => ts.getD j 0) ps := by
    refine ⟨?_, by simp [l1], fun j k v e => ⟨?_, h1 j k v e⟩⟩
    · obtain ⟨o, n, e, c, d, dd⟩ := pl
      exact ⟨o, n, e, c, d, dd⟩
    · have hj : j < ts.length := by rw [← l1]; exact (List.getElem?_eq_some_iff.mp e).1
      simp [List.getElem?_eq_getElem hj]
  refine PySem.call_dict_pairs (knd := mixKind X.prog X.w) (kvs := kvs') PI (I.ok.hd hc) ok ⟨l2, h2⟩ lz fun h' tk dd hk => ?_
  have fr : H s.heap.objs.size = none := I.hok.fresh (Nat.le_refl _)
  have km := kv_merge r1 (.nil : KV ([] : List (Key × V)) [])
  obtain ⟨oD, es, ep, eD, rD⟩ := dd
  refine ⟨.ref s.heap.objs.size, _, I.laid (o := .frz oD (.dK (mrgK [] kvs))) (t' := tk) (fun b o e => hk b o (by simp) e) (Nat.le_refl _) ⟨eD, dk_new ?_ ?_ km ⟨oD, es, ep, eD, rD⟩⟩, rfl, q _ oD fr⟩
  · rw [km.length]
    have := merged_length ([] : List (Key × Value)) kvs'
    simp only [List.length_nil] at this
    omega
  · have := I.big
    exact beq_eq_false_iff_ne.mpr fun e => by rw [e] at this; exact Nat.lt_irrefl _ this
end
end L2

set_option maxHeartbeats 1000000
/-! L5N: dict trees -/
namespace M3
open PySem PySem.Spec L2
def valT (ts : List (Key × T)) (k : Key) : Option T := (ts.find? fun kv => decide (kv.1 = k)).map (·.2)
def putT (ts : List (Key × T)) (k : Key) (v : T) : List (Key × T) :=
  if (ts.any fun kv => decide (kv.1 = k)) = true then ts.map (fun kv => if kv.1 = k then (kv.1, v) else kv) else ts ++ [(k, v)]
def mrgT (ts more : List (Key × T)) : List (Key × T) := more.foldl (fun m kv => putT m kv.1 kv.2) ts
def asD : T → Option (List (Key × T))
  | .dic ts => some ts
  | _ => none
theorem asD_is {d : T} {ts : List (Key × T)} (h : asD d = some ts) : d = .dic ts := by
  cases d <;> simp [asD] at h <;> subst h <;> rfl
def asK : T → Option Key
  | .str z => some (.inr z)
  | .int i => some (.inl i)
  | _ => none
/-- the pairs of a list of two-tuples with text keys -/
def prs : List T → Option (List (Key × T))
  | [] => some []
  | .tup [.str z, v] :: r => (prs r).map ((.inr z, v) :: ·)
  | _ => none
section
variable {K : PySem.W.Frag} {H : Hp}
abbrev RepD (K : PySem.W.Frag) (H : Hp) : List (Key × V) → List (Key × T) → Prop := Paired fun p q => p.1 = q.1 ∧ Rep K H p.2 q.2
theorem RepD.any {kvs : List (Key × V)} {ts : List (Key × T)} (r : RepD K H kvs ts) (k : Key) : (kvs.any fun kv => decide (kv.1 = k)) = ts.any fun kv => decide (kv.1 = k) := by
  induction r with
  | nil => rfl
  | cons h _ ih => simp only [List.any_cons, ih, h.1]
theorem RepD.app {kvs kvs' : List (Key × V)} {ts ts' : List (Key × T)} (r : RepD K H kvs ts) (r' : RepD K H kvs' ts') : RepD K H (kvs ++ kvs') (ts ++ ts') := by
  induction r with
  | nil => exact r'
  | cons h _ ih => exact .cons h ih
theorem RepD.repl {kvs : List (Key × V)} {ts : List (Key × T)} (r : RepD K H kvs ts) (k : Key) {v : V} {t : T} (rv : Rep K H v t) : RepD K H (kvs.map fun kv => if kv.1 = k then (kv.1, v) else kv) (ts.map fun kv => if kv.1 = k then (kv.1, t) else kv) := by
  induction r with
  | nil => exact .nil
  | cons h _ ih =>
    rename_i p q _ _ _
    refine .cons ?_ ih
    dsimp only
    by_cases e : p.1 = k
    · have e' : q.1 = k := h.1 ▸ e
      rw [if_pos e, if_pos e']
      exact ⟨h.1, rv⟩
    · have e' : ¬ q.1 = k := h.1 ▸ e
      rw [if_neg e, if_neg e']
      exact h
theorem RepD.put {kvs : List (Key × V)} {ts : List (Key × T)} (r : RepD K H kvs ts) (k : Key) {v : V} {t : T} (rv : Rep K H v t) : RepD K H (putK kvs k v) (putT ts k t) := by
  unfold putK putT
  rw [r.any k]
  split
  · exact r.repl k rv
  · exact r.app (.cons ⟨rfl, rv⟩ .nil)
theorem RepD.mrg {more : List (Key × V)} {more' : List (Key × T)} (m : RepD K H more more') : ∀ {kvs : List (Key × V)} {ts : List (Key × T)}, RepD K H kvs ts → RepD K H (mrgK kvs more) (mrgT ts more') := by
  induction m with
  | nil => exact fun r => r
  | cons h _ ih =>
    intro kvs ts r
    rename_i p q more more' _
    show RepD K H (mrgK (putK kvs p.1 p.2) more) (mrgT (putT ts q.1 q.2) more')
    rw [← h.1]
    exact ih (r.put p.1 h.2)
theorem RepD.val {kvs : List (Key × V)} {ts : List (Key × T)} (r : RepD K H kvs ts) {k : Key} {t : T} (h : valT ts k = some t) : ∃ v, valV kvs k = some v ∧ Rep K H v t := by
  induction r with
  | nil => simp [valT] at h
  | cons e _ ih =>
    rename_i p q kvs ts _
    by_cases c : q.1 = k
    · have : q.2 = t := by simpa [valT, List.find?_cons, c] using h
      subst this
      exact ⟨p.2, valV_pos (e.1.trans c), e.2⟩
    · have h' : valT ts k = some t := by simpa [valT, List.find?_cons, c] using h
      obtain ⟨v, hv, rv⟩ := ih h'
      exact ⟨v, by rw [valV_neg (fun z => c (e.1.symm.trans z))]; exact hv, rv⟩
theorem RepD.mono {H' : Hp} {kvs : List (Key × V)} {ts : List (Key × T)} (r : RepD K H kvs ts) (e : Same H H') : RepD K H' kvs ts := by
  induction r with
  | nil => exact .nil
  | cons h _ ih => exact .cons ⟨h.1, h.2.mono e⟩ ih
theorem repD_mk : ∀ {kvs : List (Key × V)} {ts : List (Key × T)}, kvs.map (·.1) = ts.map (·.1) → (∀ (i : Nat) v t, (kvs.map (·.2))[i]? = some v → (ts.map (·.2))[i]? = some t → Rep K H v t) → RepD K H kvs ts
  | [], [], _, _ => .nil
  | p :: kvs, q :: ts, h1, h2 => by
    simp only [List.map_cons, List.cons.injEq] at h1
    exact .cons ⟨h1.1, h2 0 _ _ rfl rfl⟩ (repD_mk h1.2 fun i v t a b => h2 (i + 1) v t (by simpa using a) (by simpa using b))
  | [], _ :: _, h, _ => by simp at h
  | _ :: _, [], h, _ => by simp at h
theorem RepD.keys {kvs : List (Key × V)} {ts : List (Key × T)} (r : RepD K H kvs ts) : kvs.map (·.1) = ts.map (·.1) := by
  induction r with
  | nil => rfl
  | cons h _ ih => simp only [List.map_cons, ih, h.1]
theorem RepD.at {kvs : List (Key × V)} {ts : List (Key × T)} (r : RepD K H kvs ts) : ∀ (i : Nat) v t, (kvs.map (·.2))[i]? = some v → (ts.map (·.2))[i]? = some t → Rep K H v t := by
  induction r with
  | nil => intro i v t h; simp at h
  | cons h _ ih =>
    rename_i p q _ _ _
    intro i v t a b
    cases i with
    | zero =>
      have a : p.2 = v := by simpa using a
      have b : q.2 = t := by simpa using b
      subst a b
      exact h.2
    | succ i => exact ih i v t (by simpa using a) (by simpa using b)
theorem Rep.dicI {v : V} {ts : List (Key × T)} (r : Rep K H v (.dic ts)) : ∃ a o kvs, v = .ref a ∧ H a = some (.frz o (.dK kvs)) ∧ RepD K H kvs ts := by
  cases r with
  | dic h hk hr => exact ⟨_, _, _, rfl, h.choose_spec, repD_mk hk hr⟩
theorem Rep.mkD {a : Addr} {o : Obj} {kvs : List (Key × V)} {ts : List (Key × T)} (h : H a = some (.frz o (.dK kvs))) (r : RepD K H kvs ts) : Rep K H (.ref a) (.dic ts) := .dic ⟨o, h⟩ r.keys r.at
/-- the list's items are two-tuples -/
theorem prs_rep {vs : List V} : ∀ {ds : List T} {ts : List (Key × T)}, RepL K H vs ds → prs ds = some ts → ∃ (as : List Addr) (kvs : List (Key × V)), vs = as.map V.ref ∧ PrsV K H as kvs ∧ RepD K H kvs ts := by
  intro ds ts r
  induction r generalizing ts with
  | nil =>
    intro h
    cases h
    exact ⟨[], [], rfl, .nil, .nil⟩
  | cons h _ ih =>
    intro hp
    unfold prs at hp
    split at hp
    · rename_i heq; cases heq
    · rename_i z v r heq
      cases heq
      obtain ⟨ts', e1, rfl⟩ := Option.map_eq_some_iff.mp hp
      obtain ⟨as, kvs, rfl, p1, p2⟩ := ih e1
      obtain ⟨a, us, rfl, hs, rl⟩ := h.tupI
      cases rl with
      | cons r1 rl =>
        cases rl with
        | cons r2 rl =>
          cases rl with
          | nil =>
            rename_i u1 u2
            cases r1.strI
            exact ⟨a :: as, (.inr z, u2) :: kvs, rfl, .cons hs p1, .cons ⟨rfl, r2⟩ p2⟩
    · cases hp
def dict3 : List T → (T → Prop) → Prop := fun xs Q => ob (one xs) fun x => ob (asL x) fun ds => ob (prs ds) fun ts => Q (.dic (mrgT [] ts))
theorem rl_dict : RLn K (rDictL K) dict3 := by
  intro c xs Q3 hh Hb G A σ3 σ H vs Q R rx k
  obtain ⟨x, ex, hh1⟩ := ob_iff.mp hh
  obtain ⟨ds, ed, hh2⟩ := ob_iff.mp hh1
  obtain ⟨ts, ep, q⟩ := ob_iff.mp hh2
  cases one_is ex
  cases asL_is ed
  obtain ⟨v, rfl, r⟩ := repL_one rx
  obtain ⟨a, vs, rfl, ha, rl⟩ := r.lstI
  obtain ⟨as, kvs, rfl, p1, p2⟩ := prs_rep rl ep
  have p1' : PrsV K H as kvs := by
    clear p2 ha rl
    induction p1 with
    | nil => exact .nil
    | cons h _ ih => exact .cons (Same.sqT hid_same h) ih
  refine ⟨a, as, kvs, rfl, SqL.of (hid_same _ _ ha), p1', fun l o hl => ?_⟩
  have L := R.new (o := .frz o (.dK (mrgK [] kvs))) hl
  exact k _ _ _ L (.mkD (R.newAt hl) ((p2.mono L.vis).mrg .nil)) q
/-- d[k] -/
def dget3 (a b : E3) : E3 := fun σ Q X => a σ (fun x => b σ (fun y => ob (asD x) fun ts => ob (asK y) fun k => ob (valT ts k) Q) X) X
theorem asK_rep {v : V} {t : T} {k : Key} (r : Rep K H v t) (h : asK t = some k) : v = kV k := by
  cases t <;> simp [asK] at h
  · subst h; exact r.intI
  · subst h; exact r.strI
theorem lift_dget {c : Cf} {W : WX} {ta tb : TE} {a b : E3} (ha : Lift K c W ta a) (hb : Lift K c W tb b) : Lift K c W (tDGet ta tb) (dget3 a b) := by
  intro σ3 Q3 X h Hb G A σ H Q R k e
  refine ha _ _ _ h Hb G A σ H _ R (fun vx x H1 L1 rx hx => ?_) e
  refine hb _ _ _ hx Hb G A σ H1 _ (R.le L1) (fun vy y H2 L2 ry hy => ?_) (fun cls dd x H' L => e cls dd x H' (L1.trans L))
  obtain ⟨ts, ed, h1⟩ := ob_iff.mp hy
  obtain ⟨ky, ek, h2⟩ := ob_iff.mp h1
  obtain ⟨t, ev, q⟩ := ob_iff.mp h2
  cases asD_is ed
  obtain ⟨a, o, kvs, rfl, hd, rd⟩ := (rx.mono L2.vis).dicI
  obtain ⟨v, hv, rv⟩ := rd.val ev
  exact ⟨a, v, rfl, .inl ⟨kvs, ky, .inr ⟨o, hid_same _ _ hd⟩, asK_rep ry ek, hv.symm⟩, k v t H2 (L1.trans L2) rv q⟩
/-- for k in d -/
def keyT : Key → T
  | .inl i => .int i
  | .inr z => .str z
theorem rep_key (k : Key) : Rep K H (kV k) (keyT k) := by
  cases k with
  | inl i => exact .int i
  | inr z => exact .str z
def iterD3 (a : E3) : A3 := fun σ Q X => a σ (fun d => ob (asD d) fun ts => Q (ts.map fun kv => keyT kv.1)) X
theorem RepD.length {kvs : List (Key × V)} {ts : List (Key × T)} (r : RepD K H kvs ts) : kvs.length = ts.length := by
  induction r with
  | nil => rfl
  | cons _ _ ih => simp [ih]
theorem RepD.key {kvs : List (Key × V)} {ts : List (Key × T)} (r : RepD K H kvs ts) {i : Nat} {k : Key} {v : V} {d : T} (h : kvs[i]? = some (k, v)) (h' : (ts.map fun kv => keyT kv.1)[i]? = some d) : d = keyT k := by
  have e := r.keys
  have e1 : (kvs.map (·.1))[i]? = some k := by rw [List.getElem?_map, h]; rfl
  rw [e, List.getElem?_map] at e1
  rw [List.getElem?_map] at h'
  cases z : ts[i]? with
  | none => rw [z] at h'; cases h'
  | some q =>
    rw [z] at h' e1
    cases h'
    cases e1
    rfl
theorem walks_keys {V0 : Hp} {a : Addr} {o : Obj} {kvs : List (Key × V)} {ts : List (Key × T)} (h : V0 a = some (.frz o (.dK kvs))) (r : RepD K V0 kvs ts) : Walks K V0 (Itk a o kvs) (ts.map fun kv => keyT kv.1) where
  go := fun i d S H hd e => by
    have := (List.getElem?_eq_some_iff.mp hd).1
    exact ⟨hid_same _ _ (e _ _ h), by rw [r.length]; simpa using this⟩
  yld := fun i d S H x H' hd e _ y => by
    obtain ⟨rfl, k, v, hk, rfl⟩ := y
    cases r.key hk hd
    exact ⟨.inl rfl, .inl (rep_key k)⟩
  stop := fun S H e => ⟨hid_same _ _ (e _ _ h), by rw [List.length_map, r.length]; exact Nat.le_refl _⟩
theorem lift_iD {c : Cf} {W : WX} {ta : TE} {a : E3} (ha : Lift K c W ta a) : LiftI K c W (iKeys ta) (iterD3 a) := by
  intro σ3 Q3 X h Hb G A σ H R' R k e
  refine ha _ _ _ h Hb G A σ H _ R (fun v d H1 L1 r q => ?_) e
  obtain ⟨ts, ed, q1⟩ := ob_iff.mp q
  cases asD_is ed
  obtain ⟨a, o, kvs, rfl, hd, rd⟩ := r.dicI
  exact ⟨a, o, rfl, .inl ⟨kvs, hid_same _ _ hd, k _ _ H1 L1 (walks_keys hd rd) q1⟩⟩
/-- a, b, .. = a list -/
def glst3 (n : Nat) (r : List T → List Sl → (List Sl → Prop) → Prop) : TG3 := fun d σ Q => ob (asL d) fun ds => ds.length = n ∧ r ds σ Q
theorem lift_glst {c : Cf} {ws : List Nat} {n : Nat} {u : TGs} {u3 : List T → List Sl → (List Sl → Prop) → Prop} (h : LiftTgs K c ws u u3) : LiftTg K c ws (gLst K n u) (glst3 n u3) := by
  intro d σ3 Q3 hh Hb G A σ H v Q R r k
  obtain ⟨ds, ed, hl, q⟩ := ob_iff.mp hh
  cases asL_is ed
  obtain ⟨a, vs, rfl, ha, rl⟩ := r.f.lstI
  exact ⟨a, vs, rfl, SqL.of (hid_same _ _ ha), by rw [rl.length]; exact hl, h _ _ _ q Hb G A σ H vs Q R rl k⟩
end
end M3
namespace L2
open PySem PySem.Spec
theorem pg_lstK {X : Cx} {K : PySem.W.Frag} {pos : Pos} {es : List Expr} {k : Nat} {t : TGs} {n : Nat} (h : X.K = K) (hc : X.calm = true) (hp : PGs X es t)
    (hn : (assignEach es X.env).length = n := by rfl) (hst : (assignEach es X.env).findIdx? (·.1) = none := by rfl) : PG X (.Tuple es k pos) (gLst K n t) := h ▸ pg_lst hc hp hn hst
end L2

set_option maxHeartbeats 1000000
/-! L5O: a local that holds one of several defs is called -/
namespace M3
open PySem L2
/-- e: the def's address, its defaults behind the written arguments, its promise -/
def tCallX (i : Nat) (tab : List (Addr × List V × Sp)) (E : XK) (t : TA) : TE := fun σ H Q => ∃ e ∈ tab, σ[i]? = some (some (.ref e.1)) ∧ t σ H fun vs H1 => e.2.2 (vs ++ e.2.1) H1 Q E
/-- every def of the table may be called -/
abbrev TabOk (P : Program) (w : World) (K : PySem.W.Frag) (mg : Str → Option Value) (base : Heap) (CX : CXT) (k : Nat) (tab : List (Addr × List V × Sp)) : Prop :=
  ∀ e ∈ tab, ∃ x k', k' ≤ k ∧ Cl P w K mg base CX x k' e.2.1 e.2.2 ∧ mg x = some (.ref e.1)
section
variable {X : Cx} {CX : CXT} {k i : Nat} {E : XK} {x : Str} {p pos : Pos} {e : Expr} {es : List Expr} {t : TA} {tab : List (Addr × List V × Sp)}
theorem pe_callX (h : TabOk X.prog X.w X.K X.mg X.base CX k tab) (hr : Room k X.A) (hN : X.N[i]? = some x) (hv : Vis X.env.scope x) (hx : Passes CX X E) (ha : PA X (e :: es) t)
    (hdb : (x == ("__debug__" : Str)) = false := by decide) (hcd : (x == ("__classdict__" : Str)) = false := by decide)
    (he : starEach (e :: es) X.env = (false, eval e X.env) :: starEach es X.env := by rfl) (hpl : (backTo pos (starEach es X.env)).any (·.1) = false := by rfl) : PE X (.Call (.Name x p) (e :: es) [] pos) (tCallX i tab E t) := by
  refine ⟨fun pins s σ H Q I hh => ?_⟩
  obtain ⟨en, hm, hs, ht⟩ := hh
  obtain ⟨y, k', hk, C, my⟩ := h en hm
  obtain ⟨f, fd, ps, ds, F, mf, kp, hb, hd⟩ := C.ex
  rw [my] at mf
  cases mf
  exact (pe_callL (i := i) (f := en.1) (sp := en.2.2) (dvs := en.2.1) (E := E) F (hr.mono hk) hN hv kp hb hd hx ha hdb hcd he hpl).run pins s σ H Q I ⟨hs, ht⟩
end
theorem tabOk_nil {P : Program} {w : World} {K : PySem.W.Frag} {mg : Str → Option Value} {base : Heap} {CX : CXT} {k : Nat} : TabOk P w K mg base CX k [] := fun _ h => by cases h
theorem tabOk_cons {P : Program} {w : World} {K : PySem.W.Frag} {mg : Str → Option Value} {base : Heap} {CX : CXT} {k k' : Nat} {x : Str} {dvs : List V} {sp : Sp} {tab : List (Addr × List V × Sp)} (C : Cl P w K mg base CX x k' dvs sp) (hk : k' ≤ k) (r : TabOk P w K mg base CX k tab) : TabOk P w K mg base CX k (((csOf K mg).at_ x, dvs, sp) :: tab) := by
  intro e he
  rcases List.mem_cons.mp he with z | z
  · subst z
    refine ⟨x, k', hk, C, ?_⟩
    obtain ⟨f, fd, ps, ds, F, hm, _⟩ := C.ex
    show mg x = some (.ref ((csOf K mg).at_ x))
    rw [csOf_at hm]
    exact hm
  · exact r e z
/-- the table at trees: address, parameters, reading, defaults -/
abbrev Tab3 := List (Addr × Nat × F3 × List T)
def callX3 (i : Nat) (tab : Tab3) (x : A3) : E3 := fun σ Q X => v3 i σ (fun d => ∃ e ∈ tab, d = .ref e.1 ∧ x σ (fun ds => (ds ++ e.2.2.2).length = e.2.1 ∧ e.2.2.1 (ds ++ e.2.2.2) Q X) X) X
abbrev TabRep (K : PySem.W.Frag) : List (Addr × List V × Sp) → Tab3 → Prop := Paired fun e e3 => e.1 = e3.1 ∧ e.2.2 = sp3 K e3.2.1 e3.2.2.1 ∧ ∀ H, RepL K H e.2.1 e3.2.2.2
theorem tab_mem {K : PySem.W.Frag} {tab : List (Addr × List V × Sp)} {tab3 : Tab3} (r : TabRep K tab tab3) : ∀ e3 ∈ tab3, ∃ e ∈ tab, e.1 = e3.1 ∧ e.2.2 = sp3 K e3.2.1 e3.2.2.1 ∧ ∀ H, RepL K H e.2.1 e3.2.2.2 := by
  induction r with
  | nil => intro e h; cases h
  | cons h _ ih =>
    intro e he
    rcases List.mem_cons.mp he with z | z
    · subst z
      exact ⟨_, List.mem_cons_self, h⟩
    · obtain ⟨y, hy, q⟩ := ih e z
      exact ⟨y, List.mem_cons_of_mem _ hy, q⟩
theorem lift_callX {K : PySem.W.Frag} {c : Cf} {W : WX} {E : XK} {i : Nat} {t : TA} {x : A3} {tab : List (Addr × List V × Sp)} {tab3 : Tab3} (hE : ∀ cls dd σ H, W cls dd σ H → E cls dd H) (hT : TabRep K tab tab3) (ha : LiftA K c W t x) : Lift K c W (tCallX i tab E t) (callX3 i tab3 x) := by
  intro σ3 Q3 X h Hb G A σ H Q R k e
  obtain ⟨d, hd, e3, hm, rfl, hx⟩ := ob_iff.mp h
  obtain ⟨v, h3, h4⟩ := R.get (slot_get hd)
  obtain ⟨en, hen, e1, e2, e4⟩ := tab_mem hT e3 hm
  have hv : v = .ref e3.1 := by cases h4; rfl
  subst hv
  refine ⟨en, hen, by rw [e1]; exact h3, ?_⟩
  refine ha _ _ _ hx Hb G A σ H _ R (fun vs ds H1 L1 rx hh => ?_) e
  rw [e2]
  exact sp3_call (R.le L1) (rx.append (e4 _)) hh.1 hh.2 (fun v d H' L r q => k v d H' (L1.trans L) r q) (fun cls dd x H' L r q => hE _ _ σ _ (e cls dd x H' (L1.trans L) r q))
end M3

set_option maxHeartbeats 1000000
/-! L5P: methods of own classes -/
namespace M3
open PySem L2
/-- a method that may be called with positional arguments, the defaults dvs behind them -/
structure ClM (P : Program) (w : World) (K : PySem.W.Frag) (mg : Str → Option Value) (base : Heap) (CX : CXT) (C : Addr) (m : Str) (k : Nat) (dvs : List V) (sp : Sp) : Prop where
  ex : ∃ (f : Addr) (fd : FuncData) (ps : List Str) (ds : List Value), FnOk P w K mg base CX k f fd ps sp ∧ Meth K C m f ∧ Binds K fd ps ds ∧ Vals dvs ds
structure ClMT (P : Program) (w : World) (K : PySem.W.Frag) (mg : Str → Option Value) (base : Heap) (CX : CXT) (C : Addr) (m : Str) (k : Nat) (dts : List T) (sp : Sp) : Prop where
  ex : ∃ dvs, (∀ H, RepL K H dvs dts) ∧ ClM P w K mg base CX C m k dvs sp
section
variable {P : Program} {w : World} {K : PySem.W.Frag} {mg : Str → Option Value} {base : Heap} {CX : CXT} {C : Addr} {m x qual : Str} {st : Stmt} {dts kts : List T} {kns : List Str} {lv : Nat} {ps : List Str} {sp : Sp}
/-- every parameter is written -/
theorem OkM.clM (O : OkM P w K mg base CX C m x qual st [] kns kts lv ps sp) (hf : ∀ f, PySem.W.findIn K (.ref C) m = some (some (.ref f)) → PySem.W.isFn K (.ref f) = true)
    (h : ∀ (kV doc pm : Value) (an : Option Addr) (cdv ct : Value) (us : List Value), us.length = ps.length → bindArgs (PySem.W.fnOf x qual (defArgs st) (defBody st) (defScope st) .none kV doc pm an cdv ct) ⟨us, []⟩ = pure (ps.zip us)) : ClMT P w K mg base CX C m lv [] sp := by
  obtain ⟨f, fd, dvs, kvs, rd, rk, F, hm, O⟩ := O.ex
  have e := (rd (fun _ => none)).len0
  subst e
  exact ⟨[], fun _ => .nil, f, fd, ps, [], O, ⟨hm, hf f hm, F.kp⟩, F.bindsN h, .nil⟩
end
section
variable {X : Cx} {CX : CXT} {k : Nat} {C : Addr} {m : Str} {sp : Sp} {dvs : List V} {E : XK} {pos apos : Pos} {o e : Expr} {es : List Expr} {ta : TE} {t : TA}
theorem pe_clM {pl : Sem Bool} (M : ClM X.prog X.w X.K X.mg X.base CX C m k dvs sp) (c : Cls X.K C) (hr : Room k X.A) (hx : Passes CX X E) (ho : PE X o ta) (ha : PA X (e :: es) t)
    (hst : starEach (e :: es) X.env = (false, eval e X.env) :: starEach es X.env := by rfl) (hpl : (backTo pos (starEach es X.env)).any (·.1) = false := by rfl)
    (ht : eval (.Call (.Attribute o m apos) (e :: es) [] pos) X.env = (do
      let ov ← eval o X.env
      standAt apos.atName
      let (f, first) ← holding [ov] (getMethod ov m pl)
      callWith pos f first (backTo pos (starEach (e :: es) X.env)) (backToKw pos (keywordEach [] X.env))) := by rfl) :
    PE X (.Call (.Attribute o m apos) (e :: es) [] pos) (tMeth C m sp dvs E ta t) := by
  obtain ⟨f, fd, ps, ds, F, hm, hb, hd⟩ := M.ex
  exact pe_meth ho c hm F hr hb hd hx ha hst hpl ht
theorem pe_clM0 {pl : Sem Bool} (M : ClM X.prog X.w X.K X.mg X.base CX C m k dvs sp) (c : Cls X.K C) (hr : Room k X.A) (hx : Passes CX X E) (ho : PE X o ta)
    (ht : eval (.Call (.Attribute o m apos) [] [] pos) X.env = (do
      let ov ← eval o X.env
      standAt apos.atName
      let (f, first) ← holding [ov] (getMethod ov m pl)
      callWith pos f first (backTo pos (starEach [] X.env)) (backToKw pos (keywordEach [] X.env))) := by rfl) :
    PE X (.Call (.Attribute o m apos) [] [] pos) (tMeth C m sp dvs E ta tNil) := by
  obtain ⟨f, fd, ps, ds, F, hm, hb, hd⟩ := M.ex
  exact pe_meth0 ho c hm F hr hb hd hx ht
end
/-- o.m(..) -/
def meth3 (C : Addr) (m : Str) (n : Nat) (f : F3) (a : E3) (x : A3) (dts : List T) : E3 := fun σ Q X => a σ (fun d => ob (asIns d) fun p => p.1 = C ∧ p.2.lookup m = none ∧ x σ (fun ds => (d :: (ds ++ dts)).length = n ∧ f (d :: (ds ++ dts)) Q X) X) X
/-- .. that raises nothing here -/
def meth30 (C : Addr) (m : Str) (n : Nat) (f : F3) (a : E3) (x : A3) (dts : List T) : E3 := fun σ Q X => a σ (fun d => ob (asIns d) fun p => p.1 = C ∧ p.2.lookup m = none ∧ x σ (fun ds => (d :: (ds ++ dts)).length = n ∧ f (d :: (ds ++ dts)) Q (fun _ => False)) X) X
theorem lookup_none_keys {α β : Type} {m : Str} : ∀ {fs : List (Str × α)} {ts : List (Str × β)}, fs.map (·.1) = ts.map (·.1) → ts.lookup m = none → fs.lookup m = none
  | [], [], _, _ => rfl
  | p :: fs, q :: ts, h, e => by
    obtain ⟨pa, pb⟩ := p
    obtain ⟨qa, qb⟩ := q
    simp only [List.map_cons, List.cons.injEq] at h
    obtain ⟨rfl, h⟩ := h
    simp only [List.lookup] at e ⊢
    cases z : m == pa with
    | true => rw [z] at e; cases e
    | false => rw [z] at e; exact lookup_none_keys h e
  | [], _ :: _, h, _ => by simp at h
  | _ :: _, [], h, _ => by simp at h
section
variable {K : PySem.W.Frag} {c : Cf} {W : WX} {E : XK} {ta : TE} {a : E3} {t : TA} {x : A3} {C : Addr} {m : Str} {n : Nat} {f : F3} {dvs : List V} {dts : List T}
theorem lift_meth (hE : ∀ cls dd σ H, W cls dd σ H → E cls dd H) (ha : Lift K c W ta a) (hx : LiftA K c W t x) (hd : ∀ H, RepL K H dvs dts) : Lift K c W (tMeth C m (sp3 K n f) dvs E ta t) (meth3 C m n f a x dts) := by
  intro σ3 Q3 X h Hb G A σ H Q R k e
  refine ha _ _ _ h Hb G A σ H _ R (fun v d H1 L1 r q => ?_) e
  obtain ⟨⟨C', ts⟩, ed, e1, hl, q1⟩ := ob_iff.mp q
  cases asIns_is ed
  cases e1
  obtain ⟨p, dx, fs, rfl, hp, hk, hr⟩ := r.insI
  refine ⟨p, dx, fs, rfl, hid_same _ _ hp, lookup_none_keys hk hl, ?_⟩
  refine hx _ _ _ q1 Hb G A σ H1 _ (R.le L1) (fun vs ds H2 L2 rx hh => ?_) (fun cls dd x H' L => e cls dd x H' (L1.trans L))
  exact sp3_call ((R.le L1).le L2) (.cons (r.mono L2.vis) (rx.append (hd _))) hh.1 hh.2 (fun v d H' L r q => k v d H' ((L1.trans L2).trans L) r q) (fun cls dd x H' L r q => hE _ _ σ _ (e cls dd x H' ((L1.trans L2).trans L) r q))
theorem lift_meth0 (ha : Lift K c W ta a) (hx : LiftA K c W t x) (hd : ∀ H, RepL K H dvs dts) : Lift K c W (tMeth C m (sp3 K n f) dvs E ta t) (meth30 C m n f a x dts) := by
  intro σ3 Q3 X h Hb G A σ H Q R k e
  refine ha _ _ _ h Hb G A σ H _ R (fun v d H1 L1 r q => ?_) e
  obtain ⟨⟨C', ts⟩, ed, e1, hl, q1⟩ := ob_iff.mp q
  cases asIns_is ed
  cases e1
  obtain ⟨p, dx, fs, rfl, hp, hk, hr⟩ := r.insI
  refine ⟨p, dx, fs, rfl, hid_same _ _ hp, lookup_none_keys hk hl, ?_⟩
  refine hx _ _ _ q1 Hb G A σ H1 _ (R.le L1) (fun vs ds H2 L2 rx hh => ?_) (fun cls dd x H' L => e cls dd x H' (L1.trans L))
  exact sp3_call ((R.le L1).le L2) (.cons (r.mono L2.vis) (rx.append (hd _))) hh.1 hh.2 (fun v d H' L r q => k v d H' ((L1.trans L2).trans L) r q) (fun cls dd x H' L r q => q.elim)
end
end M3

set_option maxHeartbeats 1000000
/-! L5Q: the end where defs other than the law hold lambdas: the table of every def record is empty -/
namespace LamX
open PySem PySem.Spec PyProof.Rows L2
theorem walk_ofOwns {l : PySem.W.OpenLaw} {n k : Nat} {q : Program} {loose : List Str} {XP : (Str → Option Value) → Heap → Prop} {YP : World → Heap → Prop} {d : DefRec} {K : Params → PySem.W.Frag} {CX : World → CXT} {x : Str}
    (hn : l.most = some n) (hn2 : n ≤ sizeLine) (hdf : d.params.defaults = []) (hr : Room k callerA) (hY : ∀ (w : World) (h : Heap), YP w h → (K w.params).In h)
    (F : ∀ (w : World) (mg : Str → Option Value) (fa : Addr) (h : Heap), YP w h → (K w.params).In h → h.Ns mainGlobals mg → mg d.name = some (.ref fa) →
      (∀ (nm : Str) (fb : Addr), ((recsOf q).any fun e => e.name == nm) = true → mg nm = some (.ref fb) → OwnTab (K w.params) fb h) → LawAtS l w (K w.params) (CX w) k n x mg fa h)
    (hCX : ∀ (w : World) (H : Hp) (s : Shared) (e : Value) (s' : Shared), CX w [] H s (fun _ _ _ => False) e s' → False) :
    PySem.W.WalkO q loose XP YP l.row.toRowW d [] (fun f vs => PySem.call f vs) := by
  refine Att.attach_callB hn hdf fun w s₀ s₁ mg mb fa o pm cd doc a vs ns G Y ho hd hcd hmg hobj hints hlen hbits hg => ?_
  have KX := hY w _ Y
  have own : ∀ (nm : Str) (fb : Addr), ((recsOf q).any fun e => e.name == nm) = true → mg nm = some (.ref fb) → OwnTab (K w.params) fb s₁.heap := fun nm fb hrec hmb => fun c P o1 fd1 e dd vs1 sl k1 k2 k3 k4 k5 => by
    obtain ⟨dL, hm, hn1⟩ := List.any_eq_true.mp hrec
    have hn2 : dL.name = nm := beq_iff_eq.mp hn1
    obtain ⟨a', o', fd', c', P', h1, h2, h3, h4, h5, h6⟩ := G.T.tab dL hm
    rw [hn2, hmb] at h1
    cases h1
    have g1 := KX _ _ k1
    rw [g1] at h2
    cases h2
    rw [k2] at h3
    cases h3
    rw [k3] at h4
    cases h4
    obtain ⟨⟨oc, vc, e1, _, e3, e4⟩, hP⟩ := h6
    have g2 := KX _ _ k4
    rw [g2] at e1
    cases e1
    cases e3
    rw [k5] at e4
    cases e4
    exact hP
  obtain ⟨fd, cs, sp, hT, nT, C, hb, hsp, hF⟩ := F w mg fa _ Y KX G.T.g hmg own
  exact law_callTs KX G.T.g G.T.b G.T.builtins G.T.nolimit hg hT nT C G.T.bmain hobj hints (Nat.le_trans hlen hn2) hr hF hb (fun H hH hS => hsp H a ns hlen hbits hH hS) fun H e s' => hCX w H s₁ e s'
end LamX

set_option maxHeartbeats 1000000
/-! L5R: a def that makes lambdas of its own: it works beside a pot and tables -/
namespace M3
open PySem L2
theorem r3_startG {K : PySem.W.Frag} {c : Cf} {H : Hp} {G : List Addr} {N : List Str} {vs : List V} {ds : List T} (hI : c.I H) (hG : ∀ a ∈ G, H a ≠ none ∧ a ∉ c.S0) (hV : ∀ a ∈ G, ∀ o, H a = some o → c.gOk o) (r : RepL K (hid (c.S0 ++ G) H) vs ds) :
    R3 K c H G (List.replicate ((start3 N.length ds).length) none) (start3 N.length ds) (start N vs) H := by
  have hA : addrs (List.replicate ((start3 N.length ds).length) none) = [] := by
    unfold addrs
    rw [List.filterMap_replicate_of_none rfl]
  have hS : c.S G (List.replicate ((start3 N.length ds).length) none) = c.S0 ++ G := by
    unfold Cf.S
    rw [hA, List.append_nil]
  have hl := r.length
  refine ⟨hI, by rw [hS]; exact Same.refl _, fun a h => ⟨rfl, hG a h⟩, hV, by rw [hA]; exact List.nodup_nil, (by rw [hA]; intro a h; cases h), (by simp), (by rw [start_eq]; unfold start3; simp [hl]), ?_⟩
  rw [hS]
  intro i s o x h1 h2 h3
  have ho : o = none := by
    have := List.mem_of_getElem? h2
    exact (List.mem_replicate.mp this).2
  subst ho
  unfold start3 at h1
  rw [start_eq] at h3
  by_cases hi : i < ds.length
  · rw [List.getElem?_append_left (by simpa using hi), List.getElem?_map] at h1
    rw [List.getElem?_append_left (by rw [List.length_map, hl]; exact hi), List.getElem?_map] at h3
    cases e1 : ds[i]? with
    | none => rw [e1] at h1; cases h1
    | some d =>
      rw [e1] at h1
      cases h1
      obtain ⟨v, e2, rv⟩ := r.get e1
      rw [e2] at h3
      cases h3
      exact ⟨rfl, v, rfl, rv⟩
  · rw [List.getElem?_append_right (by simpa using hi)] at h1
    have := List.mem_of_getElem? h1
    have hs := (List.mem_replicate.mp this).2
    subst hs
    rfl
def spT (K : PySem.W.Frag) (n : Nat) (f : F3) (Ts : List (Addr × Str)) : Sp := fun vs H Q E => ∃ p cc G ds, (potT p cc Ts).I H ∧ (∀ a ∈ G, H a ≠ none ∧ a ∉ (potT p cc Ts).S0) ∧ (∀ a ∈ G, ∀ o, H a = some o → (potT p cc Ts).gOk o) ∧ ds.length = n ∧ RepL K (hid ((potT p cc Ts).S0 ++ G) H) vs ds ∧ ∃ Q3 X, f ds Q3 X ∧
  (∀ v d H', (potT p cc Ts).I H' → Same (hid ((potT p cc Ts).S0 ++ G) H) (hid ((potT p cc Ts).S0 ++ G) H') → (∀ a ∈ G, H' a = H a) → Rep K (hid ((potT p cc Ts).S0 ++ G) H') v d → Q3 d → Q v H') ∧
  (∀ cls dd x H', (potT p cc Ts).I H' → Same (hid ((potT p cc Ts).S0 ++ G) H) (hid ((potT p cc Ts).S0 ++ G) H') → (∀ a ∈ G, H' a = H a) → XRep K (hid ((potT p cc Ts).S0 ++ G) H') cls dd x → X x → E cls dd H')
theorem spT_len {K : PySem.W.Frag} {n : Nat} {f : F3} {Ts : List (Addr × Str)} {ps : List Str} (h : ps.length = n) : ∀ vs H Q E, spT K n f Ts vs H Q E → vs.length = ps.length := by
  intro vs H Q E h'
  obtain ⟨p, cc, G, ds, _, _, _, hl, r, _⟩ := h'
  rw [r.length, hl, h]
theorem bodyT {K : PySem.W.Frag} {n : Nat} {f : F3} {Ts : List (Addr × Str)} {N : List Str} {t : TS} {x : S3} {W : WX} {vs : List V} {H : Hp} {Q : VK} {E : XK} (h : spT K n f Ts vs H Q E) (hW : ∀ cls dd σ H', E cls dd H' → W cls dd σ H')
    (lt : ∀ p cc, LiftS K (potT p cc Ts) W t x) (hb : ∀ ds Q3 X, ds.length = n → f ds Q3 X → x { nx := fun _ => Q3 .non, rt := Q3, xn := fun _ => X } (start3 N.length ds)) : t { nx := fun _ H' => Q .non H', rt := Q } (start N vs) H := by
  obtain ⟨p, cc, G, ds, hp, hG, hg, hl, r, Q3, X, hf, hq, hx⟩ := h
  refine lt p cc _ _ (hb ds Q3 X hl hf) H G _ _ H _ (r3_startG (c := potT p cc Ts) (N := N) hp hG hg r) ⟨?_, ?_, fun _ _ _ _ _ z => z.elim, fun _ _ _ _ _ z => z.elim, ?_⟩
  · intro A σ3 σ H' R q
    exact hq _ _ _ R.inv R.fin.base (fun a h => R.fin.gk a h) .non q
  · intro v d H' F rv q
    exact hq _ _ _ F.inv F.base (fun a h => F.gk a h) rv q
  · intro A σ3 σ H' cls dd xn R rx q
    refine hW _ _ _ _ (hx cls dd xn H' R.inv R.fin.base (fun a h => R.fin.gk a h) ?_ q)
    obtain ⟨e, rx⟩ := rx
    refine ⟨e, ?_⟩
    cases dd with
    | none => exact rx
    | some d =>
      obtain ⟨fs, h1, h2, h3⟩ := rx
      exact ⟨fs, hid_fin _ _ h1, h2, h3.mono hid_fin⟩
/-- the call, in a law's own context -/
theorem spT_call {K : PySem.W.Frag} {p cc : Addr} {Ts : List (Addr × Str)} {n : Nat} {f : F3} {Hb H1 : Hp} {G : List Addr} {A : List (Option Addr)} {σ3 : List Sl} {σ : St} {vs : List V} {ds : List T} {Q : VK} {E : XK} {Q3 : T → Prop} {X : X3} (R1 : R3 K (potT p cc Ts) Hb G A σ3 σ H1)
    (hv : ∀ a ∈ addrs A, ∀ o, H1 a = some o → (potT p cc Ts).gOk o)
    (rx : RepL K (hid ((potT p cc Ts).S G A) H1) vs ds) (hl : ds.length = n) (hf : f ds Q3 X) (k : ∀ v d H', Le (potT p cc Ts) G A H1 H' → Rep K (hid ((potT p cc Ts).S G A) H') v d → Q3 d → Q v H')
    (e : ∀ cls dd x H', Le (potT p cc Ts) G A H1 H' → XRep K (hid ((potT p cc Ts).S G A) H') cls dd x → X x → E cls dd H') : spT K n f Ts vs H1 Q E := by
  have eS : (potT p cc Ts).S0 ++ (G ++ addrs A) = (potT p cc Ts).S G A := (List.append_assoc ..).symm
  refine ⟨p, cc, G ++ addrs A, ds, R1.inv, fun a ha => ?_, fun a ha o eo => ?_, hl, by rw [eS]; exact rx, Q3, X, hf, fun v d H' i s1 s2 rv q => ?_, fun cls dd x H' i s1 s2 rv q => ?_⟩
  · rcases List.mem_append.mp ha with z | z
    · exact ⟨(R1.gk a z).2.1, (R1.gk a z).2.2⟩
    · exact ⟨R1.there (mem_S.mpr (.inr (.inr z))), fun y => R1.ns a z (List.mem_append.mpr (.inl y))⟩
  · rcases List.mem_append.mp ha with z | z
    · exact R1.gv a z o eo
    · exact hv a z o eo
  · rw [eS] at s1 rv
    exact k v d H' ⟨s1, s2, i⟩ rv q
  · rw [eS] at s1 rv
    exact e cls dd x H' ⟨s1, s2, i⟩ rv q
/-- what a slot owns is a list or an instance: nothing hidden -/
theorem R3.ownVis {K : PySem.W.Frag} {p cc : Addr} {Ts : List (Addr × Str)} {Hb H : Hp} {G : List Addr} {A : List (Option Addr)} {σ3 : List Sl} {σ : St} (R : R3 K (potT p cc Ts) Hb G A σ3 σ H) : ∀ a ∈ addrs A, ∀ o, H a = some o → (potT p cc Ts).gOk o := by
  intro a ha o eo
  right
  obtain ⟨i, hi⟩ := List.mem_iff_getElem?.mp (mem_addrs.mp ha)
  have hA := (List.getElem?_eq_some_iff.mp hi).1
  have h1 : i < σ3.length := by rw [← R.l1]; exact hA
  have h2 : i < σ.length := by rw [R.l2]; exact h1
  have z := R.at_ i _ _ _ (List.getElem?_eq_getElem h1) hi (List.getElem?_eq_getElem h2)
  cases hs : σ3[i] with
  | no => rw [hs] at z; cases z
  | val t => rw [hs] at z; obtain ⟨e, _⟩ := z; cases e
  | own t =>
    rw [hs] at z
    obtain ⟨b, e1, _, q⟩ := z
    cases e1
    cases t with
    | lst xs => obtain ⟨vs, h, _⟩ := q; rw [h] at eo; cases eo; rfl
    | dic xs => obtain ⟨vs, h, _⟩ := q; rw [h] at eo; cases eo; rfl
    | tup xs => obtain ⟨x, C, fs, _, _, dx, ks, h, _⟩ := q; rw [h] at eo; cases eo; rfl
    | _ => exact q.elim
theorem lift_callT {K : PySem.W.Frag} {p cc : Addr} {Ts : List (Addr × Str)} {n : Nat} {f : F3} {W : WX} {E : XK} {t : TA} {x : A3} {dvs : List V} {dts : List T} (hE : ∀ cls dd σ H, W cls dd σ H → E cls dd H) (ha : LiftA K (potT p cc Ts) W t x) (hd : ∀ H, RepL K H dvs dts) :
    Lift K (potT p cc Ts) W (tCall (spT K n f Ts) dvs E t) (fn3 n f x dts) := by
  intro σ3 Q3 X h Hb G A σ H Q R k e
  refine ha _ _ _ h Hb G A σ H _ R (fun vs ds H1 L1 rx hx => ?_) e
  exact spT_call (R.le L1) (R.le L1).ownVis (rx.append (hd _)) hx.1 hx.2 (fun v d H' L r q => k v d H' (L1.trans L) r q) (fun cls dd x H' L r q => hE _ _ σ _ (e cls dd x H' (L1.trans L) r q))
theorem lift_callT0 {K : PySem.W.Frag} {p cc : Addr} {Ts : List (Addr × Str)} {n : Nat} {f : F3} {W : WX} {E : XK} {t : TA} {x : A3} {dvs : List V} {dts : List T} (ha : LiftA K (potT p cc Ts) W t x) (hd : ∀ H, RepL K H dvs dts) :
    Lift K (potT p cc Ts) W (tCall (spT K n f Ts) dvs E t) (fn30 n f x dts) := by
  intro σ3 Q3 X h Hb G A σ H Q R k e
  refine ha _ _ _ h Hb G A σ H _ R (fun vs ds H1 L1 rx hx => ?_) e
  exact spT_call (R.le L1) (R.le L1).ownVis (rx.append (hd _)) hx.1 hx.2 (fun v d H' L r q => k v d H' (L1.trans L) r q) (fun cls dd x H' L r q => q.elim)
end M3

set_option maxHeartbeats 1000000
/-! L5S: x in a tuple, by data -/
namespace L2
open PySem PySem.Spec PyProof.Rows
theorem Room.units65 {k : Nat} {A : Around} (r : Room k A) : A.units + 65 < cLine := by have := r.un; omega
section
variable {X : Cx}
def rInDT (K : PySem.W.Frag) : R2 := fun x y H Q => ∃ d ds, Dp K H x d ∧ Dp K H y (.tuple ds) ∧ SeqAt.shaped d = true ∧ SeqAt.shaped (.tuple ds) = true ∧ Q (.bl (ds.any fun z => PyData.eqv z d)) H
theorem op_inDT (hu : X.A.units + 65 < cLine) : OpR X (compareOp .In) (rInDT X.K) := by
  intro pins s σ H x y v u Q I rx ry h
  obtain ⟨d, ds, hd, he, sd, se, q⟩ := h
  obtain ⟨as, r1⟩ := Dp.reads I d x v hd rx
  obtain ⟨bs, r2⟩ := Dp.reads I (.tuple ds) y u he ry
  exact SeqAt.in_tuple_reads r2 r1 (SeqAt.canLay_of_shaped se) (SeqAt.canLay_of_shaped sd) (room_in_shaped sd hu) ⟨.bl _, H, I, rfl, q⟩
theorem op_inDTK {K : PySem.W.Frag} (h : X.K = K) (hu : X.A.units + 65 < cLine) : OpR X (compareOp .In) (rInDT K) := h ▸ op_inDT hu
end
end L2
namespace M3
open PySem L2
def tupD : PyData → Option (List PyData)
  | .tuple ds => some ds
  | _ => none
def inD3 : T → T → (T → Prop) → Prop := fun x y Q => ob (dat x) fun d => ob (dat y) fun e => ob (tupD e) fun ds => SeqAt.shaped d = true ∧ SeqAt.shaped (.tuple ds) = true ∧ Q (.bl (ds.any fun z => PyData.eqv z d))
theorem rl_inD {K : PySem.W.Frag} : RL2 K (rInDT K) inD3 := by
  intro c x y Q3 hh Hb G A σ3 σ H vx vy Q R rx ry k
  obtain ⟨d, ed, h1⟩ := ob_iff.mp hh
  obtain ⟨e, ee, h2⟩ := ob_iff.mp h1
  obtain ⟨ds, et, s1, s2, q⟩ := ob_iff.mp h2
  have : e = .tuple ds := by
    cases e <;> simp [tupD] at et
    subst et; rfl
  subst this
  exact ⟨d, ds, dp_of hid_same _ _ _ rx ed, dp_of hid_same _ _ _ ry ee, s1, s2, k _ _ H (Le.refl R.inv) (.bl _) q⟩
end M3

/-! L5T: t.index(x) of a tuple of texts. -/
namespace M3
open PySem L2
section
variable {X : Cx} {K : PySem.W.Frag}
def tyTup (K : PySem.W.Frag) (x : V) (H : Hp) : Prop := ∃ p vs, x = .ref p ∧ FqT K H p vs
theorem ty_tup (h : X.K = K) : TyOk X "tuple" (tyTup K) := by
  subst h
  intro pins σ H s x v I r ty
  obtain ⟨p, vs, rfl, hf⟩ := ty
  cases r
  rcases hf with ⟨o, d, e⟩ | ⟨o, its, n, h1, d, h2, _⟩
  · obtain ⟨z1, _, its, _, ob, y1, y2, _⟩ := (show ObjOk X.prog X.w H s.heap p (.frz o (.tup vs)) from I.hok p _ e)
    rw [z1] at y1
    cases y1
    exact ⟨⟨o, z1, y2⟩, fun a ea => by cases ea; exact ⟨o, z1, d⟩⟩
  · exact ⟨⟨o, I.kIn p o h1, h2⟩, fun a ea => by cases ea; exact ⟨o, I.kIn p o h1, d⟩⟩
/-- t.index(z), z a text that is there -/
def rIdxT (K : PySem.W.Frag) (x : V) (xs : List V) (H : Hp) (Q : VK) : Prop := ∃ p, ∃ ys : List Str, ∃ z j, x = .ref p ∧ xs = [.str z] ∧ SqT K H p (ys.map V.str) ∧ ys[j]? = some z ∧ (∀ m, m < j → ys[m]? ≠ some z) ∧ Q (.int (j : Nat)) H
theorem mt_idxT (h : X.K = K) : MtR X "tuple.index" (rIdxT K) := by
  subst h
  exact mt_tup_index
abbrev tIdxT (K : PySem.W.Frag) (to : TE) (t : TA) : TE := tMG (tyTup K) (rIdxT K) to t
theorem pe_idxT {o e : Expr} {to : TE} {t : TA} {apos cpos : Pos} (h : X.K = K) (ho : PE X o to) (ha : PA X [e] t)
    (hbase : attributeBase o "index" X.env (eval o X.env) = eval o X.env := by rfl)
    (hfew : ((backTo cpos (starEach [e] X.env)).all (fun x => !x.1) && (backToKw cpos (keywordEach [] X.env)).all (fun x => x.1.isSome) && decide (([e] : List Expr).length + ([] : List Keyword).length + (if ([] : List Keyword).isEmpty then 0 else 1) < 30)) = true := by rfl)
    (hline : (apos.endLine == cpos.line) = true := by rfl) (hs : starEach [e] X.env = (false, eval e X.env) :: starEach [] X.env := by rfl) :
    PE X (.Call (.Attribute o "index" apos) [e] [] cpos) (tIdxT K to t) :=
  pe_mG (ty_tup h) F.plainAttrs_tuple F.slot_tuple_index F.type_tuple_index (mt_idxT h) ho ha hbase hfew hline hs rfl
end
/-- the first place of a text -/
def idxS (ys : List Str) (z : Str) : Option Nat := ys.findIdx? fun y => decide (y = z)
theorem idxS_is {ys : List Str} {z : Str} {j : Nat} (h : idxS ys z = some j) : ys[j]? = some z ∧ ∀ m, m < j → ys[m]? ≠ some z := by
  unfold idxS at h
  rw [List.findIdx?_eq_some_iff_getElem] at h
  obtain ⟨hj, h1, h2⟩ := h
  refine ⟨?_, fun m hm e => ?_⟩
  · rw [List.getElem?_eq_getElem hj]
    exact congrArg some (of_decide_eq_true h1)
  · have hm' : m < ys.length := Nat.lt_trans hm hj
    have := h2 m hm
    rw [List.getElem?_eq_getElem hm'] at e
    injection e with e
    exact this (decide_eq_true e)
def idx3 (a b : E3) : E3 := fun σ Q X => a σ (fun x => ob (asT x) fun xs => ob (txs xs) fun ys => b σ (fun y => ob (asS y) fun z => ob (idxS ys z) fun j => Q (.int j)) X) X
theorem lift_idxT {K : PySem.W.Frag} {c : Cf} {W : WX} {ta tb : TE} {a b : E3} (ha : Lift K c W ta a) (hb : Lift K c W tb b) : Lift K c W (tIdxT K ta (tCons tb tNil)) (idx3 a b) := by
  intro σ3 Q3 X h Hb G A σ H Q R k e
  refine ha _ _ _ h Hb G A σ H _ R (fun v d H1 L1 r q => ?_) e
  obtain ⟨xs, ex, q1⟩ := ob_iff.mp q
  obtain ⟨ys, ey, q2⟩ := ob_iff.mp q1
  cases asT_is ex
  cases strs_is ey
  obtain ⟨p, vs, rfl, hp, rl⟩ := r.tupF
  cases RepL.texts rl
  refine ⟨⟨p, _, rfl, Same.fqT hid_same hp⟩, ?_⟩
  refine hb _ _ _ q2 Hb G A σ H1 _ (R.le L1) (fun u y H2 L2 ru q3 => ?_) (fun cls dd x H' L => e cls dd x H' (L1.trans L))
  obtain ⟨z, ez, q4⟩ := ob_iff.mp q3
  obtain ⟨j, ej, q5⟩ := ob_iff.mp q4
  cases asS_is ez
  cases ru.strI
  obtain ⟨j1, j2⟩ := idxS_is ej
  exact ⟨p, ys, z, j, rfl, rfl, Same.sqT hid_same (Same.sqT L2.vis hp.sq), j1, j2, k _ _ H2 (L1.trans L2) (.int _) q5⟩
end M3

/-! L6A: things that change, known by their address: cells. A reading carries the cells along. -/
namespace M3
open PySem L2
/-- the cells: what is at an address -/
abbrev Mem := Addr → Option T
def mset (M : Mem) (a : Addr) (t : Option T) : Mem := fun b => if b = a then t else M b
@[simp] theorem mset_same {M : Mem} {a : Addr} {t : Option T} : mset M a t a = t := by unfold mset; rw [if_pos rfl]
theorem mset_ne {M : Mem} {a b : Addr} {t : Option T} (h : b ≠ a) : mset M a t b = M b := by unfold mset; rw [if_neg h]
abbrev XM := Xn → Mem → Prop
abbrev G4 (β : Type) := List Sl → Mem → (β → Mem → Prop) → XM → Prop
abbrev E4 := G4 T
abbrev B4 := G4 Bool
abbrev A4 := G4 (List T)
def CellRep (K : PySem.W.Frag) (Hv H : Hp) (a : Addr) : T → Prop
  | .lst xs => ∃ vs, H a = some (.lst vs) ∧ RepL K Hv vs xs
  | .dic kvs => ∃ ks, H a = some (.dK ks) ∧ ks.map (·.1) = kvs.map (·.1) ∧ RepL K Hv (ks.map (·.2)) (kvs.map (·.2))
  | .ins C fs => ∃ dx ks, H a = some (.ins C dx ks) ∧ ks.map (·.1) = fs.map (·.1) ∧ RepL K Hv (ks.map (·.2)) (fs.map (·.2))
  | _ => False
section
variable {K : PySem.W.Frag} {Hv Hv' H H' : Hp} {a : Addr} {t : T}
theorem CellRep.mono (r : CellRep K Hv H a t) (e : Same Hv Hv') (h : H' a = H a) : CellRep K Hv' H' a t := by
  cases t with
  | lst xs => obtain ⟨vs, h1, h2⟩ := r; exact ⟨vs, h.trans h1, h2.mono e⟩
  | dic kvs => obtain ⟨ks, h1, h2, h3⟩ := r; exact ⟨ks, h.trans h1, h2, h3.mono e⟩
  | ins C fs => obtain ⟨dx, ks, h1, h2, h3⟩ := r; exact ⟨dx, ks, h.trans h1, h2, h3.mono e⟩
  | _ => exact r.elim
theorem CellRep.obj (r : CellRep K Hv H a t) : ∃ o, H a = some o ∧ vis o = true ∧ ∀ φ, o ≠ .ext φ := by
  cases t with
  | lst xs => obtain ⟨vs, h1, _⟩ := r; exact ⟨_, h1, rfl, fun _ z => by cases z⟩
  | dic kvs => obtain ⟨ks, h1, _⟩ := r; exact ⟨_, h1, rfl, fun _ z => by cases z⟩
  | ins C fs => obtain ⟨dx, ks, h1, _⟩ := r; exact ⟨_, h1, rfl, fun _ z => by cases z⟩
  | _ => exact r.elim
end
/-- the cells L with what M tells of them; S is what else is hidden -/
structure Cells (K : PySem.W.Frag) (S L : List Addr) (M : Mem) (H : Hp) : Prop where
  on : ∀ a, a ∈ L ↔ M a ≠ none
  off : ∀ a ∈ L, a ∉ S
  at_ : ∀ a t, M a = some t → CellRep K (hid (S ++ L) H) H a t
theorem Cells.obj {K : PySem.W.Frag} {S L : List Addr} {M : Mem} {H : Hp} (c : Cells K S L M H) {a : Addr} (h : a ∈ L) : ∃ o, H a = some o ∧ vis o = true ∧ ∀ φ, o ≠ .ext φ := by
  cases e : M a with
  | none => exact absurd e ((c.on a).mp h)
  | some t => exact (c.at_ a t e).obj
abbrev nons (n : Nat) : List (Option Addr) := List.replicate n none
theorem addrs_nons (n : Nat) : addrs (nons n) = [] := by
  unfold addrs
  rw [List.filterMap_replicate_of_none rfl]
theorem S_nons {c : Cf} {G L : List Addr} {n : Nat} : c.S (G ++ L) (nons n) = c.S0 ++ G ++ L := by
  unfold Cf.S
  rw [addrs_nons, List.append_nil, List.append_assoc]
theorem nons_of {A : List (Option Addr)} (h : ∀ a, a ∉ addrs A) : A = nons A.length := by
  refine List.eq_replicate_iff.mpr ⟨rfl, fun o ho => ?_⟩
  cases o with
  | none => rfl
  | some a => exact absurd (mem_addrs.mpr ho) (h a)
/-- what is seen -/
abbrev vs4 (c : Cf) (G L : List Addr) (H : Hp) : Hp := hid (c.S0 ++ G ++ L) H
theorem R3.re {K : PySem.W.Frag} {c : Cf} {Hb H : Hp} {Y : List Addr} {n : Nat} {σ3 : List Sl} {σ : St} (r : R3 K c Hb Y (nons n) σ3 σ H) : R3 K c H Y (nons n) σ3 σ H := by
  refine ⟨r.inv, ?_, fun a h => ⟨rfl, (r.gk a h).2⟩, r.gv, r.nd, r.ns, r.l1, r.l2, r.at_⟩
  have e : c.S Y (nons n) = c.S0 ++ Y := by
    unfold Cf.S
    rw [addrs_nons, List.append_nil]
  rw [e]
  exact Same.refl _
structure R4 (K : PySem.W.Frag) (c : Cf) (Hb : Hp) (G L0 L : List Addr) (M : Mem) (σ3 : List Sl) (σ : St) (H : Hp) : Prop where
  r3 : R3 K c H (G ++ L) (nons σ3.length) σ3 σ H
  base : Same (vs4 c G L0 Hb) (vs4 c G L H)
  gk : ∀ a ∈ G, H a = Hb a
  cells : Cells K (c.S0 ++ G) L M H
section
variable {K : PySem.W.Frag} {c : Cf} {Hb H H' : Hp} {G L0 L L' : List Addr} {M M' : Mem} {σ3 : List Sl} {σ : St} {v : V} {t : T}
theorem Le.vis4 {n : Nat} (l : Le c (G ++ L) (nons n) H H') : Same (vs4 c G L H) (vs4 c G L H') := by
  have := l.vis
  rwa [S_nons] at this
theorem R4.le (r : R4 K c Hb G L0 L M σ3 σ H) (l : Le c (G ++ L) (nons σ3.length) H H') : R4 K c Hb G L0 L M σ3 σ H' where
  r3 := (r.r3.le l).re
  base := Same.trans r.base l.vis4
  gk := fun a h => (l.own a (by simp [h])).trans (r.gk a h)
  cells := ⟨r.cells.on, r.cells.off, fun a t e => (r.cells.at_ a t e).mono l.vis4 (l.own a (by simp [(r.cells.on a).mpr (by rw [e]; intro z; cases z)]))⟩
theorem R4.rep {n : Nat} {u : V} {d : T} (h : Rep K (hid (c.S (G ++ L) (nons n)) H) u d) : Rep K (vs4 c G L H) u d := by rwa [S_nons] at h
/-- all that a callee may do to the cells -/
structure Post (K : PySem.W.Frag) (S L : List Addr) (H : Hp) (L' : List Addr) (M' : Mem) (H' : Hp) : Prop where
  vis : Same (hid (S ++ L) H) (hid (S ++ L') H')
  gk : ∀ a ∈ S, H' a = H a
  cells : Cells K S L' M' H'
theorem Post.sameX {S : List Addr} (p : Post K S L H L' M' H') (cl : Cells K S L M H) : SameX H H' := fun a φ e => by
  by_cases h : a ∈ S
  · rw [p.gk a h]; exact e
  · by_cases h2 : a ∈ L
    · obtain ⟨o, e1, _, e2⟩ := cl.obj h2
      rw [e] at e1
      cases e1
      exact absurd rfl (e2 _)
    · exact (hid_some (p.vis _ _ (hid_mk e (by simp [h, h2])))).1
/-- one step on: the cells may be others -/
theorem R4.step (r : R4 K c Hb G L0 L M σ3 σ H) (hi : c.I H') (hv : Same (vs4 c G L H) (vs4 c G L' H')) (hg : ∀ a ∈ G, H' a = H a) (hc : Cells K (c.S0 ++ G) L' M' H') : R4 K c Hb G L0 L' M' σ3 σ H' where
  r3 := by
    have e0 : ∀ n, hid (c.S (G ++ L) (nons n)) H = vs4 c G L H := fun n => by rw [S_nons]
    refine ⟨hi, ?_, fun a h => ⟨rfl, ?_⟩, fun a h o e => ?_, by rw [addrs_nons]; exact List.nodup_nil, (by rw [addrs_nons]; intro a h; cases h), r.r3.l1, r.r3.l2, ?_⟩
    · rw [S_nons, ← List.append_assoc]
      exact Same.refl _
    · rcases List.mem_append.mp h with h | h
      · rw [hg a h]
        exact (r.r3.gk a (by simp [h])).2
      · obtain ⟨o, e, _⟩ := hc.obj h
        exact ⟨(by rw [e]; intro z; cases z), fun z => hc.off a h (by simp [z])⟩
    · rcases List.mem_append.mp h with h | h
      · exact r.r3.gv a (by simp [h]) o (by rw [← hg a h]; exact e)
      · obtain ⟨o', e', v', _⟩ := hc.obj h
        rw [e'] at e
        cases e
        exact c.gV _ v'
    · intro i s o x h1 h2 h3
      have z := r.r3.at_ i s o x h1 h2 h3
      rw [e0] at z
      rw [S_nons]
      cases s with
      | no => exact z
      | val t => obtain ⟨e, v, e2, q⟩ := z; exact ⟨e, v, e2, q.mono hv⟩
      | own t =>
        obtain ⟨a, e, _⟩ := z
        have := (List.mem_replicate.mp (List.mem_of_getElem? h2)).2
        rw [this] at e
        cases e
  base := Same.trans r.base hv
  gk := fun a h => (hg a h).trans (r.gk a h)
  cells := hc
theorem R4.post (r : R4 K c Hb G L0 L M σ3 σ H) (p : Post K (c.S0 ++ G) L H L' M' H') : R4 K c Hb G L0 L' M' σ3 σ H' :=
  r.step (c.st H H' (fun a h => p.gk a (by simp [h])) (p.sameX r.cells) r.r3.inv) p.vis (fun a h => p.gk a (by simp [h])) p.cells
theorem R4.rebase (r : R4 K c Hb G L0 L M σ3 σ H) : R4 K c H G L L M σ3 σ H := ⟨r.r3, Same.refl _, fun _ _ => rfl, r.cells⟩
theorem R4.debase {L1 : List Addr} {M1 : Mem} {σ1 : List Sl} {σ1' : St} {H1 : Hp} (r1 : R4 K c Hb G L0 L1 M1 σ1 σ1' H1) (r : R4 K c H1 G L1 L M σ3 σ H) : R4 K c Hb G L0 L M σ3 σ H :=
  ⟨r.r3, Same.trans r1.base r.base, fun a h => (r.gk a h).trans (r1.gk a h), r.cells⟩
/-- the slots of a frame do not matter for the cells -/
theorem R4.slots {σ3' : List Sl} {σ' : St} {A' : List (Option Addr)} (r : R4 K c Hb G L0 L M σ3 σ H) (q : R3 K c H (G ++ L) A' σ3' σ' H) (hA : ∀ a, a ∉ addrs A') : R4 K c Hb G L0 L M σ3' σ' H where
  r3 := by
    have e := nons_of hA
    rw [q.l1] at e
    rw [e] at q
    exact q
  base := r.base
  gk := r.gk
  cells := r.cells
end
/-- a lifting that carries the cells -/
def LiftG4 (K : PySem.W.Frag) (c : Cf) (W : WX) {α β : Type} (rel : Hp → α → β → Prop) (te : St → Hp → (α → Hp → Prop) → Prop) (t : G4 β) : Prop :=
  ∀ σ3 M Q4 X, t σ3 M Q4 X → ∀ Hb G L0 L σ H Q, R4 K c Hb G L0 L M σ3 σ H →
    (∀ v d L' M' H', R4 K c Hb G L0 L' M' σ3 σ H' → Same (vs4 c G L H) (vs4 c G L' H') → rel (vs4 c G L' H') v d → Q4 d M' → Q v H') →
    (∀ cls dd x L' M' H', R4 K c Hb G L0 L' M' σ3 σ H' → Same (vs4 c G L H) (vs4 c G L' H') → XRep K (vs4 c G L' H') cls dd x → X x M' → W cls dd σ H') → te σ H Q
abbrev Lift4 (K : PySem.W.Frag) (c : Cf) (W : WX) (te : TE) (t : E4) : Prop := LiftG4 K c W (Rep K) te t
abbrev LiftT4 (K : PySem.W.Frag) (c : Cf) (W : WX) (te : TT) (t : B4) : Prop := LiftG4 K c W (fun _ (b b' : Bool) => b = b') te t
abbrev LiftA4 (K : PySem.W.Frag) (c : Cf) (W : WX) (te : TA) (t : A4) : Prop := LiftG4 K c W (RepL K) te t
/-- what leaves the cells alone -/
def pu {β : Type} (t : G3 β) : G4 β := fun σ M Q X => t σ (fun d => Q d M) (fun x => X x M)
section
variable {K : PySem.W.Frag} {c : Cf} {W : WX} {ta tb te : TE} {a b e : E4} {t u : TA} {x y : A4}
theorem lift_pu {α β : Type} {rel : Hp → α → β → Prop} {te : St → Hp → (α → Hp → Prop) → Prop} {t : G3 β} (h : LiftG K c W rel te t) : LiftG4 K c W rel te (pu t) := by
  intro σ3 M Q4 X ht Hb G L0 L σ H Q R k e
  refine h _ _ _ ht H (G ++ L) (nons σ3.length) σ H Q R.r3 (fun v d H' l r q => ?_) (fun cls dd x H' l r q => ?_)
  · rw [S_nons] at r
    exact k v d L M H' (R.le l) l.vis4 r q
  · rw [S_nons] at r
    exact e cls dd x L M H' (R.le l) l.vis4 r q
def nil4 : A4 := fun _ M Q _ => Q [] M
def cons4 (a : E4) (r : A4) : A4 := fun σ M Q X => a σ M (fun d M1 => r σ M1 (fun ds M2 => Q (d :: ds) M2) X) X
theorem lift_nil4 : LiftA4 K c W tNil nil4 := by
  intro σ3 M Q4 X h Hb G L0 L σ H Q R k e
  exact k _ _ L M H R (Same.refl _) .nil h
theorem lift_cons4 (ha : Lift4 K c W ta a) (hx : LiftA4 K c W t x) : LiftA4 K c W (tCons ta t) (cons4 a x) := by
  intro σ3 M Q4 X h Hb G L0 L σ H Q R k e
  refine ha _ _ _ _ h Hb G L0 L σ H _ R (fun v d L1 M1 H1 R1 s1 r q => ?_) e
  refine hx _ _ _ _ q Hb G L0 L1 σ H1 _ R1 (fun vs ds L2 M2 H2 R2 s2 rs q2 => ?_) (fun cls dd x L' M' H' R' s' => e cls dd x L' M' H' R' (Same.trans s1 s'))
  exact k _ _ L2 M2 H2 R2 (Same.trans s1 s2) (.cons (r.mono s2) rs) q2
/-- an operator of two operands that may change cells -/
def op4 (r : T → T → (T → Prop) → Prop) (a b : E4) : E4 := fun σ M Q X => a σ M (fun d M1 => b σ M1 (fun d2 M2 => r d d2 (fun z => Q z M2)) X) X
theorem lift_op4 {r : R2} {r3 : T → T → (T → Prop) → Prop} (hr : RL2 K r r3) (ha : Lift4 K c W ta a) (hb : Lift4 K c W tb b) : Lift4 K c W (tOp r ta tb) (op4 r3 a b) := by
  intro σ3 M Q4 X h Hb G L0 L σ H Q R k e
  refine ha _ _ _ _ h Hb G L0 L σ H _ R (fun v d L1 M1 H1 R1 s1 rv q => ?_) e
  refine hb _ _ _ _ q Hb G L0 L1 σ H1 _ R1 (fun w d2 L2 M2 H2 R2 s2 rw' q2 => ?_) (fun cls dd x L' M' H' R' s' => e cls dd x L' M' H' R' (Same.trans s1 s'))
  have rv2 := rv.mono s2
  refine hr c d d2 _ q2 H2 (G ++ L2) (nons σ3.length) σ3 σ H2 v w Q R2.r3 (by rw [S_nons]; exact rv2) (by rw [S_nons]; exact rw') (fun z dz H3 l rz qz => ?_)
  rw [S_nons] at rz
  exact k z dz L2 M2 H3 (R2.le l) (Same.trans (Same.trans s1 s2) l.vis4) rz qz
/-- a built-in's call -/
def call4 (r : List T → (T → Prop) → Prop) (x : A4) : E4 := fun σ M Q X => x σ M (fun ds M1 => r ds (fun z => Q z M1)) X
theorem lift_call4 {r : List V → Hp → VK → Prop} {r3 : List T → (T → Prop) → Prop} (hr : RLn K r r3) (hx : LiftA4 K c W t x) : Lift4 K c W (tCB r t) (call4 r3 x) := by
  intro σ3 M Q4 X h Hb G L0 L σ H Q R k e
  refine hx _ _ _ _ h Hb G L0 L σ H _ R (fun vs ds L1 M1 H1 R1 s1 rs q => ?_) e
  refine hr c ds _ q H1 (G ++ L1) (nons σ3.length) σ3 σ H1 vs Q R1.r3 (by rw [S_nons]; exact rs) (fun z dz H3 l rz qz => ?_)
  rw [S_nons] at rz
  exact k z dz L1 M1 H3 (R1.le l) (Same.trans s1 l.vis4) rz qz
/-! ### tests -/
def tst4 (a : E4) : B4 := fun σ M Q X => a σ M (fun d M1 => ob (asB d) fun b => Q b M1) X
def not4 (a : B4) : B4 := fun σ M Q X => a σ M (fun b M1 => Q (!b) M1) X
def and4 (a b : B4) : B4 := fun σ M Q X => a σ M (fun x M1 => if x = true then b σ M1 Q X else Q false M1) X
def or4 (a b : B4) : B4 := fun σ M Q X => a σ M (fun x M1 => if x = true then Q true M1 else b σ M1 Q X) X
def if4 (t : B4) (a b : E4) : E4 := fun σ M Q X => t σ M (fun x M1 => if x = true then a σ M1 Q X else b σ M1 Q X) X
end
/-! ### a def that may change cells -/
abbrev F4 := List T → Mem → (T → Mem → Prop) → XM → Prop
def sp4 (K : PySem.W.Frag) (n : Nat) (f : F4) : Sp := fun vs H Q E => ∃ G L M ds, ds.length = n ∧ (∀ a ∈ G, H a ≠ none) ∧ Cells K G L M H ∧ RepL K (hid (G ++ L) H) vs ds ∧ ∃ Q4 X4, f ds M Q4 X4 ∧
  (∀ v d L' M' H', Post K G L H L' M' H' → Rep K (hid (G ++ L') H') v d → Q4 d M' → Q v H') ∧
  (∀ cls dd x L' M' H', Post K G L H L' M' H' → XRep K (hid (G ++ L') H') cls dd x → X4 x M' → E cls dd H')
theorem sp4_len {K : PySem.W.Frag} {n : Nat} {f : F4} {ps : List Str} (h : ps.length = n) : ∀ vs H Q E, sp4 K n f vs H Q E → vs.length = ps.length := by
  intro vs H Q E h'
  obtain ⟨G, L, M, ds, hl, _, _, r, _⟩ := h'
  rw [r.length, hl, h]
section
variable {K : PySem.W.Frag} {c : Cf} {W : WX} {t : TA} {x : A4} {n : Nat} {f : F4} {E : XK} {dvs : List V} {dts : List T}
theorem sp4_call {Hb H1 : Hp} {G L0 L : List Addr} {M : Mem} {σ3 : List Sl} {σ : St} {vs : List V} {ds : List T} {Q : VK} {Q4 : T → Mem → Prop} {X : XM} (R : R4 K c Hb G L0 L M σ3 σ H1) (rx : RepL K (vs4 c G L H1) vs ds) (hl : ds.length = n) (hf : f ds M Q4 X)
    (k : ∀ v d L' M' H', R4 K c Hb G L0 L' M' σ3 σ H' → Same (vs4 c G L H1) (vs4 c G L' H') → Rep K (vs4 c G L' H') v d → Q4 d M' → Q v H')
    (e : ∀ cls dd x L' M' H', R4 K c Hb G L0 L' M' σ3 σ H' → Same (vs4 c G L H1) (vs4 c G L' H') → XRep K (vs4 c G L' H') cls dd x → X x M' → E cls dd H') : sp4 K n f vs H1 Q E := by
  refine ⟨c.S0 ++ G, L, M, ds, hl, fun a h => ?_, R.cells, rx, Q4, X, hf, fun v d L' M' H' p r q => k v d L' M' H' (R.post p) p.vis r q, fun cls dd x L' M' H' p r q => e cls dd x L' M' H' (R.post p) p.vis r q⟩
  rcases List.mem_append.mp h with h | h
  · exact c.on _ R.r3.inv a h
  · exact (R.r3.gk a (by simp [h])).2.1
/-- f(e, ..) -/
def fn4 (n : Nat) (f : F4) (x : A4) (dts : List T) : E4 := fun σ M Q X => x σ M (fun ds M1 => (ds ++ dts).length = n ∧ f (ds ++ dts) M1 Q X) X
theorem lift_fn4 (hE : ∀ cls dd σ H, W cls dd σ H → E cls dd H) (hx : LiftA4 K c W t x) (hd : ∀ H, RepL K H dvs dts) : Lift4 K c W (tCall (sp4 K n f) dvs E t) (fn4 n f x dts) := by
  intro σ3 M Q4 X h Hb G L0 L σ H Q R k e
  refine hx _ _ _ _ h Hb G L0 L σ H _ R (fun vs ds L1 M1 H1 R1 s1 rs q => ?_) e
  exact sp4_call R1 (rs.append (hd _)) q.1 q.2 (fun v d L' M' H' R' s' r q => k v d L' M' H' R' (Same.trans s1 s') r q) (fun cls dd x L' M' H' R' s' r q => hE _ _ σ _ (e cls dd x L' M' H' R' (Same.trans s1 s') r q))
/-- .. that raises nothing here -/
def fn40 (n : Nat) (f : F4) (x : A4) (dts : List T) : E4 := fun σ M Q X => x σ M (fun ds M1 => (ds ++ dts).length = n ∧ f (ds ++ dts) M1 Q (fun _ _ => False)) X
theorem lift_fn40 (hx : LiftA4 K c W t x) (hd : ∀ H, RepL K H dvs dts) : Lift4 K c W (tCall (sp4 K n f) dvs E t) (fn40 n f x dts) := by
  intro σ3 M Q4 X h Hb G L0 L σ H Q R k e
  refine hx _ _ _ _ h Hb G L0 L σ H _ R (fun vs ds L1 M1 H1 R1 s1 rs q => ?_) e
  exact sp4_call R1 (rs.append (hd _)) q.1 q.2 (fun v d L' M' H' R' s' r q => k v d L' M' H' R' (Same.trans s1 s') r q) (fun cls dd x L' M' H' R' s' r q => q.elim)
end
end M3

/-! L6B: statements that carry the cells; a def that may change cells; cells made, changed, given away. -/
namespace M3
open PySem L2
structure N4 where
  nx : List Sl → Mem → Prop
  rt : T → Mem → Prop
  bk : List Sl → Mem → Prop := fun _ _ => False
  ct : List Sl → Mem → Prop := fun _ _ => False
  xn : List Sl → Xn → Mem → Prop := fun _ _ _ => False
abbrev S4 := N4 → List Sl → Mem → Prop
structure Fin4 (K : PySem.W.Frag) (c : Cf) (Hb : Hp) (G L0 L : List Addr) (M : Mem) (H : Hp) : Prop where
  inv : c.I H
  base : Same (vs4 c G L0 Hb) (vs4 c G L H)
  gk : ∀ a ∈ G, H a = Hb a
  cells : Cells K (c.S0 ++ G) L M H
theorem R4.fin {K : PySem.W.Frag} {c : Cf} {Hb H : Hp} {G L0 L : List Addr} {M : Mem} {σ3 : List Sl} {σ : St} (r : R4 K c Hb G L0 L M σ3 σ H) : Fin4 K c Hb G L0 L M H := ⟨r.r3.inv, r.base, r.gk, r.cells⟩
structure To4 (K : PySem.W.Frag) (c : Cf) (W : WX) (Hb : Hp) (G L0 : List Addr) (N : N4) (D : Ends) : Prop where
  nx : ∀ L M σ3 σ H, R4 K c Hb G L0 L M σ3 σ H → N.nx σ3 M → D.nx σ H
  rt : ∀ v d L M H, Fin4 K c Hb G L0 L M H → Rep K (vs4 c G L H) v d → N.rt d M → D.rt v H
  bk : ∀ L M σ3 σ H, R4 K c Hb G L0 L M σ3 σ H → N.bk σ3 M → D.bk σ H
  ct : ∀ L M σ3 σ H, R4 K c Hb G L0 L M σ3 σ H → N.ct σ3 M → D.ct σ H
  xn : ∀ L M σ3 σ H cls dd x, R4 K c Hb G L0 L M σ3 σ H → XRep K (vs4 c G L H) cls dd x → N.xn σ3 x M → W cls dd σ H
def LiftS4 (K : PySem.W.Frag) (c : Cf) (W : WX) (ts : TS) (t : S4) : Prop :=
  ∀ N σ3 M, t N σ3 M → ∀ Hb G L0 L σ H (D : Ends), R4 K c Hb G L0 L M σ3 σ H → To4 K c W Hb G L0 N D → ts D σ H
def next4 : S4 := fun N σ M => N.nx σ M
def seq4 (t u : S4) : S4 := fun N σ M => t { N with nx := u N } σ M
def brk4 : S4 := fun N σ M => N.bk σ M
def cont4 : S4 := fun N σ M => N.ct σ M
def drop4 (a : E4) : S4 := fun N σ M => a σ M (fun _ M1 => N.nx σ M1) (N.xn σ)
def ret4 (a : E4) : S4 := fun N σ M => a σ M N.rt (N.xn σ)
def retN4 : S4 := fun N _ M => N.rt .non M
def ifs4 (z : B4) (t u : S4) : S4 := fun N σ M => z σ M (fun b M1 => if b = true then t N σ M1 else u N σ M1) (N.xn σ)
def asg4 (a : E4) (g : TG3) : S4 := fun N σ M => a σ M (fun d M1 => g d σ fun σ' => N.nx σ' M1) (N.xn σ)
section
variable {K : PySem.W.Frag} {c : Cf} {W : WX} {ta : TE} {a : E4} {t u : TS} {x y : S4}
theorem lift_next4 : LiftS4 K c W tNext next4 := fun N σ3 M h Hb G L0 L σ H D R Z => Z.nx _ _ _ _ _ R h
theorem lift_seq4 (h1 : LiftS4 K c W t x) (h2 : LiftS4 K c W u y) : LiftS4 K c W (tSeq t u) (seq4 x y) := by
  intro N σ3 M h Hb G L0 L σ H D R Z
  exact h1 _ _ _ h Hb G L0 L σ H _ R ⟨fun L' M' σ3' σ' H' R' q => h2 _ _ _ q Hb G L0 L' σ' H' D R' Z, Z.rt, Z.bk, Z.ct, Z.xn⟩
theorem lift_brk4 : LiftS4 K c W tBreak brk4 := fun N σ3 M h Hb G L0 L σ H D R Z => Z.bk _ _ _ _ _ R h
theorem lift_cont4 : LiftS4 K c W tCont cont4 := fun N σ3 M h Hb G L0 L σ H D R Z => Z.ct _ _ _ _ _ R h
theorem lift_drop4 (ha : Lift4 K c W ta a) : LiftS4 K c W (tDrop ta) (drop4 a) := by
  intro N σ3 M h Hb G L0 L σ H D R Z
  exact ha _ _ _ _ h Hb G L0 L σ H _ R (fun v d L' M' H' R' _ _ q => Z.nx _ _ _ _ _ R' q) (fun cls dd x L' M' H' R' _ r q => Z.xn _ _ _ _ _ _ _ _ R' r q)
theorem lift_ret4 (ha : Lift4 K c W ta a) : LiftS4 K c W (tRet ta) (ret4 a) := by
  intro N σ3 M h Hb G L0 L σ H D R Z
  exact ha _ _ _ _ h Hb G L0 L σ H _ R (fun v d L' M' H' R' _ r q => Z.rt _ _ _ _ _ R'.fin r q) (fun cls dd x L' M' H' R' _ r q => Z.xn _ _ _ _ _ _ _ _ R' r q)
theorem lift_retN4 : LiftS4 K c W tRetN retN4 := by
  intro N σ3 M h Hb G L0 L σ H D R Z
  exact Z.rt _ _ _ _ _ R.fin .non h
theorem lift_ifs4 {k : TT} {z : B4} (hc : LiftT4 K c W k z) (h1 : LiftS4 K c W t x) (h2 : LiftS4 K c W u y) : LiftS4 K c W (tIfS k t u) (ifs4 z x y) := by
  intro N σ3 M h Hb G L0 L σ H D R Z
  refine hc _ _ _ _ h Hb G L0 L σ H _ R (fun vx w L' M' H' R' _ r q => ?_) (fun cls dd x L' M' H' R' _ r q => Z.xn _ _ _ _ _ _ _ _ R' r q)
  subst r
  cases vx with
  | true => exact iteT (h1 _ _ _ (by simpa using q) Hb G L0 L' σ H' D R' Z)
  | false => exact iteF (h2 _ _ _ (by simpa using q) Hb G L0 L' σ H' D R' Z)
theorem lift_asg4 {vs : List Nat} {g : TG} {g3 : TG3} (ha : Lift4 K c W ta a) (hg : LiftTg K c vs g g3) : LiftS4 K c W (tAsg ta g) (asg4 a g3) := by
  intro N σ3 M h Hb G L0 L σ H D R Z
  refine ha _ _ _ _ h Hb G L0 L σ H _ R (fun v d L' M' H' R' _ r q => ?_) (fun cls dd x L' M' H' R' _ r q => Z.xn _ _ _ _ _ _ _ _ R' r q)
  refine hg _ _ _ q H' (G ++ L') (nons σ3.length) σ H' v _ R'.r3 (.inl (by rw [S_nons]; exact r)) (fun A' σ3' σ' H2 R2 e2 st q' => ?_)
  subst e2
  exact Z.nx _ _ _ _ _ (R'.slots R2 fun a h => by
    have := st.2.2 a h
    rw [addrs_nons] at this
    cases this) q'
/-! ### for -/
def loop4 (g : TG3) (tb : S4) (N : N4) : List T → List Sl → Mem → Prop
  | [], σ, M => N.nx σ M
  | x :: r, σ, M => g x σ fun σ' => tb { nx := loop4 g tb N r, ct := loop4 g tb N r, bk := N.nx, rt := N.rt, xn := N.xn } σ' M
def for4 (s : A3) (g : TG3) (tb : S4) : S4 := fun N σ M => s σ (fun ds => loop4 g tb N ds σ M) (fun x => N.xn σ x M)
theorem lift_for4 {wk : Bool} {vs : List Nat} {wi : TI} {s : A3} {g : TG} {g3 : TG3} {tb : TS} {b : S4} (hi : LiftIB K c wk W wi s) (hg : LiftTgB K c wk vs g g3) (hb : LiftS4 K c W tb b) : LiftS4 K c W (tFor wi g tb) (for4 s g3 b) := by
  intro N σ3 M h Hb G L0 L σ H D R Z
  refine hi _ _ _ h H (G ++ L) (nons σ3.length) σ H _ R.r3 (fun J ds H1 l1 w q => ?_) (fun cls dd x H' l r q => ?_)
  rotate_left
  · rw [S_nons] at r
    exact Z.xn _ _ _ _ _ _ _ _ (R.le l) r q
  have R1 := R.le l1
  rw [S_nons] at w
  refine ⟨fun i m σ' H' => m = ds.length - i ∧ i ≤ ds.length ∧ ∃ L' M' σ3', R4 K c H1 G L L' M' σ3' σ' H' ∧ loop4 g3 b N (ds.drop i) σ3' M', ⟨ds.length, rfl, Nat.zero_le _, L, M, σ3, R1.rebase, by simpa using q⟩, ?_⟩
  rintro i m σ' H' ⟨rfl, hi, L', M', σ3', R', q'⟩
  have vis := R'.base
  by_cases hl : i = ds.length
  · subst hl
    left
    refine ⟨w.stop _ _ vis, Z.nx _ _ _ _ _ (R1.debase R') ?_⟩
    have e : ds.drop ds.length = [] := List.drop_length
    rw [e] at q'
    exact q'
  · right
    have hlt : i < ds.length := Nat.lt_of_le_of_ne hi hl
    have hd : ds[i]? = some ds[i] := List.getElem?_eq_getElem hlt
    rw [List.drop_eq_getElem_cons hlt] at q'
    refine ⟨w.go i _ _ _ hd vis, fun σ2 H2 => ∃ L2 M2 σ32, R4 K c H1 G L L2 M2 σ32 σ2 H2 ∧ loop4 g3 b N (ds.drop (i + 1)) σ32 M2, ?_, ?_⟩
    · rintro σ2 H2 ⟨L2, M2, σ32, R2, q2⟩
      exact ⟨ds.length - (i + 1), by omega, rfl, hlt, L2, M2, σ32, R2, q2⟩
    · intro x H2 y
      have th : ∀ a ∈ c.S0 ++ G ++ L', H' a ≠ none := fun a h => R'.r3.there (by rw [S_nons]; exact h)
      obtain ⟨hn, rx⟩ := w.yld i _ _ _ x H2 hd vis th y
      have R2 : R4 K c H1 G L L' M' σ3' σ' H2 := by
        rcases hn with rfl | ⟨p, o, hp, rfl⟩
        · exact R'
        · exact R'.le (R'.r3.new (o := o) hp)
      refine hg _ _ _ q' H2 (G ++ L') (nons σ3'.length) σ' H2 x _ R2.r3 (by rw [S_nons]; exact rx) (fun A4 σ4 σ4' H4 R4' e4 st q4 => ?_)
      subst e4
      refine hb _ _ _ q4 H1 G L L' σ4' H4 _ (R2.slots R4' fun a h => by
        have := st.2.2 a h
        rw [addrs_nons] at this
        cases this) ⟨?_, ?_, ?_, ?_, ?_⟩
      · exact fun L5 M5 σ5 σ5' H5 R5 q5 => ⟨L5, M5, σ5, R5, q5⟩
      · exact fun v d L5 M5 H5 F rv q5 => Z.rt v d L5 M5 H5 ⟨F.inv, Same.trans R1.base F.base, fun a h => (F.gk a h).trans (R1.gk a h), F.cells⟩ rv q5
      · exact fun L5 M5 σ5 σ5' H5 R5 q5 => Z.nx _ _ _ _ _ (R1.debase R5) q5
      · exact fun L5 M5 σ5 σ5' H5 R5 q5 => ⟨L5, M5, σ5, R5, q5⟩
      · exact fun L5 M5 σ5 σ5' H5 cls dd xn R5 rx q5 => Z.xn _ _ _ _ _ _ _ _ (R1.debase R5) rx q5
end
end M3

/-! L6C: tests, bodies; cells that are lists: made, appended to, looked at, given away. -/
namespace M3
open PySem L2
section
variable {K : PySem.W.Frag} {c : Cf} {W : WX} {ta tb te : TE} {a b e : E4} {t u : TT} {x y : B4}
theorem lift_tst4 (ha : Lift4 K c W ta a) : LiftT4 K c W (tTest ta) (tst4 a) := by
  intro σ3 M Q4 X h Hb G L0 L σ H Q R k e
  refine ha _ _ _ _ h Hb G L0 L σ H _ R (fun v d L1 M1 H1 R1 s1 r q => ?_) e
  obtain ⟨z, ez, q1⟩ := ob_iff.mp q
  cases asB_is ez
  exact ⟨z, r.blI, k z z L1 M1 H1 R1 s1 rfl q1⟩
theorem lift_not4 (ha : LiftT4 K c W t x) : LiftT4 K c W (tNot t) (not4 x) := by
  intro σ3 M Q4 X h Hb G L0 L σ H Q R k e
  refine ha _ _ _ _ h Hb G L0 L σ H _ R (fun v d L1 M1 H1 R1 s1 r q => ?_) e
  subst r
  exact k _ _ L1 M1 H1 R1 s1 rfl q
theorem lift_and4 (ha : LiftT4 K c W t x) (hb : LiftT4 K c W u y) : LiftT4 K c W (tAnd t u) (and4 x y) := by
  intro σ3 M Q4 X h Hb G L0 L σ H Q R k e
  refine ha _ _ _ _ h Hb G L0 L σ H _ R (fun v d L1 M1 H1 R1 s1 r q => ?_) e
  subst r
  cases v with
  | true => exact iteT (hb _ _ _ _ (by simpa using q) Hb G L0 L1 σ H1 _ R1 (fun v d L' M' H' R' s' => k v d L' M' H' R' (Same.trans s1 s')) (fun cls dd x L' M' H' R' s' => e cls dd x L' M' H' R' (Same.trans s1 s')))
  | false => exact iteF (k false false L1 M1 H1 R1 s1 rfl (by simpa using q))
theorem lift_or4 (ha : LiftT4 K c W t x) (hb : LiftT4 K c W u y) : LiftT4 K c W (tOr t u) (or4 x y) := by
  intro σ3 M Q4 X h Hb G L0 L σ H Q R k e
  refine ha _ _ _ _ h Hb G L0 L σ H _ R (fun v d L1 M1 H1 R1 s1 r q => ?_) e
  subst r
  cases v with
  | false => exact iteF (hb _ _ _ _ (by simpa using q) Hb G L0 L1 σ H1 _ R1 (fun v d L' M' H' R' s' => k v d L' M' H' R' (Same.trans s1 s')) (fun cls dd x L' M' H' R' s' => e cls dd x L' M' H' R' (Same.trans s1 s')))
  | true => exact iteT (k true true L1 M1 H1 R1 s1 rfl (by simpa using q))
theorem lift_if4 (ht : LiftT4 K c W t x) (ha : Lift4 K c W ta a) (hb : Lift4 K c W tb b) : Lift4 K c W (tIf t ta tb) (if4 x a b) := by
  intro σ3 M Q4 X h Hb G L0 L σ H Q R k e
  refine ht _ _ _ _ h Hb G L0 L σ H _ R (fun v d L1 M1 H1 R1 s1 r q => ?_) e
  subst r
  cases v with
  | true => exact iteT (ha _ _ _ _ (by simpa using q) Hb G L0 L1 σ H1 _ R1 (fun v d L' M' H' R' s' => k v d L' M' H' R' (Same.trans s1 s')) (fun cls dd x L' M' H' R' s' => e cls dd x L' M' H' R' (Same.trans s1 s')))
  | false => exact iteF (hb _ _ _ _ (by simpa using q) Hb G L0 L1 σ H1 _ R1 (fun v d L' M' H' R' s' => k v d L' M' H' R' (Same.trans s1 s')) (fun cls dd x L' M' H' R' s' => e cls dd x L' M' H' R' (Same.trans s1 s')))
end
/-! ### the body of a def that may change cells -/
theorem body4 {K : PySem.W.Frag} {n : Nat} {f : F4} {N : List Str} {t : TS} {x : S4} {W : WX} {vs : List V} {H : Hp} {Q : VK} {E : XK} (h : sp4 K n f vs H Q E) (hW : ∀ cls dd σ H', E cls dd H' → W cls dd σ H')
    (lt : LiftS4 K cf0 W t x) (hb : ∀ ds M Q4 X, ds.length = n → f ds M Q4 X → x { nx := fun _ M => Q4 .non M, rt := Q4, xn := fun _ => X } (start3 N.length ds) M) : t { nx := fun _ H' => Q .non H', rt := Q } (start N vs) H := by
  obtain ⟨G, L, M, ds, hl, hG, cl, r, Q4, X, hf, hq, hx⟩ := h
  have r0 : R3 K cf0 H (G ++ L) (nons (start3 N.length ds).length) (start3 N.length ds) (start N vs) H := r3_start (c := cf0) (N := N) trivial (fun a h => ⟨(by
    rcases List.mem_append.mp h with h | h
    · exact hG a h
    · obtain ⟨o, e, _⟩ := cl.obj h
      rw [e]; intro z; cases z), fun z => by cases z⟩) (fun _ => trivial) r
  have R0 : R4 K cf0 H G L L M (start3 N.length ds) (start N vs) H := ⟨r0, Same.refl _, fun _ _ => rfl, cl⟩
  refine lt _ _ _ (hb ds M Q4 X hl hf) H G L L _ H _ R0 ⟨?_, ?_, fun _ _ _ _ _ _ z => z.elim, fun _ _ _ _ _ _ z => z.elim, ?_⟩
  · intro L' M' σ3 σ H' R q
    exact hq _ _ L' M' H' ⟨R.base, R.gk, R.cells⟩ .non q
  · intro v d L' M' H' F rv q
    exact hq _ _ L' M' H' ⟨F.base, F.gk, F.cells⟩ rv q
  · intro L' M' σ3 σ H' cls dd xn R rx q
    exact hW _ _ _ _ (hx cls dd xn L' M' H' ⟨R.base, R.gk, R.cells⟩ rx q)
/-! ### cells that are lists -/
def asR : T → Option Addr
  | .ref a => some a
  | _ => none
theorem asR_is {t : T} {a : Addr} (h : asR t = some a) : t = .ref a := by
  cases t <;> simp [asR] at h <;> subst h <;> rfl
/-- the list at a cell -/
def cellL (M : Mem) (a : Addr) : Option (List T) := (M a).bind asL
theorem cellL_is {M : Mem} {a : Addr} {xs : List T} (h : cellL M a = some xs) : M a = some (.lst xs) := by
  unfold cellL at h
  cases e : M a with
  | none => rw [e] at h; cases h
  | some t => rw [e] at h; rw [asL_is (show asL t = some xs from h)]
section
variable {K : PySem.W.Frag} {c : Cf} {Hb H H' : Hp} {G L0 L L' : List Addr} {M M' : Mem} {σ3 : List Sl} {σ : St} {W : WX}
theorem hid_upd_hid {S : List Addr} {a : Addr} {o : HO} (h : a ∈ S) : hid S (upd H a o) = hid S H := hid_upd_in h
/-- what a cell holds becomes another -/
theorem R4.put (r : R4 K c Hb G L0 L M σ3 σ H) {a : Addr} {o : HO} {t : T} (ha : a ∈ L) (ho : ∀ φ, o ≠ .ext φ) (hr : CellRep K (vs4 c G L H) (upd H a o) a t) : R4 K c Hb G L0 L (mset M a (some t)) σ3 σ (upd H a o) := by
  have na : a ∉ c.S0 ++ G := r.cells.off a ha
  have hv : vs4 c G L (upd H a o) = vs4 c G L H := hid_upd_in (by simp [ha])
  obtain ⟨o1, e1, _, n1⟩ := r.cells.obj ha
  refine r.step (c.st H _ (fun b hb => upd_ne (fun z => na (by rw [← z]; simp [hb]))) (fun b φ e => ?_) r.r3.inv) (by rw [hv]; exact Same.refl _) (fun b hb => upd_ne (fun z => na (by rw [← z]; simp [hb]))) ⟨fun b => ?_, r.cells.off, fun b t' e => ?_⟩
  · have : b ≠ a := fun z => by
      rw [z, e1] at e
      cases e
      exact n1 _ rfl
    rw [upd_ne this]; exact e
  · by_cases z : b = a
    · subst z
      simp [ha]
    · rw [mset_ne z]; exact r.cells.on b
  · show CellRep K (vs4 c G L (upd H a o)) (upd H a o) b t'
    rw [hv]
    by_cases z : b = a
    · subst z
      rw [mset_same] at e
      cases e
      exact hr
    · rw [mset_ne z] at e
      exact (r.cells.at_ b t' e).mono (Same.refl _) (upd_ne z)
theorem R4.atL (r : R4 K c Hb G L0 L M σ3 σ H) {a : Addr} {xs : List T} (h : M a = some (.lst xs)) : a ∈ L ∧ ∃ vs, H a = some (.lst vs) ∧ RepL K (vs4 c G L H) vs xs :=
  ⟨(r.cells.on a).mpr (by rw [h]; intro z; cases z), r.cells.at_ a _ h⟩
/-- a new list that is a cell -/
def newC4 (t : E3) : E4 := fun σ M Q X => t σ (fun d => ob (asL d) fun xs => ∀ p, M p = none → Q (.ref p) (mset M p (some (.lst xs)))) (fun x => X x M)
theorem lift_newC {te : TE} {t : E3} (h : LiftFr K c W te t) : Lift4 K c W te (newC4 t) := by
  intro σ3 M Q4 X ht Hb G L0 L σ H Q R k e
  refine h _ _ _ ht H (G ++ L) (nons σ3.length) σ H _ R.r3 (fun D vs ds H' f q => ?_) (fun cls dd x H' l r q => ?_)
  · have nD := f.nD
    have fv := f.vis
    have fr := f.rep
    rw [S_nons] at nD fv fr
    have mD : M D = none := by
      cases e : M D with
      | none => rfl
      | some t => exact absurd (by simp [(R.cells.on D).mpr (by rw [e]; intro z; cases z)]) nD
    have hS : ∀ a, a ∈ D :: (c.S0 ++ G ++ L) ↔ a ∈ c.S0 ++ G ++ (D :: L) := fun a => by
      simp only [List.mem_cons, List.mem_append]
      exact ⟨fun h => by rcases h with h | (h | h) | h <;> simp [h], fun h => by rcases h with (h | h) | h | h <;> simp [h]⟩
    have sm : Same (hid (D :: (c.S0 ++ G ++ L)) H') (vs4 c G (D :: L) H') := hid_mono fun a z => (hS a).mpr z
    have vis : Same (vs4 c G L H) (vs4 c G (D :: L) H') := Same.trans fv sm
    have R' : R4 K c Hb G L0 (D :: L) (mset M D (some (.lst ds))) σ3 σ H' := by
      refine R.step f.inv vis (fun a h => f.own a (by simp [h])) ⟨fun a => ?_, fun a h => ?_, fun a t' e => ?_⟩
      · by_cases z : a = D
        · subst z; simp
        · rw [mset_ne z, List.mem_cons]
          exact ⟨fun h => (R.cells.on a).mp (h.resolve_left z), fun h => .inr ((R.cells.on a).mpr h)⟩
      · rcases List.mem_cons.mp h with rfl | h
        · exact fun z => nD (by simp at z ⊢; rcases z with z | z <;> simp [z])
        · exact R.cells.off a h
      · by_cases z : a = D
        · subst z
          rw [mset_same] at e
          cases e
          exact ⟨vs, f.at_, fr.mono sm⟩
        · rw [mset_ne z] at e
          exact (R.cells.at_ a t' e).mono vis (f.own a (by simp [(R.cells.on a).mpr (by rw [e]; intro z; cases z)]))
    exact k _ _ (D :: L) _ H' R' vis (.ref D) (q D mD)
  · rw [S_nons] at r
    exact e cls dd x L M H' (R.le l) l.vis4 r q
/-- o.append(e) -/
def app4 (o e : E4) : E4 := fun σ M Q X => o σ M (fun d M1 => ob (asR d) fun a => ob (cellL M1 a) fun _ => e σ M1 (fun y M2 => ob (cellL M2 a) fun xs => xs.length < sizeLine ∧ Q .non (mset M2 a (some (.lst (xs ++ [y]))))) X) X
theorem lift_app4 {to te : TE} {o e : E4} (ho : Lift4 K c W to o) (he : Lift4 K c W te e) : Lift4 K c W (tBM K "list" rAppend to (tCons te tNil)) (app4 o e) := by
  intro σ3 M Q4 X h Hb G L0 L σ H Q R k ex
  refine ho _ _ _ _ h Hb G L0 L σ H _ R (fun v d L1 M1 H1 R1 s1 r q => ?_) ex
  obtain ⟨a, ea, qa⟩ := ob_iff.mp q
  obtain ⟨xs, e1, qb⟩ := ob_iff.mp qa
  cases asR_is ea
  cases r.refI
  obtain ⟨_, vs, h1, _⟩ := R1.atL (cellL_is e1)
  refine ⟨.inl ⟨rfl, vs, SqL.of h1⟩, ?_⟩
  refine he _ _ _ _ qb Hb G L0 L1 σ H1 _ R1 (fun u y L2 M2 H2 R2 s2 ru q2 => ?_) (fun cls dd x L' M' H' R' s' => ex cls dd x L' M' H' R' (Same.trans s1 s'))
  obtain ⟨ys, e2, hl, q3⟩ := ob_iff.mp q2
  obtain ⟨m2, ws, h2, r2⟩ := R2.atL (cellL_is e2)
  refine ⟨a, ws, u, rfl, rfl, h2, by rw [r2.length]; exact hl, ?_⟩
  have hv : vs4 c G L2 (upd H2 a (.lst (ws ++ [u]))) = vs4 c G L2 H2 := hid_upd_in (by simp [m2])
  exact k _ _ L2 _ _ (R2.put (t := .lst (ys ++ [y])) m2 (fun φ z => by cases z) ⟨ws ++ [u], upd_same, r2.append (.cons ru .nil)⟩) (Same.trans (Same.trans s1 s2) (by rw [hv]; exact Same.refl _)) .non q3
end
end M3

/-! L6D: comprehensions that change cells; cells looked at as trees; cells given away; the pot. -/
namespace M3
open PySem L2
section
variable {K : PySem.W.Frag} {c : Cf} {Hb H H' : Hp} {G L0 L L' : List Addr} {M M' : Mem} {σ3 : List Sl} {σ : St} {W : WX}
theorem R4.noOwn (r : R4 K c Hb G L0 L M σ3 σ H) (vs : List Nat) : noOwn σ3 vs := fun i _ t e => by
  have hl : i < σ3.length := (List.getElem?_eq_some_iff.mp e).1
  have h1 : (nons σ3.length)[i]? = some none := by simp [hl]
  have h2 : i < σ.length := by rw [r.r3.l2]; exact hl
  obtain ⟨a, z, _⟩ := r.r3.at_ i _ _ _ e h1 (List.getElem?_eq_getElem h2)
  cases z
/-- a new thing at D is hidden -/
theorem R4.hide (r : R4 K c Hb G L0 L M σ3 σ H) {D : Addr} {o : HO} (hD : H D = none) (ho : vis o = true) : R4 K c (upd H D o) (D :: G) L L M σ3 σ (upd H D o) ∧ Same (vs4 c G L H) (vs4 c (D :: G) L (upd H D o)) := by
  have nD : D ∉ c.S0 ++ G ++ L := fun z => r.r3.there (by rw [S_nons]; exact z) hD
  have l := r.r3.new (o := o) hD
  have eS : ∀ a, a ∈ c.S0 ++ (D :: G) ++ L ↔ a = D ∨ a ∈ c.S0 ++ G ++ L := fun a => by
    simp only [List.mem_cons, List.mem_append]
    exact ⟨fun h => by rcases h with (h | h | h) | h <;> simp [h], fun h => by rcases h with h | (h | h) | h <;> simp [h]⟩
  have hv : Same (vs4 c G L H) (vs4 c (D :: G) L (upd H D o)) := fun a u z => by
    obtain ⟨z1, z2⟩ := hid_some z
    have na : a ≠ D := fun y => by rw [y, hD] at z1; cases z1
    exact hid_mk (by rw [upd_ne na]; exact z1) (fun y => ((eS a).mp y).elim na z2) (hid_vis z)
  have e0 : ∀ n, hid (c.S (G ++ L) (nons n)) H = vs4 c G L H := fun n => by rw [S_nons]
  refine ⟨⟨⟨l.inv, ?_, fun a h => ⟨rfl, ?_⟩, fun a h u e => ?_, by rw [addrs_nons]; exact List.nodup_nil, (by rw [addrs_nons]; intro a h; cases h), r.r3.l1, r.r3.l2, ?_⟩, Same.refl _, fun _ _ => rfl, ⟨r.cells.on, fun a h z => ?_, fun a t e => ?_⟩⟩, hv⟩
  · rw [S_nons, ← List.append_assoc]
    exact Same.refl _
  · by_cases z : a = D
    · subst z
      exact ⟨(by rw [upd_same]; intro y; cases y), fun y => nD (by simp [y])⟩
    · have hm : a ∈ G ++ L := by
        rcases List.mem_append.mp h with h | h
        · exact List.mem_append.mpr (.inl ((List.mem_cons.mp h).resolve_left z))
        · exact List.mem_append.mpr (.inr h)
      rw [upd_ne z]
      exact (r.r3.gk a hm).2
  · by_cases z : a = D
    · subst z
      rw [upd_same] at e
      cases e
      exact c.gV _ ho
    · have hm : a ∈ G ++ L := by
        rcases List.mem_append.mp h with h | h
        · exact List.mem_append.mpr (.inl ((List.mem_cons.mp h).resolve_left z))
        · exact List.mem_append.mpr (.inr h)
      rw [upd_ne z] at e
      exact r.r3.gv a hm u e
  · intro i s o' x h1 h2 h3
    have z := r.r3.at_ i s o' x h1 h2 h3
    rw [e0] at z
    rw [S_nons]
    cases s with
    | no => exact z
    | val t => obtain ⟨e, v, e2, q⟩ := z; exact ⟨e, v, e2, q.mono hv⟩
    | own t =>
      obtain ⟨a, e, _⟩ := z
      have := (List.mem_replicate.mp (List.mem_of_getElem? h2)).2
      rw [this] at e
      cases e
  · have := r.cells.off a h
    rcases List.mem_append.mp z with z | z
    · exact this (by simp [z])
    · rcases List.mem_cons.mp z with z | z
      · subst z; exact nD (by simp [h])
      · exact this (by simp [z])
  · have na : a ≠ D := fun y => by
      subst y
      exact nD (by simp [(r.cells.on a).mpr (by rw [e]; intro z; cases z)])
    exact (r.cells.at_ a t e).mono hv (upd_ne na)
/-- .. is seen again -/
theorem R4.show_ {D : Addr} {Hx : Hp} {Lx : List Addr} (r : R4 K c Hx (D :: G) Lx L M σ3 σ H) (nG : D ∉ c.S0 ++ G) : R4 K c H G L L M σ3 σ H ∧ Same (vs4 c (D :: G) L H) (vs4 c G L H) := by
  have hv : Same (vs4 c (D :: G) L H) (vs4 c G L H) := hid_mono fun a h => by
    simp only [List.mem_cons, List.mem_append] at h ⊢
    rcases h with (h | h) | h <;> simp [h]
  have e0 : ∀ n, hid (c.S (D :: G ++ L) (nons n)) H = vs4 c (D :: G) L H := fun n => by rw [S_nons]
  refine ⟨⟨⟨r.r3.inv, ?_, fun a h => ⟨rfl, (r.r3.gk a ?_).2⟩, fun a h u e => r.r3.gv a ?_ u e, by rw [addrs_nons]; exact List.nodup_nil, (by rw [addrs_nons]; intro a h; cases h), r.r3.l1, r.r3.l2, ?_⟩, Same.refl _, fun _ _ => rfl, ⟨r.cells.on, fun a h z => ?_, fun a t e => (r.cells.at_ a t e).mono hv rfl⟩⟩, hv⟩
  · rw [S_nons, ← List.append_assoc]
    exact Same.refl _
  · rcases List.mem_append.mp h with h | h <;> simp [h]
  · rcases List.mem_append.mp h with h | h <;> simp [h]
  · intro i s o' x h1 h2 h3
    have z := r.r3.at_ i s o' x h1 h2 h3
    rw [e0] at z
    rw [S_nons]
    cases s with
    | no => exact z
    | val t => obtain ⟨e, v, e2, q⟩ := z; exact ⟨e, v, e2, q.mono hv⟩
    | own t =>
      obtain ⟨a, e, _⟩ := z
      have := (List.mem_replicate.mp (List.mem_of_getElem? h2)).2
      rw [this] at e
      cases e
  · exact r.cells.off a h (by rcases List.mem_append.mp z with z | z <;> simp [z])
/-- what is hidden besides may become another -/
theorem R4.hidPut (r : R4 K c Hb G L0 L M σ3 σ H) {D : Addr} {o : HO} (hD : D ∈ G) (h0 : ∀ φ, H D ≠ some (.ext φ)) (ho : vis o = true) : R4 K c (upd H D o) G L L M σ3 σ (upd H D o) ∧ vs4 c G L (upd H D o) = vs4 c G L H := by
  have hv : vs4 c G L (upd H D o) = vs4 c G L H := hid_upd_in (by simp [hD])
  have nD : D ∉ c.S0 := (r.r3.gk D (by simp [hD])).2.2
  have e0 : ∀ n, hid (c.S (G ++ L) (nons n)) H = vs4 c G L H := fun n => by rw [S_nons]
  have inv : c.I (upd H D o) := c.st H _ (fun b hb => upd_ne (fun z => nD (by rw [← z]; exact hb))) (fun b φ e => by
    have : b ≠ D := fun z => h0 _ ((congrArg H z).symm.trans e)
    rw [upd_ne this]; exact e) r.r3.inv
  refine ⟨⟨⟨inv, ?_, fun a h => ⟨rfl, ?_⟩, fun a h u e => ?_, by rw [addrs_nons]; exact List.nodup_nil, (by rw [addrs_nons]; intro a h; cases h), r.r3.l1, r.r3.l2, ?_⟩, Same.refl _, fun _ _ => rfl, ⟨r.cells.on, r.cells.off, fun a t e => ?_⟩⟩, hv⟩
  · rw [S_nons, ← List.append_assoc]
    exact Same.refl _
  · by_cases z : a = D
    · subst z
      exact ⟨(by rw [upd_same]; intro y; cases y), nD⟩
    · rw [upd_ne z]
      exact (r.r3.gk a h).2
  · by_cases z : a = D
    · subst z
      rw [upd_same] at e
      cases e
      exact c.gV _ ho
    · rw [upd_ne z] at e
      exact r.r3.gv a h u e
  · intro i s o' x h1 h2 h3
    have z := r.r3.at_ i s o' x h1 h2 h3
    rw [e0] at z
    rw [S_nons]
    show SlRep K (vs4 c G L (upd H D o)) (upd H D o) s o' x
    rw [hv]
    cases s with
    | no => exact z
    | val t => exact z
    | own t =>
      obtain ⟨a, e, _⟩ := z
      have := (List.mem_replicate.mp (List.mem_of_getElem? h2)).2
      rw [this] at e
      cases e
  · show CellRep K (vs4 c G L (upd H D o)) (upd H D o) a t
    rw [hv]
    refine (r.cells.at_ a t e).mono (Same.refl _) (upd_ne fun z => ?_)
    exact r.cells.off a ((r.cells.on a).mpr (by rw [e]; intro z; cases z)) (by rw [z]; simp [hD])
/-! ### [e for x in xs], e may change cells -/
def comp4 (g : TG3) (tt : B3) (te : E4) (σ : List Sl) (X : XM) (Q : List T → Mem → Prop) : List T → List T → Mem → Prop
  | [], acc, M => Q acc M
  | x :: r, acc, M => g x σ fun σ' => tt σ' (fun b => if b = true then te σ' M (fun y M1 => acc.length < sizeLine ∧ comp4 g tt te σ X Q r (acc ++ [y]) M1) X else comp4 g tt te σ X Q r acc M) (fun x => X x M)
def lc4 (s : A3) (g : TG3) (tt : B3) (te : E4) (vs : List Nat) : E4 := fun σ M Q X => s σ (fun ds => comp4 g tt te (wipe3 σ vs) X (fun ys M1 => Q (.lst ys) M1) ds [] M) (fun x => X x M)
theorem wipe3_length (σ : List Sl) : ∀ vs : List Nat, (wipe3 σ vs).length = σ.length
  | [] => rfl
  | v :: vs => by show ((wipe3 σ vs).set v .no).length = _; rw [List.length_set, wipe3_length σ vs]
theorem lift_lc4 {wk : Bool} {vs : List Nat} {wi : TI} {s : A3} {g : TG} {g3 : TG3} {tt : TT} {b : B3} {te : TE} {e4 : E4} (hi : LiftIB K c wk W wi s) (hg : LiftTgB K c wk vs g g3) (ht : LiftT K c W tt b) (he : Lift4 K c W te e4)
    (hW : ∀ cls dd σ σ' H, W cls dd σ H → W cls dd σ' H) : Lift4 K c W (tLc wi g tt te vs) (lc4 s g3 b e4 vs) := by
  intro σ3 M Q4 X h Hb G L0 L σ H Q R k e
  refine hi _ _ _ h H (G ++ L) (nons σ3.length) σ H _ R.r3 (fun J ds H1 l1 w q => ?_) (fun cls dd x H' l r q => ?_)
  rotate_left
  · rw [S_nons] at r
    exact e cls dd x L M H' (R.le l) l.vis4 r q
  have R1 := R.le l1
  rw [S_nons] at w
  intro D hD
  have nG : D ∉ c.S0 ++ G := fun z => R1.r3.there (by rw [S_nons]; simp only [List.mem_append] at z ⊢; rcases z with z | z <;> simp [z]) hD
  have RW : R4 K c Hb G L0 L M (wipe3 σ3 vs) (wipe σ vs) H1 := R1.slots (R1.r3.wiped (vs := vs) (R1.noOwn vs)) (by intro a h; rw [addrs_nons] at h; cases h)
  obtain ⟨RD, vD⟩ := RW.hide (o := .lst []) hD rfl
  have fin : ∀ L' M' H', R4 K c H' (D :: G) L' L' M' (wipe3 σ3 vs) (wipe σ vs) H' → Same (vs4 c G L H1) (vs4 c (D :: G) L' H') → (∀ a ∈ G, H' a = H1 a) → R4 K c Hb G L0 L' M' σ3 σ H' ∧ Same (vs4 c G L H1) (vs4 c G L' H') ∧ Same (vs4 c (D :: G) L' H') (vs4 c G L' H') := by
    intro L' M' H' R' v' g'
    obtain ⟨RS, vS⟩ := R'.show_ nG
    exact ⟨R1.step RS.r3.inv (Same.trans v' vS) g' RS.cells, Same.trans v' vS, vS⟩
  refine ⟨fun i m H' => m = ds.length - i ∧ i ≤ ds.length ∧ ∃ accV acc L' M', H' D = some (.lst accV) ∧ R4 K c H' (D :: G) L' L' M' (wipe3 σ3 vs) (wipe σ vs) H' ∧ RepL K (vs4 c (D :: G) L' H') accV acc ∧ comp4 g3 b e4 (wipe3 σ3 vs) X (fun ys M1 => Q4 (.lst ys) M1) (ds.drop i) acc M' ∧
    Same (vs4 c G L H1) (vs4 c (D :: G) L' H') ∧ (∀ a ∈ G, H' a = H1 a), ⟨ds.length, rfl, Nat.zero_le _, [], [], L, M, upd_same, RD, .nil, by simpa using q, vD, fun a h => upd_ne (fun z => nG (by rw [← z]; simp [h]))⟩, ?_⟩
  rintro i m H2 ⟨rfl, hi, accV, acc, L2, M2, hd2, R2, racc, q2, vis, gk2⟩
  obtain ⟨F1, F2, F3⟩ := fin L2 M2 H2 R2 vis gk2
  by_cases hl : i = ds.length
  · subst hl
    left
    refine ⟨w.stop _ _ F2, ?_⟩
    have e' : ds.drop ds.length = [] := List.drop_length
    rw [e'] at q2
    have nD2 : D ∉ c.S0 ++ G ++ L2 := fun z => by
      rcases List.mem_append.mp z with z | z
      · exact nG z
      · exact R2.cells.off D z (by simp)
    exact k _ _ L2 M2 H2 F1 (Same.trans l1.vis4 F2) (.mkL (hid_mk hd2 nD2) (racc.mono F3)) q2
  · right
    have hlt : i < ds.length := Nat.lt_of_le_of_ne hi hl
    have hdd : ds[i]? = some ds[i] := List.getElem?_eq_getElem hlt
    rw [List.drop_eq_getElem_cons hlt] at q2
    refine ⟨w.go i _ _ _ hdd F2, fun H3 => ∃ accV acc L' M', H3 D = some (.lst accV) ∧ R4 K c H3 (D :: G) L' L' M' (wipe3 σ3 vs) (wipe σ vs) H3 ∧ RepL K (vs4 c (D :: G) L' H3) accV acc ∧ comp4 g3 b e4 (wipe3 σ3 vs) X (fun ys M1 => Q4 (.lst ys) M1) (ds.drop (i + 1)) acc M' ∧
      Same (vs4 c G L H1) (vs4 c (D :: G) L' H3) ∧ (∀ a ∈ G, H3 a = H1 a), ?_, ?_⟩
    · rintro H3 ⟨accV, acc, z⟩
      exact ⟨ds.length - (i + 1), by omega, rfl, hlt, accV, acc, z⟩
    · intro x H3 y
      obtain ⟨hn, rx⟩ := w.yld i _ (c.S0 ++ (D :: G) ++ L2) _ x H3 hdd vis (fun a h => R2.r3.there (by rw [S_nons]; exact h)) y
      have l3 : Le c (D :: G ++ L2) (nons (wipe3 σ3 vs).length) H2 H3 := by
        rcases hn with rfl | ⟨p, o, hp, rfl⟩
        · exact Le.refl R2.r3.inv
        · exact R2.r3.new hp
      have R3' := R2.le l3
      have exn : ∀ (σ' : St) cls dd x L' M' (σx : List Sl) H', R4 K c H2 (D :: G) L2 L' M' σx σ' H' → XRep K (vs4 c (D :: G) L' H') cls dd x → X x M' → W cls dd σ' H' := fun σ' cls dd x L' M' σx H' R' r hx => by
        have R5 : R4 K c H2 (D :: G) L2 L' M' (wipe3 σ3 vs) (wipe σ vs) H' := R2.step R'.r3.inv R'.base R'.gk R'.cells
        obtain ⟨f1, f2, f3⟩ := fin L' M' H' R5.rebase (Same.trans vis R5.base) (fun a h => (R5.gk a (by simp [h])).trans (gk2 a h))
        refine hW cls dd σ σ' H' (e cls dd x L' M' H' f1 (Same.trans l1.vis4 f2) ?_ hx)
        obtain ⟨r1, r2⟩ := r
        refine ⟨r1, ?_⟩
        cases dd with
        | none => exact r2
        | some d =>
          obtain ⟨fs, g1, g2, g3⟩ := r2
          exact ⟨fs, f3 _ _ g1, g2, g3.mono f3⟩
      refine hg _ _ _ q2 H3 (D :: G ++ L2) (nons (wipe3 σ3 vs).length) (wipe σ vs) H3 x _ R3'.r3 (by rw [S_nons]; exact rx) (fun A4 σ4 σ4' H4 R4a e4' st q4 => ?_)
      subst e4'
      have hA4 : ∀ a, a ∉ addrs A4 := fun a h => by
        have := st.2.2 a h
        rw [addrs_nons] at this
        cases this
      refine ⟨?_, ?_⟩
      · rw [wipe_eq st.1 (fun j hj => (st.2.1 j hj).1), wipe_wipe]
      have R4b := R3'.slots R4a hA4
      refine ht _ _ _ q4 H4 (D :: G ++ L2) (nons σ4.length) σ4' H4 _ R4b.r3 (fun v d H5 l5 r5 q5 => ?_) (fun cls dd x H5 l5 r5 q5 => ?_)
      rotate_left
      · rw [S_nons] at r5
        exact exn σ4' cls dd x L2 M2 σ4 H5 (R4b.le l5) r5 q5
      subst r5
      have R5 : R4 K c H2 (D :: G) L2 L2 M2 σ4 σ4' H5 := R4b.le l5
      cases v with
      | false =>
        rw [if_neg (by decide)]
        have q5' : comp4 g3 b e4 (wipe3 σ3 vs) X (fun ys M1 => Q4 (.lst ys) M1) (ds.drop (i + 1)) acc M2 := by simpa using q5
        have R6 : R4 K c H2 (D :: G) L2 L2 M2 (wipe3 σ3 vs) (wipe σ vs) H5 := R2.step R5.r3.inv R5.base R5.gk R5.cells
        exact ⟨accV, acc, L2, M2, (R6.gk D (by simp)).trans hd2, R6.rebase, racc.mono R6.base, q5', Same.trans vis R6.base, fun a h => (R6.gk a (by simp [h])).trans (gk2 a h)⟩
      | true =>
        rw [if_pos rfl]
        have q5' : e4 σ4 M2 (fun y M1 => acc.length < sizeLine ∧ comp4 g3 b e4 (wipe3 σ3 vs) X (fun ys M1 => Q4 (.lst ys) M1) (ds.drop (i + 1)) (acc ++ [y]) M1) X := by simpa using q5
        refine he _ _ _ _ q5' H2 (D :: G) L2 L2 σ4' H5 _ R5 (fun v d L6 M6 H6 R6 s6 r6 q6 => ?_) (fun cls dd x L6 M6 H6 R6 s6 r6 q6 => exn σ4' cls dd x L6 M6 σ4 H6 R6 r6 q6)
        have R7 : R4 K c H2 (D :: G) L2 L6 M6 (wipe3 σ3 vs) (wipe σ vs) H6 := R2.step R6.r3.inv R6.base R6.gk R6.cells
        have hd6 : H6 D = some (.lst accV) := (R7.gk D (by simp)).trans hd2
        obtain ⟨R8, v8⟩ := R7.hidPut (D := D) (o := .lst (accV ++ [v])) (by simp) (fun φ z => by rw [hd6] at z; cases z) rfl
        refine ⟨accV, hd6, by rw [racc.length]; exact q6.1, accV ++ [v], acc ++ [d], L6, M6, upd_same, R8, ?_, q6.2, ?_, fun a h => ?_⟩
        · rw [v8]
          exact (racc.mono R7.base).append (.cons r6 .nil)
        · rw [v8]
          exact Same.trans vis R7.base
        · rw [upd_ne (fun z => nG (by rw [← z]; simp [h]))]
          exact (R7.gk a (by simp [h])).trans (gk2 a h)
end
end M3

/-! L6E: cells looked at as trees; cells given away. -/
namespace M3
open PySem L2
/-! ### trees of tuples alone -/
mutual
def tupO : T → Bool
  | .tup xs => tupOL xs
  | .lst _ => false
  | .dic _ => false
  | .ins _ _ => false
  | _ => true
def tupOL : List T → Bool
  | [] => true
  | x :: xs => tupO x && tupOL xs
end
theorem tupOL_get : ∀ {xs : List T} {i : Nat} {x : T}, tupOL xs = true → xs[i]? = some x → tupO x = true
  | [], i, x, _, h => by simp at h
  | y :: xs, 0, x, h, e => by
    simp at e
    subst e
    simp only [tupOL, Bool.and_eq_true] at h
    exact h.1
  | y :: xs, i + 1, x, h, e => by
    simp only [tupOL, Bool.and_eq_true] at h
    exact tupOL_get (i := i) h.2 (by simpa using e)
theorem rep_tupO {K : PySem.W.Frag} {S S' : List Addr} {H : Hp} {v : V} {d : T} (r : Rep K (hid S H) v d) (hS : ∀ a ∈ S', a ∉ S → ∀ o vs, H a ≠ some (.frz o (.tup vs))) : tupO d = true → Rep K (hid S' H) v d := by
  induction r with
  | non => exact fun _ => .non
  | bl b => exact fun _ => .bl b
  | int i => exact fun _ => .int i
  | str x => exact fun _ => .str x
  | ty n => exact fun _ => .ty n
  | ref a => exact fun _ => .ref a
  | @tup a vs ts h hl hr ih =>
    intro q
    have q : tupOL ts = true := by simpa [tupO] using q
    refine .tup ?_ hl fun i v t h1 h2 => ih i v t h1 h2 (tupOL_get q h2)
    rcases h with ⟨o, d, e⟩ | h
    · obtain ⟨e1, e2⟩ := hid_some e
      exact .inl ⟨o, d, hid_mk e1 fun z => hS a z e2 o vs e1⟩
    · exact .inr h
  | lst h hl _ ih => intro q; simp [tupO] at q
  | dic h hk _ ih => intro q; simp [tupO] at q
  | ins h hk _ ih => intro q; simp [tupO] at q
/-! ### a look at list cells -/
def vwAll (M : Mem) : List Nat → List Sl → Option (List Sl)
  | [], σ => some σ
  | i :: is, σ => (vwAll M is σ).bind fun σ1 => match σ1[i]? with
    | some (.val (.ref a)) => (cellL M a).map fun xs => σ1.set i (.val (.lst xs))
    | _ => none
/-- t with the slots is seen as what their cells hold; what comes of it is no list -/
def vw4 (is : List Nat) (t : E3) : E4 := fun σ M Q _ => ob (vwAll M is σ) fun σ' => t σ' (fun d => tupO d = true ∧ Q d M) (fun _ => False)
def vwB4 (is : List Nat) (t : B3) : B4 := fun σ M Q _ => ob (vwAll M is σ) fun σ' => t σ' (fun d => Q d M) (fun _ => False)
section
variable {K : PySem.W.Frag} {c : Cf} {Hb H H' : Hp} {G L0 L L' : List Addr} {M M' : Mem} {σ3 : List Sl} {σ : St} {W : WX}
/-- the cells that are no lists -/
def noL (M : Mem) (L : List Addr) : List Addr := L.filter fun a => (cellL M a).isNone
theorem noL_sub {a : Addr} (h : a ∈ noL M L) : a ∈ L := (List.mem_filter.mp h).1
theorem S_noL : ∀ a ∈ c.S0 ++ G ++ noL M L, a ∈ c.S0 ++ G ++ L := fun a h => by
  rcases List.mem_append.mp h with h | h
  · exact List.mem_append.mpr (.inl h)
  · exact List.mem_append.mpr (.inr (noL_sub h))
theorem R4.view (r : R4 K c Hb G L0 L M σ3 σ H) : R3 K c H (G ++ noL M L) (nons σ3.length) σ3 σ H := by
  have e0 : ∀ n, hid (c.S (G ++ L) (nons n)) H = vs4 c G L H := fun n => by rw [S_nons]
  have hm : ∀ a, a ∈ G ++ noL M L → a ∈ G ++ L := fun a h => by
    rcases List.mem_append.mp h with h | h
    · exact List.mem_append.mpr (.inl h)
    · exact List.mem_append.mpr (.inr (noL_sub h))
  refine ⟨r.r3.inv, ?_, fun a h => ⟨rfl, (r.r3.gk a (hm a h)).2⟩, fun a h => r.r3.gv a (hm a h), by rw [addrs_nons]; exact List.nodup_nil, (by rw [addrs_nons]; intro a h; cases h), r.r3.l1, r.r3.l2, ?_⟩
  · rw [S_nons, ← List.append_assoc]
    exact Same.refl _
  · intro i s o' x h1 h2 h3
    have z := r.r3.at_ i s o' x h1 h2 h3
    rw [e0] at z
    rw [S_nons]
    cases s with
    | no => exact z
    | val t => obtain ⟨e, v, e2, q⟩ := z; exact ⟨e, v, e2, q.mono (hid_mono S_noL)⟩
    | own t =>
      obtain ⟨a, e, _⟩ := z
      have := (List.mem_replicate.mp (List.mem_of_getElem? h2)).2
      rw [this] at e
      cases e
theorem set_same {α : Type} {l : List α} {i : Nat} {x : α} (h : l[i]? = some x) : l.set i x = l := by
  apply List.ext_getElem?
  intro j
  by_cases e : i = j
  · subst e
    rw [List.getElem?_set_self (List.getElem?_eq_some_iff.mp h).1, h]
  · rw [List.getElem?_set_ne e]
theorem nons_set {n i : Nat} : (nons n).set i none = nons n := by
  apply List.ext_getElem?
  intro j
  by_cases e : i = j
  · subst e
    by_cases hl : i < n
    · rw [List.getElem?_set_self (by simpa using hl)]
      simp [hl]
    · rw [List.getElem?_eq_none (by simpa using Nat.le_of_not_lt hl), List.getElem?_eq_none (by simpa using Nat.le_of_not_lt hl)]
  · rw [List.getElem?_set_ne e]
theorem R4.views (r : R4 K c Hb G L0 L M σ3 σ H) : ∀ (is : List Nat) (σ' : List Sl), vwAll M is σ3 = some σ' → R3 K c H (G ++ noL M L) (nons σ3.length) σ' σ H
  | [], σ', h => by cases h; exact r.view
  | i :: is, σ', h => by
    have h : (vwAll M is σ3).bind _ = some σ' := h
    cases e : vwAll M is σ3 with
    | none => rw [e] at h; cases h
    | some σ1 =>
      rw [e] at h
      have q := r.views is σ1 e
      have h : (match σ1[i]? with | some (.val (.ref a)) => (cellL M a).map fun xs => σ1.set i (.val (.lst xs)) | _ => none) = some σ' := h
      split at h
      · rename_i a ea
        cases ex : cellL M a with
        | none => rw [ex] at h; cases h
        | some xs =>
          rw [ex] at h
          cases h
          obtain ⟨v, hv, rv⟩ := q.get ea
          cases rv.refI
          obtain ⟨ma, vs, h1, h2⟩ := r.atL (cellL_is ex)
          have nS : a ∉ c.S (G ++ noL M L) (nons σ3.length) := fun z => by
            rw [S_nons] at z
            rcases List.mem_append.mp z with z | z
            · exact r.cells.off a ma z
            · have := (List.mem_filter.mp z).2
              rw [ex] at this
              cases this
          have rl : Rep K (hid (c.S (G ++ noL M L) (nons σ3.length)) H) (.ref a) (.lst xs) := .mkL (hid_mk h1 nS) (h2.mono (by rw [S_nons]; exact hid_mono S_noL))
          have := q.set i rl
          rw [set_same hv, nons_set] at this
          exact this
      · cases h
theorem R4.unview (r : R4 K c Hb G L0 L M σ3 σ H) {n : Nat} (l : Le c (G ++ noL M L) (nons n) H H') : R4 K c Hb G L0 L M σ3 σ H' ∧ Same (vs4 c G L H) (vs4 c G L H') := by
  have lv := l.vis
  rw [S_nons] at lv
  have same : ∀ a ∈ L, H' a = H a := fun a h => by
    by_cases z : a ∈ noL M L
    · exact l.own a (by simp [z])
    · obtain ⟨o, e, v, _⟩ := r.cells.obj h
      have nS : a ∉ c.S0 ++ G ++ noL M L := fun y => by
        rcases List.mem_append.mp y with y | y
        · exact r.cells.off a h y
        · exact z y
      rw [(hid_some (lv _ _ (hid_mk e nS v))).1, e]
  have hv : Same (vs4 c G L H) (vs4 c G L H') := fun a u z => by
    obtain ⟨z1, z2⟩ := hid_some z
    have z3 := lv _ _ (hid_mk z1 (fun y => z2 (S_noL a y)) (hid_vis z))
    exact hid_mk (hid_some z3).1 z2 (hid_vis z)
  exact ⟨r.step l.inv hv (fun a h => l.own a (by simp [h])) ⟨r.cells.on, r.cells.off, fun a t e => (r.cells.at_ a t e).mono hv (same a ((r.cells.on a).mpr (by rw [e]; intro z; cases z)))⟩, hv⟩
theorem lift_vw {is : List Nat} {te : TE} {t : E3} (h : Lift K c W te t) : Lift4 K c W te (vw4 is t) := by
  intro σ3 M Q4 X ht Hb G L0 L σ H Q R k e
  obtain ⟨σ', ev, hq⟩ := ob_iff.mp ht
  have l1 := (R.views is σ' ev).l1
  refine h _ _ _ hq H (G ++ noL M L) (nons σ3.length) σ H Q (R.views is σ' ev) (fun v d H' l r q => ?_) (fun cls dd x H' l r q => q.elim)
  obtain ⟨R', hv⟩ := R.unview l
  rw [S_nons] at r
  refine k v d L M H' R' hv (rep_tupO r (fun a h1 h2 o vs z => ?_) q.1) q.2
  have hL : a ∈ L := by
    rcases List.mem_append.mp h1 with h1 | h1
    · exact absurd (List.mem_append.mpr (.inl h1)) h2
    · exact h1
  cases em : M a with
  | none => exact (R'.cells.on a).mp hL em
  | some t =>
    have := R'.cells.at_ a t em
    cases t with
    | lst xs => obtain ⟨_, e1, _⟩ := this; rw [e1] at z; cases z
    | dic xs => obtain ⟨_, e1, _⟩ := this; rw [e1] at z; cases z
    | ins C xs => obtain ⟨_, _, e1, _⟩ := this; rw [e1] at z; cases z
    | _ => exact this.elim
theorem lift_vwB {is : List Nat} {te : TT} {t : B3} (h : LiftT K c W te t) : LiftT4 K c W te (vwB4 is t) := by
  intro σ3 M Q4 X ht Hb G L0 L σ H Q R k e
  obtain ⟨σ', ev, hq⟩ := ob_iff.mp ht
  refine h _ _ _ hq H (G ++ noL M L) (nons σ3.length) σ H Q (R.views is σ' ev) (fun v d H' l r q => ?_) (fun cls dd x H' l r q => q.elim)
  obtain ⟨R', hv⟩ := R.unview l
  exact k v d L M H' R' hv r q
/-! ### a list cell is given away: it is a tree from here on -/
def thaw4 (M : Mem) (σ : List Sl) (i : Nat) : Option (List Sl × Mem) := match σ[i]? with
  | some (.val (.ref a)) => (cellL M a).map fun xs => (σ.set i (.val (.lst xs)), mset M a none)
  | _ => none
def frz4 (i : Nat) (x : S4) : S4 := fun N σ M => ob (thaw4 M σ i) fun p => x N p.1 p.2
theorem R4.thaw (r : R4 K c Hb G L0 L M σ3 σ H) {i : Nat} {p : List Sl × Mem} (h : thaw4 M σ3 i = some p) : ∃ L', R4 K c Hb G L0 L' p.2 p.1 σ H := by
  unfold thaw4 at h
  split at h
  · rename_i a ea
    cases ex : cellL M a with
    | none => rw [ex] at h; cases h
    | some xs =>
      rw [ex] at h
      cases h
      obtain ⟨ma, vs, h1, h2⟩ := r.atL (cellL_is ex)
      have sub : ∀ b ∈ L.filter (fun b => decide (b ≠ a)), b ∈ L := fun b hb => (List.mem_filter.mp hb).1
      have hv : Same (vs4 c G L H) (vs4 c G (L.filter fun b => decide (b ≠ a)) H) := hid_mono fun b hb => by
        rcases List.mem_append.mp hb with hb | hb
        · exact List.mem_append.mpr (.inl hb)
        · exact List.mem_append.mpr (.inr (sub b hb))
      have R1 : R4 K c Hb G L0 (L.filter fun b => decide (b ≠ a)) (mset M a none) σ3 σ H := by
        refine r.step r.r3.inv hv (fun _ _ => rfl) ⟨fun b => ?_, fun b hb => r.cells.off b (sub b hb), fun b t e => ?_⟩
        · by_cases z : b = a
          · subst z; simp
          · rw [mset_ne z, List.mem_filter]
            simp [z, r.cells.on b]
        · by_cases z : b = a
          · subst z; rw [mset_same] at e; cases e
          · rw [mset_ne z] at e
            exact (r.cells.at_ b t e).mono hv rfl
      refine ⟨L.filter fun b => decide (b ≠ a), ?_⟩
      obtain ⟨v, hσ, rv⟩ := R1.r3.get ea
      cases rv.refI
      have nS : a ∉ c.S0 ++ G ++ L.filter fun b => decide (b ≠ a) := fun z => by
        rcases List.mem_append.mp z with z | z
        · exact r.cells.off a ma z
        · simpa using (List.mem_filter.mp z).2
      have rl : Rep K (hid (c.S (G ++ L.filter fun b => decide (b ≠ a)) (nons σ3.length)) H) (.ref a) (.lst xs) := by
        rw [S_nons]
        exact .mkL (hid_mk h1 nS) (h2.mono hv)
      have q := R1.r3.set i rl
      rw [set_same hσ, nons_set] at q
      exact R1.slots q (by intro b hb; rw [addrs_nons] at hb; cases hb)
  · cases h
theorem lift_frz4 {i : Nat} {ts : TS} {x : S4} (h : LiftS4 K c W ts x) : LiftS4 K c W ts (frz4 i x) := by
  intro N σ3 M hh Hb G L0 L σ H D R Z
  obtain ⟨p, ep, q⟩ := ob_iff.mp hh
  obtain ⟨L', R'⟩ := R.thaw ep
  exact h _ _ _ q Hb G L0 L' σ H D R' Z
end
end M3

/-! L6F: the law's own body over cells; defs that draw from the pot and change cells; ways to prove. -/
namespace M3
open PySem L2
theorem law_rest4 {K : PySem.W.Frag} {p cc : Addr} {Ts : List (Addr × Str)} {W : WX} {t : TS} {x : S4} {H : Hp} {Q : VK} {a : Addr} (m : Nat) (lt : LiftS4 K (potT p cc Ts) W t x) (hp : PotAt p cc H) (ht : LamX.Tabs Ts H) (hQ : ∀ H', Q (.bl true) H')
    (hx : x { nx := fun _ _ => False, rt := fun d _ => d = .bl true } (Sl.no :: Sl.val (.ref p) :: List.replicate m Sl.no) (fun _ => none)) : t { nx := fun _ H' => Q .non H', rt := Q } (some (V.ref a) :: some (V.ref p) :: List.replicate m none) H := by
  have r := r3_pot (K := K) (Ts := Ts) m a hp ht
  have hA := nons_of (A := _) (fun b (hb : b ∈ addrs _) => by
    have := r.ns b hb
    exact absurd hb (by
      intro z
      have h2 := mem_addrs.mp z
      simp at h2))
  rw [r.l1] at hA
  rw [hA] at r
  have R0 : R4 K (potT p cc Ts) H [] [] [] (fun _ => none) (Sl.no :: Sl.val (.ref p) :: List.replicate m Sl.no) (some (V.ref a) :: some (V.ref p) :: List.replicate m none) H :=
    ⟨r.re, Same.refl _, fun _ h => (by cases h), ⟨fun b => by simp, fun b h => (by cases h), fun b t e => by cases e⟩⟩
  refine lt _ _ _ hx H [] [] [] _ H _ R0 ⟨fun _ _ _ _ _ _ z => z.elim, fun v d L' M' H' _ rv e => ?_, fun _ _ _ _ _ _ z => z.elim, fun _ _ _ _ _ _ z => z.elim, fun _ _ _ _ _ _ _ _ _ _ z => z.elim⟩
  subst e
  rw [rv.blI]
  exact hQ H'
/-! ### ways to prove -/
theorem seq4_by {t u : S4} {N : N4} {σ : List Sl} {M : Mem} (P : List Sl → Mem → Prop) (h : ∀ nx : List Sl → Mem → Prop, (∀ σ' M', P σ' M' → nx σ' M') → t { N with nx := nx } σ M) (k : ∀ σ' M', P σ' M' → u N σ' M') : seq4 t u N σ M := h (u N) k
theorem ifs4_by {z : B4} {t u : S4} {N : N4} {σ : List Sl} {M : Mem} (b : Bool) (hz : ∀ Q X, Q b M → z σ M Q X) (h : if b = true then t N σ M else u N σ M) : ifs4 z t u N σ M := hz _ _ h
theorem loop4_inv {g : TG3} {tb : S4} {N : N4} (P : List T → List Sl → Mem → Prop) : ∀ (ds : List T) (σ : List Sl) (M : Mem), P ds σ M → (∀ σ M, P [] σ M → N.nx σ M) →
    (∀ x r σ M, P (x :: r) σ M → g x σ fun σ' => ∀ nx : List Sl → Mem → Prop, (∀ σ2 M2, P r σ2 M2 → nx σ2 M2) → tb { nx := nx, ct := nx, bk := N.nx, rt := N.rt, xn := N.xn } σ' M) →
    (∀ d σ (Q Q' : List Sl → Prop), (∀ σ, Q σ → Q' σ) → g d σ Q → g d σ Q') → loop4 g tb N ds σ M
  | [], σ, M, h, h0, hs, hm => h0 σ M h
  | x :: r, σ, M, h, h0, hs, hm => hm _ _ _ _ (fun σ' q => q (loop4 g tb N r) fun σ2 M2 h2 => loop4_inv P r σ2 M2 h2 h0 hs hm) (hs x r σ M h)
theorem loop4_name {i : Nat} {tb : S4} {N : N4} (P : List T → List Sl → Mem → Prop) (ds : List T) (σ : List Sl) (M : Mem) (h : P ds σ M) (h0 : ∀ σ M, P [] σ M → N.nx σ M)
    (hs : ∀ x r σ M, P (x :: r) σ M → ∀ nx : List Sl → Mem → Prop, (∀ σ2 M2, P r σ2 M2 → nx σ2 M2) → tb { nx := nx, ct := nx, bk := N.nx, rt := N.rt, xn := N.xn } (σ.set i (.val x)) M) : loop4 (name3 i) tb N ds σ M :=
  loop4_inv P ds σ M h h0 (fun x r σ M hp => fun nx hn => hs x r σ M hp nx hn) (fun d σ Q Q' hq h => hq _ h)
theorem for4_by {s : A3} {g : TG3} {tb : S4} {N : N4} {σ : List Sl} {M : Mem} (P : List T → Prop) (hs : ∀ Q X, (∀ ds, P ds → Q ds) → s σ Q X) (k : ∀ ds, P ds → loop4 g tb N ds σ M) : for4 s g tb N σ M := hs _ _ k
/-! ### a def that draws from the pot and may change cells -/
def spP4 (K : PySem.W.Frag) (n : Nat) (f : F4) : Sp := fun vs H Q E => ∃ p cc G L M ds, PotAt p cc H ∧ (∀ a ∈ G, H a ≠ none ∧ a ∉ (potCf p cc).S0) ∧ Cells K ((potCf p cc).S0 ++ G) L M H ∧ (T.ref p :: ds).length = n ∧ RepL K (vs4 (potCf p cc) G L H) vs (T.ref p :: ds) ∧ ∃ Q4 X4, f (T.ref p :: ds) M Q4 X4 ∧
  (∀ v d L' M' H', PotAt p cc H' → Same (vs4 (potCf p cc) G L H) (vs4 (potCf p cc) G L' H') → (∀ a ∈ G, H' a = H a) → Cells K ((potCf p cc).S0 ++ G) L' M' H' → Rep K (vs4 (potCf p cc) G L' H') v d → Q4 d M' → Q v H') ∧
  (∀ cls dd x L' M' H', PotAt p cc H' → Same (vs4 (potCf p cc) G L H) (vs4 (potCf p cc) G L' H') → (∀ a ∈ G, H' a = H a) → Cells K ((potCf p cc).S0 ++ G) L' M' H' → XRep K (vs4 (potCf p cc) G L' H') cls dd x → X4 x M' → E cls dd H')
end M3

/-! L6G: dicts: written ones, copies; they are trees from their birth, or cells; get. -/
namespace M3
open PySem L2
/-- a new dict is known whole from its birth -/
def tFzD (te : TE) : TE := fun σ H Q => te σ H fun x H1 => ∃ p kvs, x = .ref p ∧ H1 p = some (.dK kvs) ∧ ∀ o, Q x (upd H1 p (.frz o (.dK kvs)))
theorem pe_fzD {X : Cx} {e : Expr} {te : TE} (h : PE X e te) : PE X e (tFzD te) := by
  constructor
  intro pins s σ H Q I hq
  refine thn (h.run pins s σ H _ I hq) ?_
  rintro v s1 ⟨x, H1, I1, r1, p, kvs, rfl, hp, q⟩
  have ok := I1.hok p _ hp
  obtain ⟨z, y, vs, rel, o, es, ep, eo, ro⟩ := id ok
  refine ⟨.ref p, upd H1 p (.frz o (.dK kvs)), ?_, r1, q o⟩
  have := I1.write (x := p) (e := p) (o := .frz o (.dK kvs)) (h' := s1.heap) (t' := s1.toks) (by rw [hp]; exact trivial) (.inl rfl) (fun b u _ e => e) ⟨o, eo⟩ ⟨eo, z, y, vs, rel, o, es, ep, eo, ro⟩
  exact this
structure FrK (K : PySem.W.Frag) (c : Cf) (G : List Addr) (A : List (Option Addr)) (H H' : Hp) (D : Addr) (kvs : List (Key × V)) (ts : List (Key × T)) : Prop where
  nD : D ∉ c.S G A
  vis : Same (hid (c.S G A) H) (hid (D :: c.S G A) H')
  own : ∀ a ∈ G ++ addrs A, H' a = H a
  inv : c.I H'
  at_ : H' D = some (.dK kvs)
  key : kvs.map (·.1) = ts.map (·.1)
  rep : RepL K (hid (D :: c.S G A) H') (kvs.map (·.2)) (ts.map (·.2))
/-- an expression that makes a new dict -/
def LiftFrK (K : PySem.W.Frag) (c : Cf) (W : WX) (te : TE) (t : E3) : Prop :=
  ∀ σ3 Q3 X, t σ3 Q3 X → ∀ Hb G A σ H Q, R3 K c Hb G A σ3 σ H →
    (∀ D kvs ts H', FrK K c G A H H' D kvs ts → Q3 (.dic ts) → Q (.ref D) H') →
    (∀ cls dd x H', Le c G A H H' → XRep K (hid (c.S G A) H') cls dd x → X x → W cls dd σ H') → te σ H Q
section
variable {K : PySem.W.Frag} {c : Cf} {W : WX} {te : TE} {t : E3} {Hb H H' : Hp} {G : List Addr} {A : List (Option Addr)} {σ3 : List Sl} {σ : St}
theorem rep_dic {Hv : Hp} {a : Addr} {o : Obj} {kvs : List (Key × V)} {ts : List (Key × T)} (h : Hv a = some (.frz o (.dK kvs))) (hk : kvs.map (·.1) = ts.map (·.1)) (r : RepL K Hv (kvs.map (·.2)) (ts.map (·.2))) : Rep K Hv (.ref a) (.dic ts) := .dic ⟨o, h⟩ hk fun i v t e1 e2 => r.at e1 e2
theorem lift_fzD (h : LiftFrK K c W te t) : Lift K c W (tFzD te) t := by
  intro σ3 Q3 X ht Hb G A σ H Q R k e
  refine h _ _ _ ht Hb G A σ H _ R (fun D kvs ts H' f q => ⟨D, kvs, rfl, f.at_, fun o => ?_⟩) e
  have sm : Same (hid (D :: c.S G A) H') (hid (c.S G A) (upd H' D (.frz o (.dK kvs)))) := fun a u z => by
    obtain ⟨z1, z2⟩ := hid_some z
    have na : a ≠ D := fun y => z2 (by rw [y]; exact List.mem_cons_self ..)
    exact hid_mk (by rw [upd_ne na]; exact z1) (fun y => z2 (List.mem_cons_of_mem _ y)) (hid_vis z)
  have l : Le c G A H (upd H' D (.frz o (.dK kvs))) := by
    refine ⟨Same.trans f.vis sm, fun a ha => ?_, c.st H' _ (fun a ha => upd_ne fun z => f.nD (mem_S.mpr (.inl (by rw [← z]; exact ha)))) (fun a φ z => ?_) f.inv⟩
    · rw [upd_ne fun z => f.nD (mem_S.mpr (by rw [← z]; rcases List.mem_append.mp ha with z | z; exact .inr (.inl z); exact .inr (.inr z)))]
      exact f.own a ha
    · rw [upd_ne fun y => by rw [y, f.at_] at z; cases z]; exact z
  exact k _ _ _ l (rep_dic (hid_mk upd_same f.nD) f.key (f.rep.mono sm)) q
/-- .. that is a cell -/
def newD4 (t : E3) : E4 := fun σ M Q X => t σ (fun d => ob (asD d) fun ts => ∀ p, M p = none → Q (.ref p) (mset M p (some (.dic ts)))) (fun x => X x M)
theorem lift_newD (h : LiftFrK K c W te t) : Lift4 K c W te (newD4 t) := by
  intro σ3 M Q4 X ht Hb G L0 L σ H Q R k e
  refine h _ _ _ ht H (G ++ L) (nons σ3.length) σ H _ R.r3 (fun D kvs ts H' f q => ?_) (fun cls dd x H' l r q => ?_)
  · have nD := f.nD
    have fv := f.vis
    have fr := f.rep
    rw [S_nons] at nD fv fr
    have mD : M D = none := by
      cases e : M D with
      | none => rfl
      | some t => exact absurd (by simp [(R.cells.on D).mpr (by rw [e]; intro z; cases z)]) nD
    have hS : ∀ a, a ∈ D :: (c.S0 ++ G ++ L) ↔ a ∈ c.S0 ++ G ++ (D :: L) := fun a => by
      simp only [List.mem_cons, List.mem_append]
      exact ⟨fun h => by rcases h with h | (h | h) | h <;> simp [h], fun h => by rcases h with (h | h) | h | h <;> simp [h]⟩
    have sm : Same (hid (D :: (c.S0 ++ G ++ L)) H') (vs4 c G (D :: L) H') := hid_mono fun a z => (hS a).mpr z
    have vis : Same (vs4 c G L H) (vs4 c G (D :: L) H') := Same.trans fv sm
    have R' : R4 K c Hb G L0 (D :: L) (mset M D (some (.dic ts))) σ3 σ H' := by
      refine R.step f.inv vis (fun a h => f.own a (by simp [h])) ⟨fun a => ?_, fun a h => ?_, fun a t' e => ?_⟩
      · by_cases z : a = D
        · subst z; simp
        · rw [mset_ne z, List.mem_cons]
          exact ⟨fun h => (R.cells.on a).mp (h.resolve_left z), fun h => .inr ((R.cells.on a).mpr h)⟩
      · rcases List.mem_cons.mp h with rfl | h
        · exact fun z => nD (by simp at z ⊢; rcases z with z | z <;> simp [z])
        · exact R.cells.off a h
      · by_cases z : a = D
        · subst z
          rw [mset_same] at e
          cases e
          exact ⟨kvs, f.at_, f.key, fr.mono sm⟩
        · rw [mset_ne z] at e
          exact (R.cells.at_ a t' e).mono vis (f.own a (by simp [(R.cells.on a).mpr (by rw [e]; intro z; cases z)]))
    exact k _ _ (D :: L) _ H' R' vis (.ref D) (q D mD)
  · rw [S_nons] at r
    exact e cls dd x L M H' (R.le l) l.vis4 r q
theorem R3.frK (r : R3 K c Hb G A σ3 σ H) {D : Addr} {kvs : List (Key × V)} {ts : List (Key × T)} (h : H D = none) (hk : kvs.map (·.1) = ts.map (·.1)) (q : RepL K (hid (c.S G A) H) (kvs.map (·.2)) (ts.map (·.2))) : FrK K c G A H (upd H D (.dK kvs)) D kvs ts := by
  have L := r.new (o := .dK kvs) h
  have v : Same (hid (c.S G A) H) (hid (D :: c.S G A) (upd H D (.dK kvs))) := by
    rw [hid_upd_in (List.mem_cons_self ..)]
    intro a o e
    obtain ⟨e1, e2⟩ := hid_some e
    exact hid_mk e1 (fun z => by
      rcases List.mem_cons.mp z with z | z
      · rw [z, h] at e1; cases e1
      · exact e2 z) (hid_vis e)
  exact ⟨r.free h, v, L.own, L.inv, upd_same, hk, q.mono v⟩
/-! ### dict(d) -/
def copyD3 (x : A3) : E3 := fun σ Q X => x σ (fun ds => ob (one ds) fun d => ob (asD d) fun ts => Q (.dic ts)) X
theorem Rep.dicK {Hv : Hp} {v : V} {ts : List (Key × T)} (r : Rep K Hv v (.dic ts)) : ∃ a o kvs, v = .ref a ∧ Hv a = some (.frz o (.dK kvs)) ∧ kvs.map (·.1) = ts.map (·.1) ∧ RepL K Hv (kvs.map (·.2)) (ts.map (·.2)) := by
  cases r with
  | dic h hk hr =>
    obtain ⟨o, h⟩ := h
    exact ⟨_, o, _, rfl, h, hk, repL_mk (by have := congrArg List.length hk; simpa using this) hr⟩
theorem lift_frCopy {ta : TA} {x : A3} (ha : LiftA K c W ta x) : LiftFrK K c W (tCB (fun xs H Q => ∃ (a : Addr) (kvs : List (Key × V)), xs = [.ref a] ∧ Rd H a (.dK kvs) ∧ ∀ p, H p = none → Q (.ref p) (upd H p (.dK kvs))) ta) (copyD3 x) := by
  intro σ3 Q3 X h Hb G A σ H Q R k e
  refine ha _ _ _ h Hb G A σ H _ R (fun vs ds H1 L1 rx hx => ?_) e
  obtain ⟨d, ed, h1⟩ := ob_iff.mp hx
  obtain ⟨ts, et, q⟩ := ob_iff.mp h1
  cases one_is ed
  cases asD_is et
  obtain ⟨v, rfl, r⟩ := repL_one rx
  obtain ⟨a, o, kvs, rfl, ha', hk, rl⟩ := r.dicK
  refine ⟨a, kvs, rfl, .inr ⟨o, (hid_some ha').1⟩, fun p hp => ?_⟩
  have f := (R.le L1).frK (D := p) hp hk rl
  exact k p kvs ts _ ⟨f.nD, Same.trans L1.vis f.vis, fun a ha => (f.own a ha).trans (L1.own a ha), f.inv, f.at_, f.key, f.rep⟩ q
/-! ### {"a": e, ..} -/
inductive PsR (K : PySem.W.Frag) (c : Cf) (W : WX) : List (TE × TE) → List (Str × E3) → Prop
  | nil : PsR K c W [] []
  | cons {k : Str} {te : TE} {e : E3} {ps : List (TE × TE)} {es : List (Str × E3)} (h : Lift K c W te e) (q : PsR K c W ps es) : PsR K c W ((tC (.str k), te) :: ps) ((k, e) :: es)
def vals3 : List (Str × E3) → A3
  | [] => nil3
  | (_, e) :: es => cons3 e (vals3 es)
def disp3 (es : List (Str × E3)) : E3 := fun σ Q X => vals3 es σ (fun ds => es.length ≤ 15 ∧ Q (.dic (mrgT [] (((es.map (·.1)).zip ds).map fun p => (.inr p.1, p.2))))) X
theorem zipK {Hv : Hp} : ∀ {ks : List Str} {vs : List V} {ds : List T}, ks.length = ds.length → RepL K Hv vs ds → RepD K Hv ((ks.zip vs).map fun p => (.inr p.1, p.2)) ((ks.zip ds).map fun p => (.inr p.1, p.2))
  | [], _, _, _, _ => by simp; exact .nil
  | _ :: _, _, [], h, _ => by simp at h
  | _ :: ks, _, _ :: ds, h, .cons r rs => .cons ⟨rfl, r⟩ (zipK (by simpa using h) rs)
/-- a dict that is not yet known whole is part of no tree -/
theorem rep_off {S : List Addr} {Hx : Hp} {p : Addr} {kvs : List (Key × V)} (hp : Hx p = some (.dK kvs)) {v : V} {d : T} (r : Rep K (hid S Hx) v d) : Rep K (hid (p :: S) Hx) v d := by
  have off : ∀ a o, hid S Hx a = some o → (∀ k, o ≠ .dK k) → hid (p :: S) Hx a = some o := fun a o z n => by
    obtain ⟨z1, z2⟩ := hid_some z
    exact hid_mk z1 (fun y => by
      rcases List.mem_cons.mp y with y | y
      · rw [y, hp] at z1; cases z1; exact n _ rfl
      · exact z2 y) (hid_vis z)
  induction r with
  | non => exact .non
  | bl b => exact .bl b
  | int i => exact .int i
  | str x => exact .str x
  | ty n => exact .ty n
  | ref a => exact .ref a
  | tup h hl _ ih =>
    refine .tup ?_ hl ih
    rcases h with ⟨o, d, e⟩ | h
    · exact .inl ⟨o, d, off _ _ e fun k z => by cases z⟩
    · exact .inr h
  | lst h hl _ ih => exact .lst (off _ _ h fun k z => by cases z) hl ih
  | dic h hk _ ih => exact .dic (let ⟨o, q⟩ := h; ⟨o, off _ _ q fun k z => by cases z⟩) hk ih
  | ins h hk _ ih => exact .ins (off _ _ h fun k z => by cases z) hk ih
theorem lift_frDisp {ps : List (TE × TE)} {es : List (Str × E3)} (h : PsR K c W ps es) : LiftFrK K c W (tDisp ps) (disp3 es) := by
  intro σ3 Q3 X hq Hb G A σ H Q R k e p hp
  have L0 := R.new (o := .dK []) hp
  have R0 := R.le L0
  have nP : p ∉ c.S G A := R.free hp
  have go : ∀ {ps : List (TE × TE)} {es : List (Str × E3)}, PsR K c W ps es → ∀ (Q3 : List T → Prop) (H1 : Hp), Le c G A (upd H p (.dK [])) H1 → vals3 es σ3 Q3 X → ∀ (Q : List (V × V) → Hp → Prop),
      (∀ vs ds H', Le c G A H1 H' → RepL K (hid (c.S G A) H') vs ds → ds.length = es.length → Q3 ds → Q (((es.map (·.1)).zip vs).map fun q => (.str q.1, q.2)) H') → tPairs ps σ H1 Q := by
    intro ps es hps
    induction hps with
    | nil => intro Q3 H1 l hq Q kk; exact kk [] [] H1 (Le.refl l.inv) .nil rfl hq
    | @cons kx te ex ps es hx hps ih =>
      intro Q3 H1 l hq Q kk
      show te σ H1 _
      refine hx _ _ _ hq Hb G A σ H1 _ (R0.le l) (fun v d H2 l2 rv q2 => ?_) (fun cls dd x H' l' r q => e cls dd x H' ((L0.trans l).trans l') r q)
      refine ih _ H2 (l.trans l2) q2 _ (fun vs ds H3 l3 rs hl q3 => ?_)
      exact kk (v :: vs) (d :: ds) H3 (l2.trans l3) (.cons (rv.mono l3.vis) rs) (by simp [hl]) q3
  refine go h _ _ (Le.refl L0.inv) hq _ (fun vs ds H' l rs hl q => ?_)
  have at1 : H' p = some (.dK []) := (hid_some (l.vis _ _ (R.newAt (o := .dK []) hp))).1
  have kl : (es.map (·.1)).length = ds.length := by rw [List.length_map, hl]
  have lv := rs.length
  refine ⟨at1, ((es.map (·.1)).zip vs).map fun q => (.inr q.1, q.2), by rw [List.map_map]; rfl, by simp; omega, ?_⟩
  have sm : Same (hid (c.S G A) H) (hid (p :: c.S G A) (upd H' p (.dK (mergeK [] (((es.map (·.1)).zip vs).map fun q => (.inr q.1, q.2)))))) := by
    rw [hid_upd_in (List.mem_cons_self ..)]
    intro a u z
    obtain ⟨z1, z2⟩ := hid_some z
    have na : a ≠ p := fun y => by rw [y, hp] at z1; cases z1
    have := (hid_some (l.vis _ _ (L0.vis _ _ z))).1
    exact hid_mk this (fun y => by
      rcases List.mem_cons.mp y with y | y
      · exact na y
      · exact z2 y) (hid_vis z)
  have hv : hid (p :: c.S G A) (upd H' p (.dK (mergeK [] (((es.map (·.1)).zip vs).map fun q => (.inr q.1, q.2))))) = hid (p :: c.S G A) H' := hid_upd_in (List.mem_cons_self ..)
  have rs2 : RepL K (hid (p :: c.S G A) H') vs ds := Paired.mapP rs fun _ _ z => rep_off at1 z
  have rd : RepD K (hid (p :: c.S G A) H') (mergeK [] (((es.map (·.1)).zip vs).map fun q => (.inr q.1, q.2))) (mrgT [] (((es.map (·.1)).zip ds).map fun q => (.inr q.1, q.2))) := RepD.mrg (zipK kl rs2) .nil
  refine k p _ _ _ ⟨nP, sm, fun a ha => ?_, c.st H' _ (fun a ha => upd_ne fun z => nP (mem_S.mpr (.inl (by rw [← z]; exact ha)))) (fun a φ z => ?_) l.inv, upd_same, rd.keys, ?_⟩ q.2
  · rw [upd_ne fun z => nP (mem_S.mpr (by rw [← z]; rcases List.mem_append.mp ha with z | z; exact .inr (.inl z); exact .inr (.inr z)))]
    exact ((L0.trans l).own a ha)
  · rw [upd_ne fun y => by rw [y, at1] at z; cases z]; exact z
  · rw [hv]
    exact repL_mk (by have := congrArg List.length rd.keys; simpa using this) rd.at
/-! ### d.get(k, x), d.get(k) -/
def dgetD3 (a b e : E3) : E3 := fun σ Q X => a σ (fun x => ob (asD x) fun ts => b σ (fun y => ob (asK y) fun k => e σ (fun z => Q ((valT ts k).getD z)) X) X) X
def dgetN3 (a b : E3) : E3 := fun σ Q X => a σ (fun x => ob (asD x) fun ts => b σ (fun y => ob (asK y) fun k => Q ((valT ts k).getD .non)) X) X
theorem RepD.valN {Hv : Hp} {kvs : List (Key × V)} {ts : List (Key × T)} (r : RepD K Hv kvs ts) {k : Key} (h : valT ts k = none) : valV kvs k = none := by
  unfold valT at h
  unfold valV
  have := r.any k
  cases e : kvs.find? fun kv => decide (kv.1 = k) with
  | none => rfl
  | some q =>
    have h1 : (kvs.any fun kv => decide (kv.1 = k)) = true := List.any_eq_true.mpr ⟨q, List.mem_of_find?_eq_some e, by simpa using List.find?_some e⟩
    rw [this] at h1
    obtain ⟨p, hp, hk⟩ := List.any_eq_true.mp h1
    have h2 : ts.find? (fun kv => decide (kv.1 = k)) = none := by simpa using h
    exact absurd hk (by simpa using List.find?_eq_none.mp h2 p hp)
theorem lift_dgetD {ta tb tx : TE} {a b x : E3} (ha : Lift K c W ta a) (hb : Lift K c W tb b) (hx : Lift K c W tx x) : Lift K c W (tDGet2 ta tb tx) (dgetD3 a b x) := by
  intro σ3 Q3 X h Hb G A σ H Q R k e
  refine ha _ _ _ h Hb G A σ H _ R (fun v d H1 L1 r q => ?_) e
  obtain ⟨ts, et, q1⟩ := ob_iff.mp q
  cases asD_is et
  obtain ⟨p, o, kvs, rfl, hp, rd⟩ := r.dicI
  refine ⟨p, rfl, .inl ⟨kvs, .inr ⟨o, (hid_some hp).1⟩⟩, ?_⟩
  refine hb _ _ _ q1 Hb G A σ H1 _ (R.le L1) (fun u y H2 L2 ru q2 => ?_) (fun cls dd x H' L => e cls dd x H' (L1.trans L))
  obtain ⟨ky, ek, q3⟩ := ob_iff.mp q2
  refine hx _ _ _ q3 Hb G A σ H2 _ ((R.le L1).le L2) (fun w z H3 L3 rw' q4 => ?_) (fun cls dd x H' L => e cls dd x H' ((L1.trans L2).trans L))
  have rd3 := rd.mono (Same.trans L2.vis L3.vis)
  refine ⟨valV kvs ky, .inl ⟨kvs, ky, .inr ⟨o, (hid_some ((Same.trans L2.vis L3.vis) _ _ hp)).1⟩, asK_rep ru ek, rfl⟩, ?_⟩
  refine k _ _ H3 ((L1.trans L2).trans L3) ?_ q4
  cases ev : valT ts ky with
  | none => rw [rd3.valN ev]; exact rw'
  | some t =>
    obtain ⟨u, eu, ru⟩ := rd3.val ev
    rw [eu]
    exact ru
theorem lift_dgetN {ta tb : TE} {a b : E3} (ha : Lift K c W ta a) (hb : Lift K c W tb b) : Lift K c W (tDGet1 ta tb) (dgetN3 a b) := by
  intro σ3 Q3 X h Hb G A σ H Q R k e
  refine ha _ _ _ h Hb G A σ H _ R (fun v d H1 L1 r q => ?_) e
  obtain ⟨ts, et, q1⟩ := ob_iff.mp q
  cases asD_is et
  obtain ⟨p, o, kvs, rfl, hp, rd⟩ := r.dicI
  refine ⟨p, rfl, .inl ⟨kvs, .inr ⟨o, (hid_some hp).1⟩⟩, ?_⟩
  refine hb _ _ _ q1 Hb G A σ H1 _ (R.le L1) (fun u y H2 L2 ru q2 => ?_) (fun cls dd x H' L => e cls dd x H' (L1.trans L))
  obtain ⟨ky, ek, q3⟩ := ob_iff.mp q2
  have rd3 := rd.mono L2.vis
  refine ⟨valV kvs ky, .inl ⟨kvs, ky, .inr ⟨o, (hid_some (L2.vis _ _ hp)).1⟩, asK_rep ru ek, rfl⟩, ?_⟩
  refine k _ _ H2 (L1.trans L2) ?_ q3
  cases ev : valT ts ky with
  | none => rw [rd3.valN ev]; exact .non
  | some t =>
    obtain ⟨u, eu, ru⟩ := rd3.val ev
    rw [eu]
    exact ru
end
end M3

/-! L6H: == and != of trees that are alike, dicts in them. -/
namespace PySem.SeqAt
open AutoSeq1 (wpAny_loadPart')
open MeetsSeq MeetsSeq2 MeetsSeq3 SeqRoads2
section
variable {prog : Program} {w : World}
/-- xs != ys, item by item alike -/
theorem ne_runT (l b : Addr) (us ws : Array Value) (n n2 : Nat) (dd dd2 : Option Addr) (sl sl2 : Array (Option Value)) (el : us.size = ws.size) (k : Nat) :
    ∀ i : Nat, us.size - i = k → MeetsIn prog w (Builtin.«list.__eq__.loop» ⟨[.ref l, .ref b, rawInt i, rawInt 3], []⟩) (fun A R s =>
      s.heap.get? l = some ⟨.type "list", dd, .seq us n, sl⟩ ∧ s.heap.get? b = some ⟨.type "list", dd2, .seq ws n2, sl2⟩ ∧ (∀ j (h1 : j < us.size) (h2 : j < ws.size), EqIn prog w A.in1 s us[j] ws[j] true) ∧ R (.ok (.ret (.bool false))) s) := by
  induction k with
  | zero =>
    rintro i ek A R ⟨hp, g, d, tk, os⟩ ⟨hl, hb, he, q⟩
    wp_walk using wpAny_loadPart' hl, wpAny_loadPart' hb
    have o1 : us[((i : Nat) : Int).toNat]? = none := by simp; omega
    have o2 : ws[((i : Nat) : Int).toNat]? = none := by simp; omega
    rw [o1, o2]
    wp_walk using wpAny_loadPart' hl, wpAny_loadPart' hb
    show R (.ok (.ret (.bool (us.size != ws.size)))) _
    rw [el]
    simpa using q
  | succ k ih =>
    rintro i ek A R ⟨hp, g, d, tk, os⟩ ⟨hl, hb, he, q⟩
    wp_walk using wpAny_loadPart' hl, wpAny_loadPart' hb
    have l1 : i < us.size := by omega
    have l2 : i < ws.size := by omega
    have o1 : us[((i : Nat) : Int).toNat]? = some us[i] := by simp [l1]
    have o2 : ws[((i : Nat) : Int).toNat]? = some ws[i] := by simp [l2]
    have up : ((i : Int) + 1) = ((i + 1 : Nat) : Int) := by push_cast; rfl
    rw [o1, o2]
    refine wpAny_bind (he i l1 l2 _ _ ?_)
    wp_walk
    rw [up]
    refine ⟨plainId_quiet plain_eq_loop _, codeAny_builtin entry_eq_loop ?_⟩
    rw [Around.under_plainId plain_eq_loop _]
    exact ih (i + 1) (by omega) A R _ ⟨hl, hb, he, q⟩
theorem ne_listT (l b : Addr) (us ws : Array Value) (n n2 : Nat) (dd dd2 : Option Addr) (sl sl2 : Array (Option Value)) (el : us.size = ws.size) :
    MeetsIn prog w (Builtin.«list.__ne__» ⟨[.ref l, .ref b], []⟩) (fun A R s =>
      s.heap.get? l = some ⟨.type "list", dd, .seq us n, sl⟩ ∧ s.heap.get? b = some ⟨.type "list", dd2, .seq ws n2, sl2⟩ ∧ (∀ j (h1 : j < us.size) (h2 : j < ws.size), EqIn prog w A.in1 s us[j] ws[j] true) ∧ R (.ok (.ret (.bool false))) s) := by
  rintro A R ⟨hp, g, d, tk, os⟩ ⟨hl, hb, he, q⟩
  have f3 := AutoSeq1.sub_list_list
  have nz : ¬ (us.size != ws.size) = true := by simp [el]
  wp_walk using wpAny_loadPart' hl, wpAny_loadPart' hb
  refine ⟨plainId_quiet plain_eq_loop _, codeAny_builtin entry_eq_loop ?_⟩
  rw [Around.under_plainId plain_eq_loop _]
  exact ne_runT l b us ws n n2 dd dd2 sl sl2 el _ 0 rfl A R _ ⟨hl, hb, he, q⟩
theorem rcNe_lists {A : Around} {s : Shared} {l b : Addr} {us ws : Array Value} {E Q : Value → Shared → Prop} (hl : s.heap.IsList l us) (hb : s.heap.IsList b ws) (el : us.size = ws.size) (hu : A.units < cLine)
    (he : ∀ j (h1 : j < us.size) (h2 : j < ws.size), EqIn prog w A.in1 s us[j] ws[j] true) (q : Q (.bool false) s) : wpAny (model prog w) A (richCompare .NotEq (.ref l) (.ref b)) Q E s := by
  obtain ⟨⟨cls, dd, data, sl⟩, ho, hc, n, hd⟩ := id hl
  obtain ⟨⟨cls2, dd2, data2, sl2⟩, ho2, hc2, n2, hd2⟩ := id hb
  simp only at hc hd hc2 hd2
  subst hc hd hc2 hd2
  have ta : s.TypeIs (.ref l) "list" := ⟨_, ho, rfl⟩
  have tb : s.TypeIs (.ref b) "list" := ⟨_, ho2, rfl⟩
  exact wpAny_richCompare_same_room (op := .NotEq) ta tb F.slot_list_ne (call_meetsIn F.slot_list_ne ta F.entry_list_ne (F.args_list_ne_2 _ _) (ne_listT l b us ws n n2 dd dd2 sl sl2 el) ⟨ho, ho2, he, (show Value.bool false ≠ Value.notImplemented ∧ Q (.bool false) s from ⟨(fun x => nomatch x), q⟩)⟩) hu
end
end PySem.SeqAt
namespace M3
open PySem L2
/-- trees that are alike, to a depth -/
inductive EqS : Nat → T → T → Prop
  | data {n : Nat} {t u : T} {d e : PyData} (h1 : dat t = some d) (h2 : dat u = some e) (s1 : SeqAt.shaped d = true) (s2 : SeqAt.shaped e = true) (h : PyData.eqv d e = true) : EqS n t u
  | lst {n : Nat} {xs ys : List T} (hl : xs.length = ys.length) (h : ∀ (i : Nat) x y, xs[i]? = some x → ys[i]? = some y → EqS n x y) : EqS (n + 1) (.lst xs) (.lst ys)
  | tup {n : Nat} {xs ys : List T} (hl : xs.length = ys.length) (h : ∀ (i : Nat) x y, xs[i]? = some x → ys[i]? = some y → EqS n x y) : EqS (n + 1) (.tup xs) (.tup ys)
  | dic {n : Nat} {ks ls : List (Key × T)} (hl : ks.length = ls.length) (f : Key → T → T) (hf : ∀ k v, (k, v) ∈ ks → valT ls k = some (f k v)) (h : ∀ k v, (k, v) ∈ ks → EqS n v (f k v)) : EqS (n + 1) (.dic ks) (.dic ls)
section
variable {X : Cx} {pins : List (Addr × Obj)} {σ : St} {H : Hp} {s : Shared} {S : List Addr}
theorem vals_at {vs : List V} {us : List Value} (r : Vals vs us) {i : Nat} {u : Value} (h : us[i]? = some u) : ∃ v, vs[i]? = some v ∧ RelV v u := by
  rcases vals_get (i := i) r with ⟨v, w, e1, e2, q⟩ | ⟨_, e2⟩
  · rw [h] at e2; cases e2; exact ⟨v, e1, q⟩
  · rw [h] at e2; cases e2
theorem paired_i {α β : Type} {F : α → β → Prop} : ∀ {xs : List α} {ys : List β} {i : Nat} {x : α} {y : β}, Paired F xs ys → xs[i]? = some x → ys[i]? = some y → F x y
  | _, _, _, _, _, .nil, e, _ => by simp at e
  | _, _, 0, _, _, .cons r _, e, f => by simp at e f; subst e; subst f; exact r
  | _, _, i + 1, _, _, .cons _ q, e, f => paired_i (i := i) q (by simpa using e) (by simpa using f)
theorem dic_look (I : Inv X pins σ H s) {Qt : Value → Value → Prop} {ks ls : List (Key × T)} {f : Key → T → T} (hf : ∀ k v, (k, v) ∈ ks → valT ls k = some (f k v))
    (ih : ∀ k v, (k, v) ∈ ks → ∀ (x y : V) (a b : Value), Rep X.K (hid S H) x v → Rep X.K (hid S H) y (f k v) → RelV x a → RelV y b → Qt a b)
    {kvs lvs : List (Key × V)} {va vb : List (Key × Value)} (rd : RepD X.K (hid S H) kvs ks) (re : RepD X.K (hid S H) lvs ls) (ka : KV kvs va) (kb : KV lvs vb) : ∀ k v', (k, v') ∈ va → ∃ y, valueAt vb k = some y ∧ Qt v' y := by
  intro k v' hm
  obtain ⟨i, hi⟩ := List.getElem?_of_mem hm
  have li : i < va.length := (List.getElem?_eq_some_iff.mp hi).1
  have lk : i < kvs.length := by rw [ka.length]; exact li
  have lt : i < ks.length := by rw [← Paired.length rd]; exact lk
  obtain ⟨z1, z2⟩ := paired_i ka (List.getElem?_eq_getElem lk) hi
  obtain ⟨y1, y2⟩ := paired_i rd (List.getElem?_eq_getElem lk) (List.getElem?_eq_getElem lt)
  have em : (k, ks[i].2) ∈ ks := by
    have : ks[i].1 = k := by rw [← y1]; exact z1
    rw [← this]
    exact List.getElem_mem lt
  obtain ⟨u, eu, ru⟩ := re.val (hf _ _ em)
  have rr : RelO (some u) (valueAt vb k) := by rw [← eu]; exact kb.val k
  obtain ⟨y, hy, ry⟩ := rr.some_of
  exact ⟨y, hy, ih _ _ em _ _ _ _ y2 ru z2 ry⟩
theorem dic_all {Qt : Value → Value → Prop} {va vb : List (Key × Value)} (look : ∀ k v', (k, v') ∈ va → ∃ y, valueAt vb k = some y ∧ Qt v' y) (l1 : va.length = vb.length) : (va.length == vb.length && va.all fun p => (valueAt vb p.1).isSome && true) = true := by
  rw [l1]
  simp only [beq_self_eq_true, Bool.true_and, Bool.and_true, List.all_eq_true]
  rintro ⟨k, v'⟩ hm
  obtain ⟨y, hy, _⟩ := look k v' hm
  simp [hy]
theorem eqs_run (I : Inv X pins σ H s) {n : Nat} {t u : T} (h : EqS n t u) : ∀ (v w : V) (a b : Value), Rep X.K (hid S H) v t → Rep X.K (hid S H) w u → RelV v a → RelV w b → PySem.W.EqTree X.prog X.w s (n + 64) a b true := by
  induction h with
  | @data n t u d e h1 h2 s1 s2 he =>
    intro v w a b r1 r2 ra rb
    obtain ⟨as, q1⟩ := Dp.reads I d v a (dp_of hid_same t v d r1 h1) ra
    obtain ⟨bs, q2⟩ := Dp.reads I e w b (dp_of hid_same u w e r2 h2) rb
    refine .leaf fun A hu => ?_
    rw [← he]
    exact SeqAt.eqAt_reads d e A s a b as bs q1 q2 (SeqAt.canLay_of_shaped s1) (SeqAt.canLay_of_shaped s2) (SeqAt.room_of_shaped s1 (by omega))
  | @lst n xs ys hl h ih =>
    intro v w a b r1 r2 ra rb
    obtain ⟨p, vs, rfl, hp, rl⟩ := r1.lstI
    obtain ⟨q, ws, rfl, hq, rm⟩ := r2.lstI
    cases ra
    cases rb
    by_cases e : p = q
    · subst e; exact .same
    obtain ⟨i1, v1, p1, _⟩ := I.list (SqL.of (hid_same _ _ hp))
    obtain ⟨i2, v2, p2, _⟩ := I.list (SqL.of (hid_same _ _ hq))
    have sz : i1.toArray.size = i2.toArray.size := by rw [List.size_toArray, List.size_toArray, ← v1.length, ← v2.length, rl.length, rm.length, hl]
    have := PySem.W.EqTree.lists (n := n + 64) (e := fun _ => true) e p1.isList p2.isList sz (fun j h1 h2 => by
      have g1 : i1[j]? = some i1.toArray[j] := by simp at h1 ⊢
      have g2 : i2[j]? = some i2.toArray[j] := by simp at h2 ⊢
      obtain ⟨x, ex, rx⟩ := vals_at v1 g1
      obtain ⟨y, ey, ry⟩ := vals_at v2 g2
      have l1 : j < xs.length := by rw [← rl.length]; exact (List.getElem?_eq_some_iff.mp ex).1
      have l2 : j < ys.length := by rw [← rm.length]; exact (List.getElem?_eq_some_iff.mp ey).1
      exact ih j _ _ (List.getElem?_eq_getElem l1) (List.getElem?_eq_getElem l2) x y _ _ (rl.at ex (List.getElem?_eq_getElem l1)) (rm.at ey (List.getElem?_eq_getElem l2)) rx ry)
    have e1 : ((List.range i1.toArray.size).all fun _ => true) = true := List.all_eq_true.mpr fun _ _ => rfl
    rw [e1] at this
    have e2 : n + 1 + 64 = n + 64 + 1 := by omega
    rw [e2]
    exact this
  | @tup n xs ys hl h ih =>
    intro v w a b r1 r2 ra rb
    obtain ⟨p, vs, rfl, hp, rl⟩ := r1.tupI
    obtain ⟨q, ws, rfl, hq, rm⟩ := r2.tupI
    cases ra
    cases rb
    by_cases e : p = q
    · subst e; exact .same
    obtain ⟨i1, v1, p1, _⟩ := I.tuple (Same.sqT hid_same hp)
    obtain ⟨i2, v2, p2, _⟩ := I.tuple (Same.sqT hid_same hq)
    have sz : i1.toArray.size = i2.toArray.size := by rw [List.size_toArray, List.size_toArray, ← v1.length, ← v2.length, rl.length, rm.length, hl]
    have := PySem.W.EqTree.tuples (prog := X.prog) (w := X.w) (n := n + 64) (e := fun _ => true) e p1 p2 (fun j h1 h2 => by
      have g1 : i1[j]? = some i1.toArray[j] := by simp at h1 ⊢
      have g2 : i2[j]? = some i2.toArray[j] := by simp at h2 ⊢
      obtain ⟨x, ex, rx⟩ := vals_at v1 g1
      obtain ⟨y, ey, ry⟩ := vals_at v2 g2
      have l1 : j < xs.length := by rw [← rl.length]; exact (List.getElem?_eq_some_iff.mp ex).1
      have l2 : j < ys.length := by rw [← rm.length]; exact (List.getElem?_eq_some_iff.mp ey).1
      exact ih j _ _ (List.getElem?_eq_getElem l1) (List.getElem?_eq_getElem l2) x y _ _ (rl.at ex (List.getElem?_eq_getElem l1)) (rm.at ey (List.getElem?_eq_getElem l2)) rx ry)
    have e1 : ((List.range (min i1.toArray.size i2.toArray.size)).all fun _ => true) = true := List.all_eq_true.mpr fun _ _ => rfl
    rw [e1, sz] at this
    have e2 : n + 1 + 64 = n + 64 + 1 := by omega
    rw [e2]
    simpa using this
  | @dic n ks ls hl f hf h ih =>
    intro v w a b r1 r2 ra rb
    obtain ⟨p, o1, kvs, rfl, hp, rd⟩ := r1.dicI
    obtain ⟨q, o2, lvs, rfl, hq, re⟩ := r2.dicI
    cases ra
    cases rb
    by_cases e : p = q
    · subst e; exact .same
    obtain ⟨_, np, va, ka, da⟩ := dk_rd I.hok (.inr ⟨o1, (hid_some hp).1⟩ : Rd H p (.dK kvs))
    obtain ⟨_, nq, vb, kb, db⟩ := dk_rd I.hok (.inr ⟨o2, (hid_some hq).1⟩ : Rd H q (.dK lvs))
    have look := dic_look I hf ih rd re ka kb
    have := PySem.W.EqTree.dicts (prog := X.prog) (w := X.w) (knd := mixKind X.prog X.w) (n := n + 64) (e := fun _ => true) e np nq da db (fun k v' y hm hv => by
      obtain ⟨y', hy, q⟩ := look k v' hm
      rw [hv] at hy
      cases hy
      exact q)
    have e1 := dic_all look (by rw [← ka.length, ← kb.length, Paired.length rd, Paired.length re, hl])
    rw [e1] at this
    have e2 : n + 1 + 64 = n + 64 + 1 := by omega
    rw [e2]
    exact this
end
end M3

/-! L6I: == and != of trees that are alike, as rules. -/
namespace M3
open PySem L2
/-- no tuple, no dict -/
def flatV (t : T) : Bool := match t with
  | .dic _ => false
  | .tup _ => false
  | _ => true
/-- two dicts whose values are data, alike -/
structure EqF (ks ls : List (Key × T)) (f : Key → T → T) (g : T → PyData) : Prop where
  len : ks.length = ls.length
  at_ : ∀ k v, (k, v) ∈ ks → valT ls k = some (f k v) ∧ dat v = some (g v) ∧ dat (f k v) = some (g (f k v)) ∧ SeqAt.shaped (g v) = true ∧ SeqAt.shaped (g (f k v)) = true ∧ PyData.eqv (g v) (g (f k v)) = true
def rEqS (K : PySem.W.Frag) (b : Bool) : R2 := fun x y H Q => ∃ S n t u, n ≤ 100 ∧ Rep K (hid S H) x t ∧ Rep K (hid S H) y u ∧ EqS n t u ∧ Q (.bl b) H
section
variable {X : Cx} {K : PySem.W.Frag}
theorem op_eqS (h : X.K = K) (hu : X.A.units + 200 < cLine) : OpR X (compareOp .Eq) (rEqS K true) := by
  subst h
  intro pins s σ H x y v u Q I rx ry h
  obtain ⟨S, n, t, t', hn, r1, r2, he, q⟩ := h
  have fin : EP X pins σ Q (.bool true) s := ⟨.bl true, H, I, rfl, q⟩
  cases he with
  | data h1 h2 s1 s2 hh =>
    obtain ⟨as, q1⟩ := Dp.reads I _ x v (dp_of hid_same _ x _ r1 h1) rx
    obtain ⟨bs, q2⟩ := Dp.reads I _ y u (dp_of hid_same _ y _ r2 h2) ry
    refine SeqAt.compareEq_shaped q1 q2 s1 s2 (by omega) ?_
    rw [hh]
    exact fin
  | @lst n xs ys hl h =>
    obtain ⟨p, vs, rfl, hp, rl⟩ := r1.lstI
    obtain ⟨p', ws, rfl, hq, rm⟩ := r2.lstI
    cases rx
    cases ry
    obtain ⟨i1, v1, p1, _⟩ := I.list (SqL.of (hid_same _ _ hp))
    obtain ⟨i2, v2, p2, _⟩ := I.list (SqL.of (hid_same _ _ hq))
    have sz : i1.toArray.size = i2.toArray.size := by rw [List.size_toArray, List.size_toArray, ← v1.length, ← v2.length, rl.length, rm.length, hl]
    refine PySem.W.eq_listsT (n := n + 64) (e := fun _ => true) p1.isList p2.isList sz (fun j h1 h2 => ?_) (by omega) ?_
    · have g1 : i1[j]? = some i1.toArray[j] := by simp at h1 ⊢
      have g2 : i2[j]? = some i2.toArray[j] := by simp at h2 ⊢
      obtain ⟨x, ex, rx⟩ := vals_at v1 g1
      obtain ⟨y, ey, ry⟩ := vals_at v2 g2
      have l1 : j < xs.length := by rw [← rl.length]; exact (List.getElem?_eq_some_iff.mp ex).1
      have l2 : j < ys.length := by rw [← rm.length]; exact (List.getElem?_eq_some_iff.mp ey).1
      exact eqs_run I (h j _ _ (List.getElem?_eq_getElem l1) (List.getElem?_eq_getElem l2)) x y _ _ (rl.at ex (List.getElem?_eq_getElem l1)) (rm.at ey (List.getElem?_eq_getElem l2)) rx ry
    · rw [show ((List.range i1.toArray.size).all fun _ => true) = true from List.all_eq_true.mpr fun _ _ => rfl]
      exact fin
  | @tup n xs ys hl h =>
    obtain ⟨p, vs, rfl, hp, rl⟩ := r1.tupI
    obtain ⟨p', ws, rfl, hq, rm⟩ := r2.tupI
    cases rx
    cases ry
    obtain ⟨i1, v1, p1, _⟩ := I.tuple (Same.sqT hid_same hp)
    obtain ⟨i2, v2, p2, _⟩ := I.tuple (Same.sqT hid_same hq)
    have sz : i1.toArray.size = i2.toArray.size := by rw [List.size_toArray, List.size_toArray, ← v1.length, ← v2.length, rl.length, rm.length, hl]
    refine PySem.W.eq_tuplesT (n := n + 64) (e := fun _ => true) p1 p2 (fun j h1 h2 => ?_) (by omega) ?_
    · have g1 : i1[j]? = some i1.toArray[j] := by simp at h1 ⊢
      have g2 : i2[j]? = some i2.toArray[j] := by simp at h2 ⊢
      obtain ⟨x, ex, rx⟩ := vals_at v1 g1
      obtain ⟨y, ey, ry⟩ := vals_at v2 g2
      have l1 : j < xs.length := by rw [← rl.length]; exact (List.getElem?_eq_some_iff.mp ex).1
      have l2 : j < ys.length := by rw [← rm.length]; exact (List.getElem?_eq_some_iff.mp ey).1
      exact eqs_run I (h j _ _ (List.getElem?_eq_getElem l1) (List.getElem?_eq_getElem l2)) x y _ _ (rl.at ex (List.getElem?_eq_getElem l1)) (rm.at ey (List.getElem?_eq_getElem l2)) rx ry
    · rw [show ((List.range (min i1.toArray.size i2.toArray.size)).all fun _ => true) = true from List.all_eq_true.mpr fun _ _ => rfl, sz]
      simpa using fin
  | @dic n ks ls hl f hf h =>
    obtain ⟨p, o1, kvs, rfl, hp, rd⟩ := r1.dicI
    obtain ⟨p', o2, lvs, rfl, hq, re⟩ := r2.dicI
    cases rx
    cases ry
    obtain ⟨_, np, va, ka, da⟩ := dk_rd I.hok (.inr ⟨o1, (hid_some hp).1⟩ : Rd H p (.dK kvs))
    obtain ⟨_, nq, vb, kb, db⟩ := dk_rd I.hok (.inr ⟨o2, (hid_some hq).1⟩ : Rd H p' (.dK lvs))
    have look := dic_look I hf (fun k v e => eqs_run (S := S) I (h k v e)) rd re ka kb
    refine PySem.W.eq_dictsT (knd := mixKind X.prog X.w) (n := n + 64) (e := fun _ => true) np nq da db (fun k v' y hm hv => ?_) (by omega) ?_
    · obtain ⟨y', hy, z⟩ := look k v' hm
      rw [hv] at hy
      cases hy
      exact z
    · rw [dic_all look (by rw [← ka.length, ← kb.length, Paired.length rd, Paired.length re, hl])]
      exact fin
theorem keq_hits {A : Around} {s : Shared} {va vb : List (Key × Value)} (look : ∀ k v', (k, v') ∈ va → ∃ y, valueAt vb k = some y ∧ SeqAt.EqAt A s v' y true) : PySem.W.KeqHits A s vb va true := by
  induction va with
  | nil => exact .nil
  | cons p va ih =>
    obtain ⟨k, v⟩ := p
    obtain ⟨y, hy, e⟩ := look k v (List.mem_cons_self ..)
    exact .hit (e := true) (b := true) hy e (ih fun k v' hm => look k v' (List.mem_cons_of_mem _ hm))
theorem op_neS (h : X.K = K) (hu : X.A.units + 200 < cLine) : OpR X (compareOp .NotEq) (fun x y H Q => ∃ S n t u, n ≤ 100 ∧ Rep K (hid S H) x t ∧ Rep K (hid S H) y u ∧ EqS n t u ∧ flatV t = true ∧ Q (.bl false) H) := by
  subst h
  intro pins s σ H x y v u Q I rx ry h
  obtain ⟨S, n, t, t', hn, r1, r2, he, fl, q⟩ := h
  have fin : EP X pins σ Q (.bool false) s := ⟨.bl false, H, I, rfl, q⟩
  cases he with
  | data h1 h2 s1 s2 hh =>
    obtain ⟨as, q1⟩ := Dp.reads I _ x v (dp_of hid_same _ x _ r1 h1) rx
    obtain ⟨bs, q2⟩ := Dp.reads I _ y u (dp_of hid_same _ y _ r2 h2) ry
    refine SeqAt.compareNe_shaped q1 q2 s1 s2 (by omega) ?_
    rw [hh]
    exact fin
  | @lst n xs ys hl h =>
    obtain ⟨p, vs, rfl, hp, rl⟩ := r1.lstI
    obtain ⟨p', ws, rfl, hq, rm⟩ := r2.lstI
    cases rx
    cases ry
    obtain ⟨i1, v1, p1, _⟩ := I.list (SqL.of (hid_same _ _ hp))
    obtain ⟨i2, v2, p2, _⟩ := I.list (SqL.of (hid_same _ _ hq))
    have sz : i1.toArray.size = i2.toArray.size := by rw [List.size_toArray, List.size_toArray, ← v1.length, ← v2.length, rl.length, rm.length, hl]
    refine SeqAt.rcNe_lists p1.isList p2.isList sz (by omega) (fun j h1 h2 => ?_) fin
    have g1 : i1[j]? = some i1.toArray[j] := by simp at h1 ⊢
    have g2 : i2[j]? = some i2.toArray[j] := by simp at h2 ⊢
    obtain ⟨x, ex, rx⟩ := vals_at v1 g1
    obtain ⟨y, ey, ry⟩ := vals_at v2 g2
    have l1 : j < xs.length := by rw [← rl.length]; exact (List.getElem?_eq_some_iff.mp ex).1
    have l2 : j < ys.length := by rw [← rm.length]; exact (List.getElem?_eq_some_iff.mp ey).1
    exact (eqs_run I (h j _ _ (List.getElem?_eq_getElem l1) (List.getElem?_eq_getElem l2)) x y _ _ (rl.at ex (List.getElem?_eq_getElem l1)) (rm.at ey (List.getElem?_eq_getElem l2)) rx ry).at X.A.in1 (by show X.A.units + 1 + _ < cLine; omega)
  | tup hl h => simp [flatV] at fl
  | dic hl f hf h => simp [flatV] at fl
theorem op_neF (h : X.K = K) (hu : X.A.units + 200 < cLine) : OpR X (compareOp .NotEq) (fun x y H Q => ∃ S ks ls f g, Rep K (hid S H) x (.dic ks) ∧ Rep K (hid S H) y (.dic ls) ∧ EqF ks ls f g ∧ Q (.bl false) H) := by
  subst h
  intro pins s σ H x y v u Q I rx ry h
  obtain ⟨S, ks, ls, f, g, r1, r2, he, q⟩ := h
  have fin : EP X pins σ Q (.bool false) s := ⟨.bl false, H, I, rfl, q⟩
  obtain ⟨p, o1, kvs, rfl, hp, rd⟩ := r1.dicI
  obtain ⟨p', o2, lvs, rfl, hq, re⟩ := r2.dicI
  cases rx
  cases ry
  obtain ⟨_, np, va, ka, da⟩ := dk_rd I.hok (.inr ⟨o1, (hid_some hp).1⟩ : Rd H p (.dK kvs))
  obtain ⟨_, nq, vb, kb, db⟩ := dk_rd I.hok (.inr ⟨o2, (hid_some hq).1⟩ : Rd H p' (.dK lvs))
  have look := dic_look (S := S) (Qt := fun a b => SeqAt.EqAt X.A.in1 s a b true) I (fun k v e => (he.at_ k v e).1) (fun k v e x y a b g1 g2 g3 g4 => by
    obtain ⟨_, h1, h2, s1, s2, hh⟩ := he.at_ k v e
    obtain ⟨as, q1⟩ := Dp.reads I _ x a (dp_of hid_same _ x _ g1 h1) g3
    obtain ⟨bs, q2⟩ := Dp.reads I _ y b (dp_of hid_same _ y _ g2 h2) g4
    rw [← hh]
    exact SeqAt.eqAt_reads _ _ X.A.in1 s a b as bs q1 q2 (SeqAt.canLay_of_shaped s1) (SeqAt.canLay_of_shaped s2) (SeqAt.room_of_shaped s1 (by show X.A.units + 1 + 64 < cLine; omega))) rd re ka kb
  have lz : va.length = vb.length := by rw [← ka.length, ← kb.length, Paired.length rd, Paired.length re, he.len]
  refine PySem.W.keq_ne (knd := mixKind X.prog X.w) (r := true) np nq da db (by omega) (fun _ => keq_hits look) ?_
  rw [lz]
  simpa using fin
end
/-! ### as readings -/
theorem Room.units200 {k : Nat} {A : Around} (r : Room k A) : A.units + 200 < cLine := by have := r.un; omega
/-- x == y of trees that are alike -/
def eqSm3 : T → T → (T → Prop) → Prop := fun x y Q => (∃ n, n ≤ 100 ∧ EqS n x y) ∧ Q (.bl true)
/-- x != y of lists, of data that are alike -/
def neSm3 : T → T → (T → Prop) → Prop := fun x y Q => (∃ n, n ≤ 100 ∧ EqS n x y) ∧ flatV x = true ∧ Q (.bl false)
/-- x != y of dicts that are alike -/
def neF3 : T → T → (T → Prop) → Prop := fun x y Q => ob (asD x) fun ks => ob (asD y) fun ls => (∃ f g, EqF ks ls f g) ∧ Q (.bl false)
section
variable {K : PySem.W.Frag}
theorem rl_eqSm : RL2 K (rEqS K true) eqSm3 := by
  intro c x y Q3 hh Hb G A σ3 σ H vx vy Q R rx ry k
  obtain ⟨⟨n, hn, he⟩, q⟩ := hh
  exact ⟨_, n, x, y, hn, rx, ry, he, k _ _ H (Le.refl R.inv) (.bl _) q⟩
theorem rl_neSm : RL2 K (fun x y H Q => ∃ S n t u, n ≤ 100 ∧ Rep K (hid S H) x t ∧ Rep K (hid S H) y u ∧ EqS n t u ∧ flatV t = true ∧ Q (.bl false) H) neSm3 := by
  intro c x y Q3 hh Hb G A σ3 σ H vx vy Q R rx ry k
  obtain ⟨⟨n, hn, he⟩, fl, q⟩ := hh
  exact ⟨_, n, x, y, hn, rx, ry, he, fl, k _ _ H (Le.refl R.inv) (.bl _) q⟩
theorem rl_neF : RL2 K (fun x y H Q => ∃ S ks ls f g, Rep K (hid S H) x (.dic ks) ∧ Rep K (hid S H) y (.dic ls) ∧ EqF ks ls f g ∧ Q (.bl false) H) neF3 := by
  intro c x y Q3 hh Hb G A σ3 σ H vx vy Q R rx ry k
  obtain ⟨ks, e1, hh1⟩ := ob_iff.mp hh
  obtain ⟨ls, e2, ⟨f, g, he⟩, q⟩ := ob_iff.mp hh1
  cases asD_is e1
  cases asD_is e2
  exact ⟨_, ks, ls, f, g, rx, ry, he, k _ _ H (Le.refl R.inv) (.bl _) q⟩
end
end M3

/-! L6J: defs over cells without fuel. -/
namespace M3
open PySem L2
def f04 : F4 := fun _ _ _ _ => False
section
variable {P : Program} {w : World} {K : PySem.W.Frag} {mg : Str → Option Value} {base : Heap} {CX : CXT} {x qual : Str} {st : Stmt} {dts kts : List T} {kns : List Str} {lv : Nat} {ps : List Str}
theorem DefAt.noC (D : DefAt K mg x qual st dts kns kts) (n : Nat) : OkF P w K mg base CX x qual st dts kns kts lv ps (sp4 K n f04) := by
  obtain ⟨f, fd, dvs, kvs, rd, rk, F, hm⟩ := D.ex
  exact ⟨f, fd, dvs, kvs, rd, rk, F, hm, fnOk_no fun vs H Q E z => by
    obtain ⟨_, _, _, _, _, _, _, _, _, _, z, _⟩ := z
    exact z⟩
end
end M3

/-! L6K: max(xs, default=d) of a list of ints. -/
namespace M3
open PySem L2
def rMaxDf (K : PySem.W.Frag) : List V → List V → Hp → VK → Prop := fun vs zs H Q => ∃ (a : Addr) (ns : List Int) (d : V), vs = [V.ref a] ∧ zs = [d] ∧ SqL K H a (ns.map V.int) ∧ (ns = [] → Q d H) ∧ ∀ n r, ns = n :: r → Q (.int (r.foldl max n)) H
theorem depth_ints : ∀ ns : List Int, PyData.depthAll (ns.map PyData.int) = 0
  | [] => rfl
  | n :: ns => by
    have := depth_ints ns
    simp only [List.map_cons, PyData.depthAll, PyData.depth, this]
    rfl
theorem alike_ints (ns : List Int) : PySem.W.AlikeAll (ns.map PyData.int) := by
  refine ⟨fun x hx y hy => ?_, fun x hx => ?_⟩
  · obtain ⟨i, _, rfl⟩ := List.mem_map.mp hx
    obtain ⟨j, _, rfl⟩ := List.mem_map.mp hy
    rfl
  · obtain ⟨i, _, rfl⟩ := List.mem_map.mp hx
    intro z; cases z
theorem reads_ints {h : Heap} : ∀ {its : List Value} {ns : List Int}, PyProof.Rows.IntsAre its ns → ReadsAll h its (ns.map PyData.int) []
  | _, _, .nil => .nil
  | _, _, .cons n t a => .cons (.int _ _) (reads_ints a)
theorem cr_maxDf {X : Cx} (hc : X.calm = true) (hu : X.A.units + 200 < cLine) : CallRK X (.builtin "max") [Str.ofString "default"] (rMaxDf X.K) := by
  intro pins s σ H vs zs us ws Q I r rz h
  obtain ⟨a, ns, d, rfl, rfl, hs, q0, q⟩ := h
  obtain ⟨its, rv, hl, _⟩ := I.list hs
  obtain rfl := Vals.ref1 r
  obtain ⟨w1, rfl, e1⟩ := vals1 rz
  have hi := rv.ints
  refine PySem.W.max_list_default (I.ok.hd hc) hl.isList (by simpa using reads_ints hi) (alike_ints ns) (by rw [depth_ints]; omega) (fun e h' tk hk => ?_) (fun y ys i v h' tk bs e hv hr hk => ?_)
  · have e : ns = [] := by simpa using e
    exact ⟨d, H, I.kept hk, e1, q0 e⟩
  · cases ns with
    | nil => cases e
    | cons n r =>
      cases e
      rw [PySem.W.maxD_ints] at hr
      cases hr
      exact ⟨.int _, H, I.kept hk, ⟨_, rfl⟩, q n r rfl⟩
/-- the ints of a list of trees -/
def intsT : List T → Option (List Int)
  | [] => some []
  | .int i :: r => (intsT r).map (i :: ·)
  | _ :: _ => none
theorem RepL.intsI {K : PySem.W.Frag} {H : Hp} : ∀ {ts : List T} {vs : List V} {ns : List Int}, intsT ts = some ns → RepL K H vs ts → vs = ns.map V.int
  | [], _, _, e, r => by cases r; cases e; rfl
  | t :: ts, _, ns, e, r => by
    cases r with
    | cons r rs =>
      cases t <;> simp only [intsT] at e <;> try (cases e)
      rename_i i
      obtain ⟨ms, e1, rfl⟩ := Option.map_eq_some_iff.mp e
      rw [r.intI, RepL.intsI e1 rs]
      rfl
def maxDf3 : List T → List T → (T → Prop) → Prop := fun xs zs Q => ob (one xs) fun l => ob (asL l) fun ts => ob (intsT ts) fun ns => ob (one zs) fun d => match ns with
  | [] => Q d
  | n :: r => Q (.int (r.foldl max n))
def RLk (K : PySem.W.Frag) (r : List V → List V → Hp → VK → Prop) (r3 : List T → List T → (T → Prop) → Prop) : Prop :=
  ∀ (c : Cf) xs zs Q3, r3 xs zs Q3 → ∀ Hb G A σ3 σ H vs ws Q, R3 K c Hb G A σ3 σ H → RepL K (hid (c.S G A) H) vs xs → RepL K (hid (c.S G A) H) ws zs →
    (∀ v d H', Le c G A H H' → Rep K (hid (c.S G A) H') v d → Q3 d → Q v H') → r vs ws H Q
def callK3 (r : List T → List T → (T → Prop) → Prop) (x y : A3) : E3 := fun σ Q X => x σ (fun xs => y σ (fun zs => r xs zs Q) X) X
theorem lift_cbk {K : PySem.W.Frag} {c : Cf} {W : WX} {r : List V → List V → Hp → VK → Prop} {r3 : List T → List T → (T → Prop) → Prop} {t tk : TA} {x y : A3} (hr : RLk K r r3) (ha : LiftA K c W t x) (hb : LiftA K c W tk y) : Lift K c W (tCKw r t tk) (callK3 r3 x y) := by
  intro σ3 Q3 X h Hb G A σ H Q R k e
  refine ha _ _ _ h Hb G A σ H _ R (fun vs ds H1 L1 rx hx => ?_) e
  refine hb _ _ _ hx Hb G A σ H1 _ (R.le L1) (fun ws es H2 L2 ry hy => ?_) (fun cls dd x H' L => e cls dd x H' (L1.trans L))
  exact hr c _ _ _ hy Hb G A σ3 σ H2 vs ws Q ((R.le L1).le L2) (rx.mono L2.vis) ry (fun v d H3 L3 => k v d H3 ((L1.trans L2).trans L3))
theorem rl_maxDf {K : PySem.W.Frag} : RLk K (rMaxDf K) maxDf3 := by
  intro c xs zs Q3 hh Hb G A σ3 σ H vs ws Q R rx rz k
  obtain ⟨l, el, h1⟩ := ob_iff.mp hh
  obtain ⟨ts, et, h2⟩ := ob_iff.mp h1
  obtain ⟨ns, en, h3⟩ := ob_iff.mp h2
  obtain ⟨d, ed, h4⟩ := ob_iff.mp h3
  cases one_is el
  cases asL_is et
  cases one_is ed
  obtain ⟨v, rfl, rv⟩ := repL_one rx
  obtain ⟨u, rfl, ru⟩ := repL_one rz
  obtain ⟨a, us, rfl, ha, rl⟩ := rv.lstI
  have e := rl.intsI en
  subst e
  refine ⟨a, ns, u, rfl, rfl, ?_, fun e => ?_, fun n r e => ?_⟩
  · exact SqL.of (hid_same _ _ ha)
  · subst e
    exact k _ _ H (Le.refl R.inv) ru h4
  · subst e
    exact k _ _ H (Le.refl R.inv) (.int _) h4
end M3

/-! L6L: sets of texts, for sorted(set). -/
namespace M3
open PySem L2 PySem.Froz PyProof.Rows
/-- a set of the texts l, and it can be walked -/
structure TxS (P : Program) (w : World) (D : SD) (l : List Str) : Prop where
  ok : TxOk P w D l
  nd : l.Nodup
  ris : Ris D.2.2.place.toList
  led : w.params.followText "set-order" = true ∨ D.2.2.led = true
theorem tail_ris {ep : Nat} {es1 : Array (Int × Value)} {t2 : SetTable} {wd : Bool} (h : Ris t2.place.toList) : Ris (tailTx ep es1 t2 wd).2.2.place.toList := by
  unfold tailTx
  split
  · exact relayAll_ris _ _ _
  · exact h
theorem tail_led {ep : Nat} {es1 : Array (Int × Value)} {t2 : SetTable} {wd : Bool} (h : t2.led = true) : (tailTx ep es1 t2 wd).2.2.led = true := by
  unfold tailTx
  split
  · show (relayAll _ _ _).2.1.led = true
    rw [relayAll_led]
    exact h
  · exact h
theorem TxS.add {P : Program} {w : World} {D : SD} {l : List Str} {k : Str} (u : Tok) (T : TxS P w D l) (hk : k ∉ l) : TxS P w (addTx (hashStr w k) (.str k u) D) (k :: l) := by
  have e1 : ∀ t : SetTable, (if t.plain = true then { t with plain := false } else t).place = t.place := fun t => by split <;> rfl
  have e2 : ∀ t : SetTable, (if t.plain = true then { t with plain := false } else t).led = t.led := fun t => by split <;> rfl
  refine ⟨add_ok u T.ok, List.nodup_cons.mpr ⟨hk, T.nd⟩, tail_ris ?_, ?_⟩
  · rw [e1]
    exact layNew_ris _ _ _ _ T.ris
  · rcases T.led with h | h
    · exact .inl h
    · right
      refine tail_led ?_
      rw [e2, layNew_led]
      exact h
theorem perm_of : ∀ (l ks : List Str), l.Nodup → (∀ x ∈ l, x ∈ ks) → ks.length = l.length → l.Perm ks
  | [], ks, _, _, h => by
    cases ks with
    | nil => exact .nil
    | cons a b => simp at h
  | x :: l, ks, nd, hm, h => by
    obtain ⟨n1, n2⟩ := List.nodup_cons.mp nd
    have hx := hm x (List.mem_cons_self ..)
    refine (List.Perm.cons x (perm_of l (ks.erase x) n2 (fun y hy => ?_) ?_)).trans (List.perm_cons_erase hx).symm
    · have ne : y ≠ x := fun e => n1 (by rw [← e]; exact hy)
      exact (List.mem_erase_of_ne ne).mpr (hm y (List.mem_cons_of_mem _ hy))
    · rw [List.length_erase_of_mem hx, h]; rfl
theorem is_strV {P : Program} {w : World} {k : Str} {v : Value} (h : (PySem.strKind P w).is k v = true) : ∃ tk, v = Value.str k tk := by
  replace h : Value.isStrOf k v = true := h
  cases v <;> simp [Value.isStrOf] at h
  subst h
  exact ⟨_, rfl⟩
theorem strs_of : ∀ (vs : List Value), (∀ v ∈ vs, ∃ k tk, v = Value.str k tk) → StrsAre vs (vs.map strOf)
  | [], _ => .nil
  | v :: vs, h => by
    obtain ⟨k, tk, rfl⟩ := h v (List.mem_cons_self ..)
    exact .cons _ _ (strs_of vs fun v hv => h v (List.mem_cons_of_mem _ hv))
theorem sorted_txs {P : Program} {w : World} {A : Around} {E : Value → Shared → Prop} {s : Shared} {a : Addr} {D : SD} {l : List Str} {Q : Value → Shared → Prop} (ho : s.heap.get? a = some (sObj "set" D)) (T : TxS P w D l) (hh : A.handled = none) (h64 : l.length < 64)
    (hQ : ∀ s' p (out : Array Value) (c : Nat) (ss : List Str), (∀ b o, s.heap.get? b = some o → s'.heap.get? b = some o) → s'.gens = s.gens → s'.os = s.os → s.heap.objs.size ≤ p →
      s'.heap.get? p = some (seqObj "list" out c) → StrsAre out.toList ss → ss.Perm l → sortedS ss = true → Q (.ref p) s') :
    wpAny (model P w) A (call (.builtin "sorted") [.ref a]) Q E s := by
  refine Calls.call_function_entry kind_sorted plain_sorted entry_sorted (args_sorted1 _) ?_
  unfold Builtin.«sorted»
  refine wpAny_bind (m := checkCount "sorted" 1 1 _) (wpAny_pure ?_)
  have hsz : D.1.size = l.length := T.ok.sz
  have hb : D.1.size < scanBound := by
    have : 64 ≤ scanBound := by decide
    omega
  refine wpAny_bind (collect_set (A := A.in1) (es := D.1) (ep := D.2.1) (t := D.2.2) hh ⟨_, ho, rfl, rfl⟩ T.ok.fit hb T.ris T.led fun s1 vs k1 hz g1 o1 pm => ?_)
  have hvl : vs.length = l.length := by rw [pm.length_eq, List.length_map, Array.length_toList]; exact hsz
  have hv : ∀ v ∈ vs, ∃ k tk, v = Value.str k tk := fun v hv => by
    obtain ⟨e, he, q⟩ := List.mem_map.mp (pm.mem_iff.mp hv)
    obtain ⟨⟨k, hk, _⟩, _⟩ := T.ok.el e he
    obtain ⟨tk, e2⟩ := is_strV hk
    exact ⟨k, tk, by rw [← q, e2]⟩
  have hS := strs_of vs hv
  have pl : (vs.map strOf).Perm l := by
    refine (perm_of l _ T.nd (fun x hx => ?_) (by rw [List.length_map]; exact hvl)).symm
    obtain ⟨e, he, hk⟩ := (T.ok.mem x).mp hx
    obtain ⟨tk, e2⟩ := is_strV hk
    refine List.mem_map.mpr ⟨e.2, pm.mem_iff.mpr (List.mem_map.mpr ⟨e, he, rfl⟩), ?_⟩
    rw [e2]
    rfl
  refine wpAny_bind (wpAny_newList ?_ (by rw [hvl, sizeLine_eq]; omega))
  have hoL : (s1.heap.push (seqObj "list" vs.toArray 0)).get? s1.heap.objs.size = some (seqObj "list" vs.toArray 0) := Heap.get?_push_size _ rfl
  refine wpAny_bind (wpAny_holding (wpAny_call_entry slot_list_sort ⟨_, hoL, rfl⟩ entry_list_sort (list_sort_treeK strKind_oneLt hoL hS.keysOf (fun v₁ v₂ rest e => keyKind_strs (by rw [← e]; exact hS)) (by rw [hvl]; exact h64) fun st' hp hs => ⟨_, rfl, ?_⟩) (args_list_sort _)))
  obtain ⟨ss', a1, a2, a3⟩ := sorted_out_str hS hp hs
  obtain ⟨c, hc⟩ := sortedHeap_at (vs := vs) (out := (arrOf st').map (·.2)) hoL
  refine wpAny_pure ⟨_, rfl, hQ _ s1.heap.objs.size _ c ss' (fun b u e => ?_) g1 o1 hz hc a1 (a2.trans pl) a3⟩
  have q := k1 b u e
  have hlt := Heap.lt_size q
  show (sortedHeap (s1.heap.push (seqObj "list" vs.toArray 0)) s1.heap.objs.size vs _).get? b = some u
  rw [sortedHeap_old (Nat.ne_of_lt hlt) (by rw [size_push']; exact Nat.lt_succ_of_lt hlt)]
  exact Heap.get?_push_of_some _ q
end M3

/-! L6M: a text is added to a set of texts. -/
namespace M3
open PySem L2 PySem.Froz PyProof.Rows
section
variable {P : Program} {w : World} {A : Around} {E : Value → Shared → Prop} {s : Shared} {a : Addr} {D : SD} {l : List Str} {k : Str} {u : Tok}
theorem add_there {Q : Bool → Shared → Prop} (ho : s.heap.get? a = some (sObj "set" D)) (F : TxOk P w D l) (hk : k ∈ l) (hb : l.length < scanBound) (h : Q false s) : wpAny (model P w) A (setAddHashed a (.str k u) (hashStr w k)) Q E s := by
  obtain ⟨es, ep, t⟩ := D
  have hd : (sObj "set" (es, ep, t)).data = .set es ep t := rfl
  have hf : t.fits es.size = true := F.fit
  have hel : ElemsOf (PySem.strKind P w) es.toList := F.el
  have hsz : es.size = l.length := F.sz
  have hkey : (PySem.strKind P w).is k (.str k u) = true := is_str k u
  have hsc : (Value.str k u).scannable = true := rfl
  unfold setAddHashed setAddHashedIn
  refine wpAny_holding (wpAny_bind (wpAny_setState_of ho hd hf ?_))
  dsimp only
  rw [byScan_of hsc (by omega) hel]
  simp only [↓reduceIte]
  unfold setAddByScan
  refine wpAny_bind ?_
  refine wpAny_bind (wpAny_rule ?_)
  refine wpAny_bind (wpAny_setScan_of hkey ho hd hf hel ?_)
  cases hfi : List.findIdx? (fun e => (PySem.strKind P w).is k e.2) es.toList with
  | some j =>
    dsimp only
    exact wpAny_pure (wpAny_pure h)
  | none =>
    obtain ⟨e, he, q⟩ := (F.mem k).mp hk
    have := List.findIdx?_eq_none_iff.mp hfi e he
    rw [q] at this
    cases this
theorem call_addT {Q : Value → Shared → Prop} (ho : s.heap.get? a = some (sObj "set" D)) (T : TxS P w D l) (hb : l.length + 1 < scanBound)
    (h0 : k ∈ l → Q .none { s with toks := s.toks + 1 }) (h1 : k ∉ l → Q .none { s with heap := s.heap.update a (fun _ => sObj "set" (addTx (hashStr w k) (.str k u) D)), toks := s.toks + 1 }) : wpAny (model P w) A (call (.builtin "set.add") [.ref a, .str k u]) Q E s := by
  refine wpAny_call_entry F.slot_set_add ⟨_, ho, rfl⟩ F.entry_set_add ?_ (F.args_set_add_2 _ _)
  unfold Builtin.«set.add» Builtin.Frozenset.oneOther
  simp only [List.isEmpty_nil, bind_assoc]
  unfold Builtin.Frozenset.addrOf setAdd
  refine wpAny_bind (wpAny_pure ?_)
  try dsimp only
  refine wpAny_bind (wpAny_pure ?_)
  try dsimp only
  refine wpAny_bind ?_
  refine wpAny_holding ?_
  refine wpAny_bind (wpAny_pyHash_str ?_)
  by_cases hk : k ∈ l
  · refine add_there (s := { s with toks := s.toks + 1 }) ho T.ok hk (by omega) ?_
    show wpAny _ _ (ret Value.none) _ _ _
    exact wpAny_pure ⟨_, rfl, h0 hk⟩
  · refine add_x (s := { s with toks := s.toks + 1 }) ho T.ok hk hb ?_
    show wpAny _ _ (ret Value.none) _ _ _
    exact wpAny_pure ⟨_, rfl, h1 hk⟩
end
end M3

/-! L6N: a set of texts as a tracked thing; add and sorted on it. -/
namespace M3
open PySem L2 PySem.Froz PyProof.Rows
/-- the set of the texts l at a -/
def SetTO (P : Program) (w : World) (a : Addr) (l : List Str) : HO := .ext fun h => ∃ D, h.get? a = some (sObj "set" D) ∧ TxS P w D l
theorem setTO_new {P : Program} {w : World} {H : Hp} {h : Heap} {a : Addr} {D : SD} {l : List Str} (ho : h.get? a = some (sObj "set" D)) (T : TxS P w D l) : ObjOk P w H h a (SetTO P w a l) :=
  ⟨⟨D, ho, T⟩, ⟨_, ho⟩, fun h1 h2 p k => by
    obtain ⟨D, e, T⟩ := p
    exact ⟨D, k _ e, T⟩⟩
theorem txs_fresh {P : Program} {w : World} : TxS P w (#[], 0, .fresh 0 0 (!w.params.followText "set-order")) [] where
  ok := .nil rfl
  nd := .nil
  ris := List.Pairwise.nil
  led := by
    show _ ∨ (!w.params.followText "set-order") = true
    cases w.params.followText "set-order"
    · exact .inr rfl
    · exact .inl rfl
def putS (l : List Str) (k : Str) : List Str := if k ∈ l then l else k :: l
section
variable {X : Cx}
theorem setTO_get {pins : List (Addr × Obj)} {σ : L2.St} {H : Hp} {s : Shared} {a : Addr} {l : List Str} (I : Inv X pins σ H s) (ha : H a = some (SetTO X.prog X.w a l)) : ∃ D, s.heap.get? a = some (sObj "set" D) ∧ TxS X.prog X.w D l := (I.hok a _ ha).1
theorem addT_ok {pins : List (Addr × Obj)} {σ : L2.St} {H : Hp} {s : Shared} {E : Value → Shared → Prop} {D : Addr} {l : List Str} {k : Str} {u : Tok} {Q : Value → Shared → Prop} (I : Inv X pins σ H s) (hD : H D = some (SetTO X.prog X.w D l)) (room : l.length + 1 < scanBound)
    (h : ∀ s', Inv X pins σ (upd H D (SetTO X.prog X.w D (putS l k))) s' → Q .none s') : wpAny (model X.prog X.w) X.A (call (.builtin "set.add") [.ref D, .str k u]) Q E s := by
  obtain ⟨D0, ho, T⟩ := setTO_get I hD
  refine call_addT ho T room (fun hk => ?_) (fun hk => ?_)
  · have e : putS l k = l := if_pos hk
    rw [e] at h
    exact h _ (I.write (e := D) (t' := s.toks + 1) (by rw [hD]; trivial) (.inl rfl) (fun b u hb hu => hu) ⟨_, ho⟩ (setTO_new ho T))
  · have e : putS l k = k :: l := if_neg hk
    rw [e] at h
    have ho' := get_upd (sObj "set" (addTx (hashStr X.w k) (.str k u) D0)) ho rfl
    exact h _ (I.write (e := D) (t' := s.toks + 1) (by rw [hD]; trivial) (.inl rfl) (fun b v hb hv => by
      rw [Heap.get?_update_ne _ _ _ _ hb]
      exact hv) ⟨_, ho'⟩ (setTO_new ho' (T.add u hk)))
def rSortT (P : Program) (w : World) : List V → Hp → VK → Prop := fun vs H Q => ∃ (a : Addr) (l : List Str), vs = [V.ref a] ∧ H a = some (SetTO P w a l) ∧ l.length < 64 ∧
  ∀ (ys : List Str) (p : Addr), ys.Perm l → sortedS ys = true → H p = none → Q (.ref p) (upd H p (.lst (ys.map V.str)))
theorem cr_sortT (hc : X.calm = true) : CallR X (.builtin "sorted") (rSortT X.prog X.w) := by
  intro pins s σ H vs us Q I r h
  obtain ⟨a, l, rfl, ha, h64, q⟩ := h
  obtain ⟨D, ho, T⟩ := setTO_get I ha
  rw [Vals.ref1 r]
  refine sorted_txs ho T (I.ok.hd hc) h64 fun s' p out c ss hk hg hos hp ho' h1 h2 h3 => ?_
  have hlen : (ss.map V.str).length ≤ sizeLine := by rw [List.length_map, h2.length_eq]; exact small64 h64
  have hn : H p = none := I.hok.fresh hp
  have J : Inv X pins σ (upd H p (.lst (ss.map V.str))) { s with heap := s'.heap, gens := s'.gens, drawn := s'.drawn, toks := s'.toks } :=
    I.call (ch := []) (Un.laid hk hp hn) (I.hok.laid hk hp ⟨hlen, out.toList, c, vals_of_strs h1, ho'⟩) (by rw [hg]; exact I.bare) (fun _ z => nomatch z)
  have e : s' = { s with heap := s'.heap, gens := s'.gens, drawn := s'.drawn, toks := s'.toks } := by
    cases s'
    cases s
    cases hos
    rfl
  rw [e]
  exact ⟨.ref p, _, J, rfl, q ss p h2 h3 hn⟩
end
end M3

/-! L6O: {e for x in xs if t}, e a text. -/
namespace M3
open PySem L2 PySem.Froz PyProof.Rows PySem.Spec
/-- what the block does: the set at D grows -/
def tScT (P : Program) (w : World) (wi : TI) (g : TG) (tt : TT) (te : TE) (vs : List Nat) : TE := fun σ H Q => wi σ H fun J H1 => ∀ D, H1 D = none → ∃ W : Nat → Nat → Hp → Prop, (∃ m, W 0 m (upd H1 D (SetTO P w D []))) ∧ ∀ i m H, W i m H →
  (J.stop i H ∧ Q (.ref D) H) ∨ (J.go i H ∧ ∃ Nx : Hp → Prop, (∀ H', Nx H' → ∃ m', m' < m ∧ W (i + 1) m' H') ∧ ∀ x H', J.yld i H x H' → g x (wipe σ vs) H' fun σ2 H2 => wipe σ2 vs = wipe σ vs ∧ tt σ2 H2 fun b H3 =>
    if b = true then te σ2 H3 fun y H4 => ∃ (k : Str) (l : List Str), y = .str k ∧ H4 D = some (SetTO P w D l) ∧ l.length + 1 < scanBound ∧ Nx (upd H4 D (SetTO P w D (putS l k))) else Nx H3)
section
variable {X : Cx} {elt tg iter : Expr} {ifs : List Expr} {scope : Scope} {own : List (PySem.Str × Nat)} {pos : Pos} {wi : TI} {g : TG} {tt : TT} {te : TE}
theorem pe_scT (hc : X.calm = true) (hN : X.N.Nodup) (hi : PI X tg iter wi) (ok : BlkOk X.N X.env.scope scope own)
    (hg : ∀ (s : Shared) (H : Hp) (C : Addr) (cl : List (PySem.Str × Addr)) (fp : List Addr), PG (X.blk s H scope (compEnvC scope cl C X.env) fp) tg g) (ht : ∀ (s : Shared) (H : Hp) (C : Addr) (cl : List (PySem.Str × Addr)) (fp : List Addr), PTs (X.blk s H scope (compEnvC scope cl C X.env) fp) ifs tt)
    (he : ∀ (s : Shared) (H : Hp) (C : Addr) (cl : List (PySem.Str × Addr)) (fp : List Addr), PE (X.blk s H scope (compEnvC scope cl C X.env) fp) elt te) (hs : ∀ x, foldedSetIterable iter X.env x = pure x := by intro _; rfl) :
    PE X (.SetComp elt [⟨tg, iter, ifs, 0⟩] scope pos) (tScT X.prog X.w wi g tt te (own.map (·.2))) := by
  refine ⟨fun pins s σ H Q I h => ?_⟩
  rw [PpSet.eval_SetComp]
  have free : ∀ y ∈ scope.names, y.2 = .free → ∃ c, X.env.cells.lookup y.1 = some c := fun y hy e => (ok.free y hy e).elim (fun k => I.ok.has _ (.inl k)) (fun k => I.ok.has _ (.inr k))
  refine wpAny_comprehension_free (use := none) rfl hs (closure_ok free) ok.kind (fun y hy e => by rw [ok.uniq y hy, e]) (thn (hi.run pins s σ H _ I h) fun xv s1 hx => thn hx fun itv s2 h2 => ?_)
  obtain ⟨it, fp, tn, J, H2, rfl, I2, T, st2, f2, q⟩ := h2
  refine PpSet.newSet_ok (newEnv_comp ?_)
  obtain ⟨D, hD⟩ : ∃ D, D = s2.heap.objs.size := ⟨_, rfl⟩
  obtain ⟨W, ⟨m0, w0⟩, turn⟩ := q D (I2.hok.fresh (Nat.le_of_eq hD.symm))
  obtain ⟨s3, hs3⟩ : ∃ s3 : Shared, s3 = { s2 with heap := s2.heap.push (sObj "set" (#[], 0, .fresh 0 0 (!X.w.params.followText "set-order"))) } := ⟨_, rfl⟩
  have h3 : s3.heap = s2.heap.push (sObj "set" (#[], 0, .fresh 0 0 (!X.w.params.followText "set-order"))) := by rw [hs3]
  have hD3 : s3.heap.get? D = some (sObj "set" (#[], 0, .fresh 0 0 (!X.w.params.followText "set-order"))) := by rw [h3, hD]; exact Heap.get?_push_size _ rfl
  obtain ⟨H3, hH3⟩ : ∃ H3, H3 = upd H2 D (SetTO X.prog X.w D []) := ⟨_, rfl⟩
  have I3 : Inv X pins σ H3 s3 := by
    rw [hH3, hs3]
    refine I2.laid (t' := s2.toks) (fun b o e => Heap.get?_push_of_some _ e) (Nat.le_of_eq hD.symm) ?_
    rw [← h3]
    exact setTO_new hD3 txs_fresh
  have f3 : ∀ b ∈ fp, FpOk X pins H3 b ∧ b < s3.heap.objs.size := fun b hb => by
    obtain ⟨o, e, _⟩ := T.obj _ _ st2 b hb
    have lt := Heap.lt_size e
    refine ⟨⟨?_, (f2 b hb).2⟩, by rw [h3, Heap.size_push]; exact Nat.lt_succ_of_lt lt⟩
    rw [hH3, upd_ne (by rw [hD]; exact Nat.ne_of_lt lt)]
    exact (f2 b hb).1
  have I4 := block_start I3 ok hN f3
  have pg := hg s3 H3 s3.heap.objs.size (cellsFrom (s3.heap.objs.size + 1) scope.names (cloFrom X.env.cells scope.names [])) fp
  have pt := ht s3 H3 s3.heap.objs.size (cellsFrom (s3.heap.objs.size + 1) scope.names (cloFrom X.env.cells scope.names [])) fp
  have pe := he s3 H3 s3.heap.objs.size (cellsFrom (s3.heap.objs.size + 1) scope.names (cloFrom X.env.cells scope.names [])) fp
  have st4 : tn 0 (pushCells (s3.heap.push { cls := .type "dict", data := .dict #[] }) scope.names) := T.keep _ _ _ st2 fun b _ o e => pushCells_keeps _ _ _ _ (Heap.get?_push_of_some _ (by rw [h3]; exact Heap.get?_push_of_some _ e))
  have cast : codeAny (model X.prog X.w) X.A (.compStart (.SetComp elt [⟨tg, iter, ifs, 0⟩] scope pos) 0 (.ref it) (.ref D) (compEnvC scope (cellsFrom (s3.heap.objs.size + 1) scope.names (cloFrom X.env.cells scope.names [])) s3.heap.objs.size X.env)) (compPost (model X.prog X.w) X.A X.xe none (EP X pins σ Q) (.ref D) s3.heap.objs.size) { s3 with heap := pushCells (s3.heap.push { cls := .type "dict", data := .dict #[] }) scope.names } := by
    obtain ⟨ce, hce⟩ : ∃ ce, ce = compEnvC scope (cellsFrom (s3.heap.objs.size + 1) scope.names (cloFrom X.env.cells scope.names [])) s3.heap.objs.size X.env := ⟨_, rfl⟩
    have cL : ce.locals = s3.heap.objs.size := by rw [hce]; rfl
    rw [← hce] at I4 pg pt pe ⊢
    rw [← hH3] at w0
    generalize hs4 : ({ s3 with heap := pushCells (s3.heap.push { cls := .type "dict", data := .dict #[] }) scope.names } : Shared) = s4 at I4 ⊢
    replace st4 : tn 0 s4.heap := by rw [← hs4]; exact st4
    have nfp : ∀ b ∈ fp, H3 b = none := fun b hb => (f3 b hb).1.1
    have stat : ∀ {σ' : L2.St} {H' : Hp} {s' : Shared}, Inv (X.blk s3 H3 scope ce fp) [] σ' H' s' → (∀ b ∈ fp, H' b = none) → ∀ b ∈ fp, FpOk (X.blk s3 H3 scope ce fp) [] H' b := fun {σ' H' s'} I' hn b hb =>
      ⟨hn b hb, (I'.ok.exf b hb).1, I'.ok.exfs b hb, .inl hb, fun x c e => (I'.ok.exf b hb).2 x c e, fun p hp => absurd (show p ∈ ([] : List (Addr × Obj)) ++ [] from hp) (by simp)⟩
    have loop : codeAny (model X.prog X.w) X.A (.compLoop (.SetComp elt [⟨tg, iter, ifs, 0⟩] scope pos) 0 (.ref it) (.ref D) ce) (compPost (model X.prog X.w) X.A X.xe none (EP X pins σ Q) (.ref D) s3.heap.objs.size) s4 := by
      refine PpSet.compLoopS_any (fun n s' => ∃ i H', Inv (X.blk s3 H3 scope ce fp) [] (wipe σ (own.map (·.2))) H' s' ∧ tn i s'.heap ∧ (∀ b ∈ fp, H' b = none) ∧ W i n H') ?_ m0 ⟨0, H3, I4, st4, nfp, w0⟩
      rintro n s5 ⟨i, H5, I5, st5, n5, w5⟩
      rcases turn i n H5 w5 with ⟨stop, qq⟩ | ⟨go, Nx, hNx, step⟩
      · refine thnF (T.done (X.blk s3 H3 scope ce fp) rfl rfl rfl hc i [] s5 _ H5 (fun _ _ => False) I5 (stat I5 n5) st5 stop) fun r s6 ⟨hr, I6⟩ => ?_
        subst hr
        have I7 : Inv X pins σ H5 s6 := I3.call' (ch := fp) I6.os I6.base I6.hok I6.bare fun b hb => ⟨(f3 b hb).1.2.2.2.1, (f3 b hb).1.2.1, (f3 b hb).1.2.2.2.2.1, (f3 b hb).1.2.2.2.2.2⟩
        have nC : H5 s3.heap.objs.size = none := by rw [← cL]; exact I6.free
        obtain ⟨m, hn, _⟩ := I6.loc
        replace hn : s6.heap.Ns s3.heap.objs.size m := by rw [← cL]; exact hn
        obtain ⟨c0, c1, c2, c3, c4, c5⟩ := I3.fpOk (Nat.le_refl _) nC
        exact ⟨m, hn, fun h'' sb => ⟨.ref D, H5, I7.turned (t' := s6.toks) (fun b o hb e => (sb.2 b hb).trans e) c0 c1 c3 c4 c5, rfl, qq⟩⟩
      · refine thnF (T.item (X.blk s3 H3 scope ce fp) rfl rfl rfl hc i [] s5 _ H5 (fun _ _ => False) I5 (stat I5 n5) st5 go) fun r s6 ⟨u, hr, h6⟩ => ?_
        subst hr
        refine thnF h6 fun _ s7 ⟨x, H7, I7, r7, y7, st7, n7⟩ => ?_
        refine thnF (pg.run _ s7 _ H7 x u _ (I7.pinned (stat I7 n7) (T.obj _ _ st7)) r7 (step x H7 y7)) fun _ s8 ⟨σ8, H8, I8, hw8, q8⟩ => ?_
        refine thnF (pt.run _ s8 σ8 H8 _ I8 q8) fun b s9 ⟨H9, I9, q9⟩ => ?_
        have fin : ∀ {s' : Shared} {H' : Hp}, Inv (X.blk s3 H3 scope ce fp) ([] ++ pinsAt fp s7.heap) σ8 H' s' → Nx H' → ∃ m, m < n ∧ ∃ i H', Inv (X.blk s3 H3 scope ce fp) [] (wipe σ (own.map (·.2))) H' s' ∧ tn i s'.heap ∧ (∀ b ∈ fp, H' b = none) ∧ W i m H' := fun {s' H'} I' nx => by
          obtain ⟨m', hm, w'⟩ := hNx H' nx
          have pin' : ∀ b ∈ fp, ∀ o, s7.heap.get? b = some o → s'.heap.get? b = some o ∧ H' b = none := fun b hb o e =>
            have z := I'.pin (b, o) (List.mem_append_right _ (List.mem_append_right _ (mem_pinsAt hb e)))
            ⟨z.1, z.2.1⟩
          have hl : (wipe σ (own.map (·.2))).length = σ8.length := by rw [← hw8, wipe_length]
          refine ⟨m', hm, i + 1, H', (I'.unpinned (pins := [])).weak hl (fun j v e => ?_), T.keep _ _ _ st7 fun b hb o e => (pin' b hb o e).1, fun b hb => ?_, w'⟩
          · rw [← hw8] at e
            exact (wipe_some e).1
          · obtain ⟨o, e, _⟩ := T.obj _ _ st7 b hb
            exact (pin' b hb o e).2
        cases b with
        | false => exact fin I9 q9
        | true =>
          refine thnF (pe.run _ s9 σ8 H9 _ I9 q9) fun z s10 ⟨yv, H10, I10, r10, k, l, ey, hD10, hz10, nx⟩ => ?_
          subst ey
          obtain ⟨tk, rfl⟩ : ∃ tk, z = Value.str k tk := r10
          exact addT_ok (X := X.blk s3 H3 scope ce fp) I10 hD10 hz10 fun s11 I11 => fin I11 nx
    exact PpSet.codeAny_compStart_set loop (T.self X.A 0 _ _ _ st4 loop)
  subst hD
  subst hs3
  exact cast
end
end M3

/-! L6P: sorted({e for x in xs if t}), e a text: read as one new list. -/
namespace M3
open PySem L2 PySem.Froz PyProof.Rows
theorem setTO_noCode {P : Program} {w : World} {D c : Addr} {l : List Str} {q : Str} : SetTO P w D l ≠ LamX.CodeO c q := fun z => by
  unfold SetTO LamX.CodeO at z
  injection z with z
  let oc : Obj := { cls := .none, data := .fields #[.none, .str q default] }
  let h : Heap := ⟨Array.replicate (c + 1) oc, {}⟩
  have hg : h.get? c = some oc := by
    unfold Heap.get?
    have : (Array.replicate (c + 1) oc)[c]? = some oc := by simp
    show (match (Array.replicate (c + 1) oc)[c]? with | some ⟨_, _, .freed, _⟩ => none | o => o) = _
    rw [this]
  have z1 := congrFun z h
  have z2 : ∃ D', h.get? D = some (sObj "set" D') ∧ TxS P w D' l := by
    rw [z1]
    exact ⟨oc, _, _, hg, rfl, rfl⟩
  obtain ⟨D', e, _⟩ := z2
  have : ∀ o, h.get? D = some o → o = oc := fun o ho => by
    have ho : (match (Array.replicate (c + 1) oc)[D]? with | some ⟨_, _, .freed, _⟩ => none | o => o) = some o := ho
    by_cases hl : D < c + 1
    · have : (Array.replicate (c + 1) oc)[D]? = some oc := by simp [hl]
      rw [this] at ho
      cases ho; rfl
    · have : (Array.replicate (c + 1) oc)[D]? = none := Array.getElem?_eq_none (by rw [Array.size_replicate]; exact Nat.le_of_not_lt hl)
      rw [this] at ho
      cases ho
  have := this _ e
  have : (sObj "set" D').data = oc.data := by rw [this]
  cases this
section
variable {K : PySem.W.Frag} {c : Cf} {W : WX} {te : TE} {t : E3}
theorem lift_ofFr (h : LiftFr K c W te t) : Lift K c W te t := by
  intro σ3 Q3 X ht Hb G A σ H Q R k e
  refine h _ _ _ ht Hb G A σ H Q R (fun D vs ds H' f q => ?_) e
  have sm : Same (hid (D :: c.S G A) H') (hid (c.S G A) H') := hid_mono fun a h => List.mem_cons_of_mem _ h
  exact k _ _ H' f.le (.mkL (hid_mk f.at_ f.nD) (f.rep.mono sm)) q
end
def compS (g : TG3) (tt : B3) (te : E3) (σ : List Sl) (X : X3) (Q : List Str → Prop) : List T → List Str → Prop
  | [], acc => Q acc
  | x :: r, acc => g x σ fun σ' => tt σ' (fun b => if b = true then te σ' (fun y => ob (asS y) fun k => acc.length + 1 < 64 ∧ compS g tt te σ X Q r (putS acc k)) X else compS g tt te σ X Q r acc) X
def sorted3 (acc : List Str) (Q : T → Prop) : Prop := acc.length < 64 ∧ ∀ ys : List Str, ys.Perm acc → sortedS ys = true → Q (.lst (ys.map T.str))
def sortSc3 (s : A3) (g : TG3) (tt : B3) (te : E3) (vs : List Nat) : E3 := fun σ Q X => noOwn σ vs ∧ s σ (fun ds => compS g tt te (wipe3 σ vs) X (fun acc => sorted3 acc Q) ds []) X
theorem repL_strs {K : PySem.W.Frag} {H : Hp} : ∀ ys : List Str, RepL K H (ys.map V.str) (ys.map T.str)
  | [] => .nil
  | y :: ys => .cons (.str y) (repL_strs ys)
theorem lift_frSc {K : PySem.W.Frag} {c : Cf} {W : WX} {P : Program} {wo : World} {wk : Bool} {vs : List Nat} {wi : TI} {s : A3} {g : TG} {g3 : TG3} {tt : TT} {b : B3} {te : TE} {e3 : E3} (hi : LiftIB K c wk W wi s) (hg : LiftTgB K c wk vs g g3) (ht : LiftT K c W tt b) (he : Lift K c W te e3)
    (hW : ∀ cls dd σ σ' H, W cls dd σ H → W cls dd σ' H) : LiftFr K c W (tCB (rSortT P wo) (tCons (tScT P wo wi g tt te vs) tNil)) (sortSc3 s g3 b e3 vs) := by
  intro σ3 Q3 X h Hb G A σ H Q R k e
  obtain ⟨no, h⟩ := h
  refine hi _ _ _ h Hb G A σ H _ R (fun J ds H1 L1 w q => ?_) e
  have R1 := R.le L1
  intro D hD
  have nD : D ∉ c.S G A := R1.free hD
  have RW := R1.wiped (vs := vs) no
  refine ⟨fun i m H' => m = ds.length - i ∧ i ≤ ds.length ∧ ∃ acc, H' D = some (SetTO P wo D acc) ∧ compS g3 b e3 (wipe3 σ3 vs) X (fun ys => sorted3 ys Q3) (ds.drop i) acc ∧
    Same (hid (c.S G A) H1) (hid (D :: c.S G A) H') ∧ (∀ a ∈ G ++ addrs A, H' a = H1 a) ∧ c.I H', ⟨ds.length, rfl, Nat.zero_le _, [], upd_same, by simpa using q, ?_, ?_, ?_⟩, ?_⟩
  · rw [hid_upd_in (List.mem_cons_self ..)]
    intro a o z
    obtain ⟨z1, z2⟩ := hid_some z
    exact hid_mk z1 fun y => by
      rcases List.mem_cons.mp y with y | y
      · subst y; rw [hD] at z1; cases z1
      · exact z2 y
  · exact (R1.new hD).own
  · exact (R1.new hD).inv
  rintro i m H2 ⟨rfl, hi, acc, hd2, q2, vis, own, inv⟩
  have vis' : Same (hid (c.S G A) H1) (hid (c.S G A) H2) := Same.trans vis (hid_mono fun a h => List.mem_cons_of_mem _ h)
  by_cases hl : i = ds.length
  · subst hl
    left
    refine ⟨w.stop _ _ vis', ?_⟩
    have e' : ds.drop ds.length = [] := List.drop_length
    rw [e'] at q2
    obtain ⟨q3, q4⟩ : sorted3 acc Q3 := q2
    refine ⟨D, acc, rfl, hd2, q3, fun ys p hp hs hn => ?_⟩
    have L2 : Le c G A H H2 := L1.trans ⟨vis', own, inv⟩
    have f := (R.le L2).frD hn (repL_strs (K := K) ys)
    exact k p _ _ _ ⟨f.nD, Same.trans L2.vis f.vis, fun a ha => (f.own a ha).trans (L2.own a ha), f.inv, f.at_, f.rep⟩ (q4 ys hp hs)
  · right
    have hlt : i < ds.length := Nat.lt_of_le_of_ne hi hl
    have hdd : ds[i]? = some ds[i] := List.getElem?_eq_getElem hlt
    rw [List.drop_eq_getElem_cons hlt] at q2
    refine ⟨w.go i _ _ _ hdd vis', fun H3 => ∃ acc, H3 D = some (SetTO P wo D acc) ∧ compS g3 b e3 (wipe3 σ3 vs) X (fun ys => sorted3 ys Q3) (ds.drop (i + 1)) acc ∧
      Same (hid (c.S G A) H1) (hid (D :: c.S G A) H3) ∧ (∀ a ∈ G ++ addrs A, H3 a = H1 a) ∧ c.I H3, ?_, ?_⟩
    · rintro H3 ⟨acc, z⟩
      exact ⟨ds.length - (i + 1), by omega, rfl, hlt, acc, z⟩
    · intro x H3 y
      have RU := RW.under hD hd2 vis own inv (c.gV _ rfl)
      have sD : ∀ a, a ∈ c.S (D :: G) A ↔ a ∈ D :: c.S G A := fun a => by
        rw [mem_S, List.mem_cons, List.mem_cons, mem_S]
        exact ⟨fun h => by rcases h with h | (h | h) | h <;> simp [h], fun h => by rcases h with h | h | h | h <;> simp [h]⟩
      have sm1 : ∀ H, Same (hid (c.S (D :: G) A) H) (hid (D :: c.S G A) H) := fun H => hid_mono fun a h => (sD a).mpr h
      have sm2 : ∀ H, Same (hid (D :: c.S G A) H) (hid (c.S (D :: G) A) H) := fun H => hid_mono fun a h => (sD a).mp h
      obtain ⟨hn, rx⟩ := w.yld i _ (c.S (D :: G) A) _ x H3 hdd (Same.trans vis (sm2 _)) (fun a h => RU.there h) y
      have L3 : Le c (D :: G) A H2 H3 := by
        rcases hn with rfl | ⟨p, o, hp, rfl⟩
        · exact Le.refl inv
        · exact RU.new hp
      have R3' := RU.le L3
      have back : ∀ H', Le c (D :: G) A H2 H' → Same (hid (c.S G A) H1) (hid (D :: c.S G A) H') ∧ (∀ a ∈ G ++ addrs A, H' a = H1 a) ∧ c.I H' ∧ H' D = some (SetTO P wo D acc) := fun H' L => by
        refine ⟨Same.trans vis (Same.trans (sm2 _) (Same.trans L.vis (sm1 _))), fun a h => ?_, L.inv, ?_⟩
        · rw [L.own a (by rcases List.mem_append.mp h with h | h <;> simp [h]), own a h]
        · rw [L.own D (by simp), hd2]
      have exn : ∀ (σ' : L2.St) cls dd x H', Le c (D :: G) A H2 H' → XRep K (hid (c.S (D :: G) A) H') cls dd x → X x → W cls dd σ' H' := fun σ' cls dd x H' L r hx => by
        obtain ⟨b1, b2, b3, b4⟩ := back H' L
        refine hW cls dd σ σ' H' (e cls dd x H' (L1.trans ⟨Same.trans b1 (hid_mono fun a h => List.mem_cons_of_mem _ h), b2, b3⟩) ?_ hx)
        have sm : Same (hid (c.S (D :: G) A) H') (hid (c.S G A) H') := Same.trans (sm1 _) (hid_mono fun a h => List.mem_cons_of_mem _ h)
        obtain ⟨r1, r2⟩ := r
        refine ⟨r1, ?_⟩
        cases dd with
        | none => exact r2
        | some d =>
          obtain ⟨fs, f1, f2, f3⟩ := r2
          exact ⟨fs, sm _ _ f1, f2, f3.mono sm⟩
      refine hg _ _ _ q2 _ (D :: G) A _ H3 x _ R3' rx (fun A4 σ4 σ4' H4 R4 e4 st q4 => ?_)
      subst e4
      refine ⟨?_, ?_⟩
      · rw [wipe_eq st.1 (fun j hj => (st.2.1 j hj).1), wipe_wipe]
      have hA4 : A4 = A := by
        apply List.ext_getElem?
        intro j
        by_cases hj : j ∈ vs
        · have l4 : A4.length = A.length := by rw [R4.l1, RW.l1, ← RW.l2, ← R4.l2, st.1]
          by_cases hjl : j < A.length
          · have g4 : j < A4.length := by rw [l4]; exact hjl
            have hno : A[j]? = some none := by
              have h1 : j < (wipe3 σ3 vs).length := by rw [← RW.l1]; exact hjl
              have h2 : j < (wipe σ vs).length := by rw [RW.l2]; exact h1
              have z := RW.at_ j _ _ _ (List.getElem?_eq_getElem h1) (List.getElem?_eq_getElem hjl) (List.getElem?_eq_getElem h2)
              rw [List.getElem?_eq_getElem hjl]
              cases ee : (wipe3 σ3 vs)[j] with
              | no => rw [ee] at z; rw [z]
              | val t => rw [ee] at z; rw [z.1]
              | own t =>
                have w1 : (wipe3 σ3 vs)[j]? = some (.own t) := by rw [List.getElem?_eq_getElem h1, ee]
                exact absurd (wipe3_own w1) (no j hj t)
            rw [hno]
            cases ea : A4[j] with
            | none => rw [List.getElem?_eq_getElem g4, ea]
            | some p =>
              have m4 : p ∈ addrs A4 := mem_addrs.mpr (by rw [← ea]; exact List.getElem_mem g4)
              have m : p ∈ addrs A := st.2.2 p m4
              obtain ⟨i', hi'⟩ := List.getElem?_of_mem (mem_addrs.mp m)
              have hij : i' ≠ j := fun z => by subst z; rw [hno] at hi'; cases hi'
              by_cases hv : i' ∈ vs
              · have hjl' := (List.getElem?_eq_some_iff.mp hi').1
                have h1 : i' < (wipe3 σ3 vs).length := by rw [← RW.l1]; exact hjl'
                have h2 : i' < (wipe σ vs).length := by rw [RW.l2]; exact h1
                have z := RW.at_ i' _ _ _ (List.getElem?_eq_getElem h1) hi' (List.getElem?_eq_getElem h2)
                cases ee : (wipe3 σ3 vs)[i'] with
                | no => rw [ee] at z; cases z
                | val t => rw [ee] at z; cases z.1
                | own t =>
                  have w1 : (wipe3 σ3 vs)[i']? = some (.own t) := by rw [List.getElem?_eq_getElem h1, ee]
                  exact absurd (wipe3_own w1) (no i' hv t)
              · have : A4[i']? = some (some p) := by rw [(st.2.1 i' hv).2]; exact hi'
                have two : ∀ {B : List (Option Addr)} {i j : Nat}, (addrs B).Nodup → B[i]? = some (some p) → B[j]? = some (some p) → i = j := by
                  intro B
                  induction B with
                  | nil => intro i j _ h; simp at h
                  | cons b B ih =>
                    intro i j hN h1 h2
                    cases i with
                    | zero =>
                      cases j with
                      | zero => rfl
                      | succ j =>
                        simp at h1 h2
                        subst h1
                        exact absurd (mem_addrs.mpr (List.mem_of_getElem? h2)) (List.nodup_cons.mp (show (p :: addrs B).Nodup from hN)).1
                    | succ i =>
                      cases j with
                      | zero =>
                        simp at h1 h2
                        subst h2
                        exact absurd (mem_addrs.mpr (List.mem_of_getElem? h1)) (List.nodup_cons.mp (show (p :: addrs B).Nodup from hN)).1
                      | succ j =>
                        simp at h1 h2
                        have hN' : (addrs B).Nodup := by
                          cases b with
                          | none => exact hN
                          | some q => exact (List.nodup_cons.mp (show (q :: addrs B).Nodup from hN)).2
                        rw [ih hN' h1 h2]
                exact absurd (two R4.nd this (by rw [List.getElem?_eq_getElem g4, ea])) hij
          · rw [List.getElem?_eq_none (by omega), List.getElem?_eq_none (by omega)]
        · exact (st.2.1 j hj).2
      subst hA4
      refine ht _ _ _ q4 _ (D :: G) A4 σ4' H4 _ R4 (fun bv bb H5 L5 rb q5 => ?_) (fun cls dd x H' L => exn _ cls dd x H' (L3.trans L))
      subst rb
      cases bv with
      | false =>
        refine iteF ?_
        obtain ⟨b1, b2, b3, b4⟩ := back H5 (L3.trans L5)
        exact ⟨acc, b4, by simpa using q5, b1, b2, b3⟩
      | true =>
        refine iteT ?_
        refine he _ _ _ (show e3 σ4 _ X by simpa using q5) _ (D :: G) A4 σ4' H5 _ (R4.le L5) (fun y d H6 L6 ry q6 => ?_) (fun cls dd x H' L => exn _ cls dd x H' ((L3.trans L5).trans L))
        obtain ⟨b1, b2, b3, b4⟩ := back H6 ((L3.trans L5).trans L6)
        obtain ⟨kx, ek, q7, q8⟩ := ob_iff.mp q6
        cases asS_is ek
        cases ry.strI
        have h64 : 64 ≤ scanBound := by decide
        refine ⟨kx, acc, rfl, b4, by omega, putS acc kx, upd_same, q8, ?_, ?_, ?_⟩
        · rw [hid_upd_in (List.mem_cons_self ..)]
          exact b1
        · intro a ha
          have : a ≠ D := fun z => by
            subst z
            exact nD (mem_S.mpr (by rcases List.mem_append.mp ha with z | z; exact .inr (.inl z); exact .inr (.inr z)))
          rw [upd_ne this]
          exact b2 a ha
        · exact c.st H6 _ (fun a ha => by rw [upd_ne (fun z => nD (by rw [← z]; exact mem_S.mpr (.inl ha)))]) (fun a φ e => by
            have : a ≠ D := fun z => by
              subst z
              rw [b4] at e
              exact setTO_noCode (Option.some.inj e)
            rw [upd_ne this]; exact e) b3
end M3

/-! L6Q: sorted(set(texts)). -/
namespace M3
open PySem PySem.Spec PySem.Froz PyProof.Rows L2
/-- the texts of a list, each once -/
def setOf (xs : List Str) : List Str := xs.foldl putS []
theorem putS_len (l : List Str) (k : Str) : (putS l k).length ≤ l.length + 1 := by
  unfold putS
  split <;> simp
theorem setOf_take_succ (xs : List Str) (i : Nat) (h : i < xs.length) : setOf (xs.take (i + 1)) = putS (setOf (xs.take i)) (xs.getD i Str.empty) := by
  have ei : xs[i]? = some (xs.getD i Str.empty) := by
    rw [List.getD_eq_getElem?_getD, List.getElem?_eq_getElem h]
    rfl
  unfold setOf
  rw [List.take_add_one, ei, List.foldl_append]
  rfl
theorem foldS_len : ∀ (xs l : List Str), (xs.foldl putS l).length ≤ l.length + xs.length
  | [], l => by simp
  | x :: xs, l => by
    have := foldS_len xs (putS l x)
    have h2 := putS_len l x
    simp only [List.foldl_cons, List.length_cons]
    omega
theorem setOf_len (xs : List Str) : (setOf xs).length ≤ xs.length := by
  have := foldS_len xs []
  simpa [setOf] using this
theorem boot_sorted' : bootBuiltins "sorted" = some (.builtin "sorted") := by decide +kernel
section
variable {prog : Program} {w : World} {A : Around} {R : Result → Shared → Prop} {I : Addr} {fp wr : List Addr} {G : Array GenState → Array GenState → Prop} {n : Nat} {P : Nat → Value → Prop} {St : Nat → Shared → Prop}
def SetAt (prog : Program) (w : World) (h : Heap) (S : Addr) (l : List Str) : Prop := ∃ D, h.get? S = some (sObj "set" D) ∧ TxS prog w D l
theorem setAt_moved {S : Addr} {l : List Str} {h h' : Heap} (e : ∀ o, h.get? S = some o → h'.get? S = some o) (x : SetAt prog w h S l) : SetAt prog w h' S l := by
  obtain ⟨D, ho, r⟩ := x
  exact ⟨D, e _ ho, r⟩
theorem setAdd_at {A : Around} {E : Value → Shared → Prop} {s : Shared} {a : Addr} {l : List Str} {k : Str} {u : Tok} {Q : Bool → Shared → Prop} (hS : SetAt prog w s.heap a l) (hb : l.length + 1 < scanBound)
    (h : ∀ b (h' : Heap), SetAt prog w h' a (putS l k) → (∀ c o, c ≠ a → s.heap.get? c = some o → h'.get? c = some o) → Q b { s with heap := h', toks := s.toks + 1 }) : wpAny (model prog w) A (setAdd a (.str k u)) Q E s := by
  obtain ⟨D, ho, T⟩ := hS
  unfold setAdd
  refine wpAny_holding ?_
  refine wpAny_bind (wpAny_pyHash_str ?_)
  by_cases hk : k ∈ l
  · refine add_there (s := { s with toks := s.toks + 1 }) ho T.ok hk (by omega) ?_
    have e : putS l k = l := if_pos hk
    exact h _ s.heap (by rw [e]; exact ⟨D, ho, T⟩) fun _ _ _ z => z
  · refine add_x (s := { s with toks := s.toks + 1 }) ho T.ok hk hb ?_
    have e : putS l k = k :: l := if_neg hk
    exact h _ _ (by rw [e]; exact ⟨_, get_upd (sObj "set" (addTx (hashStr w k) (.str k u) D)) ho rfl, T.add u hk⟩) fun b v hb hv => by
      rw [Heap.get?_update_ne _ _ _ _ hb]
      exact hv
theorem loopTx (wk : WalksS prog w A.in1 I fp wr G n P St) (S : Addr) (nS : S ∉ fp) (xs : List Str) (hsz : xs.length = n) (hb : n + 1 < scanBound) (hv : ∀ i v, P i v → ∃ t, v = .str (xs.getD i Str.empty) t) (j : Nat) :
    ∀ (i : Nat) (s : Shared), n - i = j → i ≤ n → St i s → SetAt prog w s.heap S (setOf (xs.take i)) →
      (∀ s2, Moved (S :: wr) G s s2 → SetAt prog w s2.heap S (setOf (xs.take n)) → R (.ok (.ret .none)) s2) → codeAny (model prog w) A (.builtin "set.update.loop" ⟨[.ref S, .ref I], []⟩) R s := by
  have nw : S ∉ wr := fun z => nS (wk.sub _ z)
  induction j with
  | zero =>
    intro i s e1 e2 st hS hR
    obtain rfl : i = n := by omega
    refine codeAny_builtin PyProof.Rows.F.entry_set_update_loop ?_
    rw [Around.under_plainId PyProof.Rows.F.plain_set_update_loop _]
    refine wpAny_bind (m := pyNext (.ref I)) (wk.done s _ _ st fun s2 mv => ?_)
    exact wpAny_pure (hR s2 (mv.mono fun b z => List.mem_cons_of_mem _ z) (setAt_moved (fun o ho => mv.heap S _ nw ho) hS))
  | succ j ih =>
    intro i s e1 e2 st hS hR
    have lt : i < n := by omega
    refine codeAny_builtin PyProof.Rows.F.entry_set_update_loop ?_
    rw [Around.under_plainId PyProof.Rows.F.plain_set_update_loop _]
    refine wpAny_bind (m := pyNext (.ref I)) (wk.item i s _ _ lt st fun v s2 hP st2 mv => ?_)
    obtain ⟨t, rfl⟩ := hv i v hP
    have hS2 := setAt_moved (h' := s2.heap) (fun o ho => mv.heap S _ nw ho) hS
    show wpAny _ A.in1 (holding [Value.str (xs.getD i Str.empty) t] (setAdd S (.str (xs.getD i Str.empty) t)) >>= _) _ _ s2
    refine wpAny_bind (wpAny_holding ?_)
    have small : (setOf (xs.take i)).length ≤ i := Nat.le_trans (setOf_len _) (by simp; omega)
    refine setAdd_at hS2 (by omega) fun b h3 hS3 sb => ?_
    have hS4 : SetAt prog w h3 S (setOf (xs.take (i + 1))) := by
      rw [setOf_take_succ xs i (by omega)]
      exact hS3
    refine wpAny_pure ⟨plainId_quiet PyProof.Rows.F.plain_set_update_loop _, ih (i + 1) _ (by omega) lt (wk.frame _ s2 _ _ st2 (Nat.le_succ _) fun b hb o e => ?_) hS4 fun s5 mv5 hS5 => ?_⟩
    · exact sb b o (fun z => nS (by rw [← z]; exact hb)) e
    · refine hR s5 (Moved.trans wk.gtrans ((mv.mono fun b z => List.mem_cons_of_mem _ z).then_heap (Nat.le_succ _) fun b o hb e => ?_) mv5) hS5
      exact sb b o (fun z => hb (by rw [z]; exact List.mem_cons_self ..)) e
end
section
variable {prog : Program} {w : World} {A : Around} {E : Value → Shared → Prop} {s : Shared}
abbrev ledOf (w : World) : Bool := !w.params.followText "set-order"
theorem code_set_new_led (a : Value) {Q₁ : Value → Shared → Prop}
    (h : Q₁ (.ref s.heap.objs.size) { s with heap := s.heap.push (set0 (ledOf w)) }) :
    codeAny (model prog w) A (.call (.builtin "set.__new__") ⟨[.type "set", a], []⟩) (wants Q₁ E) s := by
  refine codeAny_of_tree ?_
  show wpAny _ A.in1 (do checkBuiltinCall "set.__new__" ⟨[.type "set", a], []⟩; again (.builtin "set.__new__" ⟨[.type "set", a], []⟩)) _ _ s
  refine wpAny_bind (wpAny_of_eq (F.newCall_set_1 a) (wpAny_pure ⟨plainId_quiet F.plain_set_new _, codeAny_builtin F.entry_set_new ?_⟩))
  rw [Around.under_plainId F.plain_set_new _]
  unfold Builtin.«set.__new__» Builtin.Frozenset.newClass
  have hsub := sub_set_self
  obtain ⟨hp, g, d, tk, os⟩ := s
  dsimp only
  wp_walk
  refine wpAny_askSetting (wpAny_pure ?_)
  dsimp only
  simp only [newObj]
  refine wpAny_bind (wpAny_alloc (wpAny_pure ?_))
  exact wpAny_pure h
theorem set_ofLed {v : Value} {Q : Value → Shared → Prop} {Z : Shared → Prop} (hZ : ∀ s2, Z s2 → Q (.ref s.heap.objs.size) s2)
    (hi : wpAny (model prog w) A.in1.in1 (Builtin.«set.__init__» ⟨[.ref s.heap.objs.size, v], []⟩)
        (fun fin s' => match fin with | .done f => wants (fun r s2 => r = .none ∧ Z s2) E (.ok f) s' | .again c' => c'.quiet = true ∧ codeAny (model prog w) A.in1 c' (wants (fun r s2 => r = .none ∧ Z s2) E) s')
        (fun e s' => wants (fun r s2 => r = .none ∧ Z s2) E (.error e) s') { s with heap := s.heap.push (set0 (ledOf w)) }) :
    wpAny (model prog w) A (call (.type "set") [v]) Q E s := by
  obtain ⟨_, _, m1⟩ := PySem.F.called_set.mro
  have m2 := PySem.F.called_set.made
  have m3 := PySem.F.called_set.sub
  have m4 := PySem.F.called_set.notType
  have m5 := PySem.F.called_set.canCreate
  have m6 := PySem.F.typeCall_set_1 v
  refine wpAny_call (codeAny_of_tree (?_ : wpAny _ _ (callAny (.type "set") _) _ _ _))
  refine wpAny_pure ⟨Code.quiet_builtin _ (by decide +kernel), (codeAny_builtin PySem.F.entry_type_call (?_))⟩
  rw [Around.under_plain (weight_type_call_type "set" [v] []) rfl]
  repeat any_goals first | assumption | wp_step
  refine codeAny_mono (code_set_new_led v (E := E) (Q₁ := fun x s1 => x = .ref s.heap.objs.size ∧ s1 = { s with heap := s.heap.push (set0 (ledOf w)) }) ⟨rfl, rfl⟩) ?_
  rintro (e | fl) s1 hr
  · exact hr
  cases fl with
  | ret x =>
    obtain ⟨rfl, rfl⟩ := hr
    have n1 : Shared.TypeIs { s with heap := s.heap.push (set0 (ledOf w)) } (.ref s.heap.objs.size) "set" := ⟨_, Heap.get?_push_size _ rfl, rfl⟩
    have n2 := PySem.F.called_set.init.lookup
    have n3 := PySem.F.called_set.init.bind (.ref s.heap.objs.size)
    repeat any_goals first | assumption | wp_step
    refine codeAny_mono (codeAny_call_builtin (R := wants (fun r s2 => r = .none ∧ Z s2) E) PySem.F.called_set.init.plain PySem.F.entry_set_init (check_set_init_1 n1 hi)) ?_
    rintro (e | f2) s2 h2
    · exact h2
    cases f2 with
    | ret r =>
      obtain ⟨rfl, hz⟩ := h2
      have hq := hZ _ hz
      repeat any_goals first | assumption | wp_step
    | _ => exact h2.elim
  | _ => exact hr.elim
theorem set_textsX {l : Addr} {items : Array Value} {xs : List Str} {Q : Value → Shared → Prop} (hh : A.handled = none) (hl : s.heap.IsList l items ∨ s.heap.IsTuple l items) (hi : StrsAre items.toList xs) (hb : xs.length + 1 < scanBound)
    (h : ∀ (h2 : Heap) (tk : Nat), SetAt prog w h2 s.heap.objs.size (setOf (xs.take items.size)) →
      (∀ b o, s.heap.get? b = some o → h2.get? b = some o) → Q (.ref s.heap.objs.size) { s with heap := h2, toks := tk }) : wpAny (model prog w) A (call (.type "set") [.ref l]) Q E s := by
  refine set_ofLed (Z := fun s2 => ∃ h2 tk, s2 = { s with heap := h2, toks := tk } ∧ SetAt prog w h2 s.heap.objs.size (setOf (xs.take items.size)) ∧ ∀ b o, s.heap.get? b = some o → h2.get? b = some o) ?_ ?_
  · rintro s2 ⟨h2, tk, rfl, z1, z2⟩
    exact h h2 tk z1 z2
  obtain ⟨led, hled⟩ : ∃ led, led = ledOf w := ⟨_, rfl⟩
  rw [← hled]
  have hS : (s.heap.push (set0 led)).get? s.heap.objs.size = some (set0 led) := Heap.get?_push_size _ rfl
  have hS0 : SetAt prog w (s.heap.push (set0 led)) s.heap.objs.size (setOf (xs.take 0)) := by
    refine ⟨(#[], 0, .fresh 0 0 (ledOf w)), ?_, txs_fresh⟩
    rw [hS, hled]
    rfl
  have sz : xs.length = items.size := by rw [← StrsAre.len_eq hi, Array.length_toList]
  have hv : ∀ (i : Nat) (v : Value), items[i]? = some v → ∃ t, v = .str (xs.getD i Str.empty) t := fun i v e => SS.strs_at hi i v (by rw [Array.getElem?_toList]; exact e)
  have h3 : A.in1.in1.in1.handled = none := by simp [hh]
  have hT : Shared.TypeIs { s with heap := s.heap.push (set0 led) } (.ref s.heap.objs.size) "set" := ⟨_, hS, rfl⟩
  have goOn : ∀ {it : Obj} {St : Nat → Shared → Prop} {E' : Value → Shared → Prop} {K : Value → Shared → Prop} (lt : l < s.heap.objs.size), it.isFreed = false →
      WalksS prog w A.in1.in1.in1 (s.heap.push (set0 led)).objs.size [(s.heap.push (set0 led)).objs.size, l] [(s.heap.push (set0 led)).objs.size] (fun a b => b = a) items.size (fun i v => items[i]? = some v) St →
      St 0 { s with heap := (s.heap.push (set0 led)).push it } →
      (∀ s2, (∃ h2 tk, s2 = { s with heap := h2, toks := tk } ∧ SetAt prog w h2 s.heap.objs.size (setOf (xs.take items.size)) ∧ ∀ b o, s.heap.get? b = some o → h2.get? b = some o) → K .none s2) →
      codeAny (model prog w) A.in1.in1 (.builtin "set.update.loop" ⟨[.ref s.heap.objs.size, .ref (s.heap.push (set0 led)).objs.size], []⟩) (wants K E') { s with heap := (s.heap.push (set0 led)).push it } := by
    intro it St E' K lt nf wk st hk
    refine loopTx wk s.heap.objs.size ?_ xs sz (by omega) hv (items.size - 0) 0 _ rfl (Nat.zero_le _) st ?_ ?_
    · rw [Heap.size_push]
      simp only [List.mem_cons, List.not_mem_nil, or_false, not_or]
      exact ⟨Nat.ne_of_lt (Nat.lt_succ_self _), Nat.ne_of_gt lt⟩
    · exact setAt_moved (fun o e => Heap.get?_push_of_some _ e) hS0
    · rintro ⟨h2, g2, d2, t2, o2⟩ mv hS2
      have e1 : g2 = s.gens := mv.gens
      have e2 : d2 = s.drawn := mv.drawn
      have e3 : o2 = s.os := mv.os
      subst e1 e2 e3
      refine hk _ ⟨h2, t2, rfl, hS2, fun b o e => ?_⟩
      have lb := Heap.lt_size e
      refine mv.heap b o ?_ (Heap.get?_push_of_some _ (Heap.get?_push_of_some _ e))
      rw [Heap.size_push]
      simp only [List.mem_cons, List.not_mem_nil, or_false, not_or]
      exact ⟨Nat.ne_of_lt lb, Nat.ne_of_lt (Nat.lt_succ_of_lt lb)⟩
  rcases hl with hl | hl
  · obtain ⟨⟨c1, d1, dt1, sl1⟩, ho, ec, nl, ed⟩ := hl
    simp only at ec ed
    subst ec; subst ed
    have lt := Heap.lt_size ho
    have ho2 : (s.heap.push (set0 led)).get? l = some { cls := .type "list", dict := d1, data := .seq items nl, slots := sl1 } := Heap.get?_push_of_some _ ho
    have isL : (s.heap.push (set0 led)).IsList l items := ⟨_, ho2, rfl, nl, rfl⟩
    have q1 := PySem.F.sub_list_set
    have q2 := PySem.F.sub_list_frozenset
    have q3 : (Value.type "list" == Value.type "dict") = false := by decide
    unfold Builtin.«set.__init__» noKeywords Builtin.Frozenset.updateFrom
    generalize hPI : pyIter = PI
    wp_walk
    subst hPI
    refine wpAny_pyIter_list isL (wpAny_bind (wpAny_runValue ?_))
    have ne : l ≠ (s.heap.push (set0 led)).objs.size := by rw [Heap.size_push]; exact Nat.ne_of_lt (Nat.lt_succ_of_lt lt)
    refine goOn lt rfl ((PySem.Walks.list h3 _ l ne items).toS) ⟨⟨_, Heap.get?_push_size _ rfl, rfl, rfl⟩, isL.push _⟩ fun s2 hz => ?_
    exact wpAny_pure (wpAny_pure ⟨rfl, hz⟩)
  · obtain ⟨⟨c1, d1, dt1, sl1⟩, ho, ec, nl, ed⟩ := hl
    simp only at ec ed
    subst ec; subst ed
    have lt := Heap.lt_size ho
    have ho2 : (s.heap.push (set0 led)).get? l = some { cls := .type "tuple", dict := d1, data := .seq items nl, slots := sl1 } := Heap.get?_push_of_some _ ho
    have isT : (s.heap.push (set0 led)).IsTuple l items := ⟨_, ho2, rfl, nl, rfl⟩
    have q1 := PySem.F.sub_tuple_set
    have q2 := PySem.F.sub_tuple_frozenset
    have q3 : (Value.type "tuple" == Value.type "dict") = false := by decide
    unfold Builtin.«set.__init__» noKeywords Builtin.Frozenset.updateFrom
    generalize hPI : pyIter = PI
    wp_walk
    subst hPI
    refine wpAny_pyIter_tuple isT (wpAny_bind (wpAny_runValue ?_))
    have ne : l ≠ (s.heap.push (set0 led)).objs.size := by rw [Heap.size_push]; exact Nat.ne_of_lt (Nat.lt_succ_of_lt lt)
    refine goOn lt rfl ((PySem.Walks.tuple h3 _ l ne items).toS) ⟨⟨_, Heap.get?_push_size _ rfl, rfl, rfl⟩, isT.push _⟩ fun s2 hz => ?_
    exact wpAny_pure (wpAny_pure ⟨rfl, hz⟩)
end
/-- sorted(set(x)) of texts -/
def tSortSet (K : PySem.W.Frag) (ta : TE) : TE := fun σ H Q => ta σ H fun x H1 => ∃ l, ∃ xs : List Str, x = .ref l ∧ (SqL K H1 l (xs.map V.str) ∨ SqT K H1 l (xs.map V.str)) ∧ xs.length < 63 ∧
  ∀ (ys : List Str) (p : Addr), ys.Perm (setOf xs) → sortedS ys = true → H1 p = none → Q (.ref p) (upd H1 p (.lst (ys.map V.str)))
theorem pe_sortSet {X : Cx} {K : PySem.W.Frag} {a : Expr} {ta : TE} {p p2 q pos : Pos} (hK : X.K = K) (hc : X.calm = true) (hg : Gl X "sorted") (hm : X.mg "sorted" = none) (hg2 : Gl X "set") (hm2 : X.mg "set" = none) (ha : PE X a ta)
    (na : starEach [a] X.env = (false, eval a X.env) :: starEach [] X.env := by rfl) : PE X (.Call (.Name "sorted" p) [.Call (.Name "set" p2) [a] [] q] [] pos) (tSortSet K ta) := by
  subst hK
  constructor
  intro pins s σ H Q I h
  refine Call_ (ld_blt I hg hm boot_sorted' (callWith_builtin1 (args_cons (Call_ (ld_blt I hg2 hm2 boot_set (callWith_type1 (args_cons (thn (ha.run pins s σ H _ I h) ?_) na) na rfl))) rfl) rfl rfl))
  rintro v s1 ⟨x, H1, I1, r1, l, xs, rfl, hq, h1, q1⟩
  cases r1
  refine args_nil ?_
  have fin : ∀ (its : List Value), Vals (xs.map V.str) its → (s1.heap.IsList l its.toArray ∨ s1.heap.IsTuple l its.toArray) →
      wpAny (model X.prog X.w) X.A (call (.type "set") [.ref l]) (fun v s' => wpAny (model X.prog X.w) X.A (spliced (backTo pos (starEach [] X.env))) (fun vs s2 => wpAny (model X.prog X.w) X.A (call (.builtin "sorted") (v :: vs)) (EP X pins σ Q) X.xe s2) X.xe s') X.xe s1 := fun its r isS => by
    have h64 : 64 ≤ scanBound := by decide
    refine set_textsX (xs := xs) (I1.ok.hd hc) isS (by simpa using strsAre_of r) (by omega) fun h2 tk hS kp => ?_
    refine args_nil ?_
    have hl : its.toArray.size = xs.length := by rw [List.size_toArray, ← r.length, List.length_map]
    rw [hl, List.take_length] at hS
    obtain ⟨D, ho, T⟩ := hS
    have I2 : Inv X pins σ H1 { s1 with heap := h2, toks := tk } := I1.kept kp
    have small := setOf_len xs
    refine sorted_txs (s := { s1 with heap := h2, toks := tk }) ho T (I2.ok.hd hc) (by omega) fun s' p out c ss hk hg hos hp ho' e1 e2 e3 => ?_
    have hlen : (ss.map V.str).length ≤ sizeLine := by rw [List.length_map, e2.length_eq]; exact small64 (by omega)
    have hn : H1 p = none := I2.hok.fresh hp
    have J : Inv X pins σ (upd H1 p (.lst (ss.map V.str))) { ({ s1 with heap := h2, toks := tk } : Shared) with heap := s'.heap, gens := s'.gens, drawn := s'.drawn, toks := s'.toks } :=
      I2.call (ch := []) (Un.laid hk hp hn) (I2.hok.laid hk hp ⟨hlen, out.toList, c, vals_of_strs e1, ho'⟩) (by rw [hg]; exact I2.bare) (fun _ z => nomatch z)
    have e : s' = { ({ s1 with heap := h2, toks := tk } : Shared) with heap := s'.heap, gens := s'.gens, drawn := s'.drawn, toks := s'.toks } := by
      cases s'
      cases hos
      rfl
    rw [e]
    exact ⟨.ref p, _, J, rfl, q1 ss p e2 e3 hn⟩
  rcases hq with hq | hq
  · obtain ⟨its, r, pl, hz⟩ := I1.list hq
    exact fin its r (.inl pl.isList)
  · obtain ⟨its, r, pl, hz⟩ := I1.tuple hq
    exact fin its r (.inr pl)
def sortSet3 (a : E3) : E3 := fun σ Q X => a σ (fun d => ob (items d) fun ts => ob (txs ts) fun xs => xs.length < 63 ∧ ∀ ys : List Str, ys.Perm (setOf xs) → sortedS ys = true → Q (.lst (ys.map T.str))) X
section
variable {K : PySem.W.Frag} {c : Cf} {W : WX} {ta : TE} {a : E3}
theorem lift_frSortSet (ha : Lift K c W ta a) : LiftFr K c W (tSortSet K ta) (sortSet3 a) := by
  intro σ3 Q3 X h Hb G A σ H Q R k e
  refine ha _ _ _ h Hb G A σ H _ R (fun v d H1 L1 r q => ?_) e
  obtain ⟨ts, et, q1⟩ := ob_iff.mp q
  obtain ⟨xs, ex, hl, q2⟩ := ob_iff.mp q1
  have fin : ∀ (ys : List Str) (p : Addr), ys.Perm (setOf xs) → sortedS ys = true → H1 p = none → Q (.ref p) (upd H1 p (.lst (ys.map V.str))) := fun ys p hp hs hn => by
    have f := (R.le L1).frD hn (repL_strs (K := K) ys)
    exact k p _ _ _ ⟨f.nD, Same.trans L1.vis f.vis, fun a ha => (f.own a ha).trans (L1.own a ha), f.inv, f.at_, f.rep⟩ (q2 ys hp hs)
  cases strs_is ex
  rcases items_cases et with rfl | rfl
  · obtain ⟨p, vs, rfl, hp, rl⟩ := r.lstI
    cases RepL.texts rl
    exact ⟨p, xs, rfl, .inl (SqL.of (hid_same _ _ hp)), hl, fin⟩
  · obtain ⟨p, vs, rfl, hp, rl⟩ := r.tupI
    cases RepL.texts rl
    exact ⟨p, xs, rfl, .inr (Same.sqT hid_same hp), hl, fin⟩
end
end M3

/-! L6R: tuples of cells; pure defs over what carries cells; a tuple's list cells given away. -/
namespace M3
open PySem L2
section
variable {K : PySem.W.Frag} {c : Cf} {Hb H H' : Hp} {G L0 L L' : List Addr} {M M' : Mem} {σ3 : List Sl} {σ : St} {W : WX} {t : TA} {x : A4} {n : Nat} {E : XK} {dvs : List V} {dts : List T}
/-- f(e, ..), f leaves the cells alone and raises nothing -/
def fn34 (n : Nat) (f : F3) (x : A4) (dts : List T) : E4 := fun σ M Q X => x σ M (fun ds M1 => (ds ++ dts).length = n ∧ f (ds ++ dts) (fun d => Q d M1) (fun _ => False)) X
theorem lift_fn34 {f : F3} (hx : LiftA4 K c W t x) (hd : ∀ H, RepL K H dvs dts) : Lift4 K c W (tCall (sp3 K n f) dvs E t) (fn34 n f x dts) := by
  intro σ3 M Q4 X h Hb G L0 L σ H Q R k e
  refine hx _ _ _ _ h Hb G L0 L σ H _ R (fun vs ds L1 M1 H1 R1 s1 rs q => ?_) e
  refine sp3_call R1.r3 (by rw [S_nons]; exact rs.append (hd _)) q.1 q.2 (fun v d H' l r q => ?_) (fun cls dd x H' L r q => q.elim)
  rw [S_nons] at r
  exact k v d L1 M1 H' (R1.le l) (Same.trans s1 l.vis4) r q
def tup4 (x : A4) : E4 := fun σ M Q X => x σ M (fun ds M1 => ds.length ≤ sizeLine ∧ Q (.tup ds) M1) X
theorem lift_tup4 (ha : LiftA4 K c W t x) : Lift4 K c W (tTup t) (tup4 x) := by
  intro σ3 M Q4 X h Hb G L0 L σ H Q R k e
  refine ha _ _ _ _ h Hb G L0 L σ H _ R (fun vs ds L1 M1 H1 R1 s1 rs q => ?_) e
  refine ⟨by rw [rs.length]; exact q.1, fun p o hp hd => ?_⟩
  have l := R1.r3.new (o := .frz o (.tup vs)) hp
  have z := R1.r3.newAt (o := .frz o (.tup vs)) hp
  rw [S_nons] at z
  exact k _ _ L1 M1 _ (R1.le l) (Same.trans s1 l.vis4) (.mkT (FqT.of hd z) (rs.mono l.vis4)) q.2
/-- a list cell is a tree from here on -/
theorem R4.give (r : R4 K c Hb G L0 L M σ3 σ H) {a : Addr} {xs : List T} (h : cellL M a = some xs) : ∃ L', R4 K c Hb G L0 L' (mset M a none) σ3 σ H ∧ Same (vs4 c G L H) (vs4 c G L' H) ∧ Rep K (vs4 c G L' H) (.ref a) (.lst xs) := by
  obtain ⟨ma, vs, h1, h2⟩ := r.atL (cellL_is h)
  have sub : ∀ b ∈ L.filter (fun b => decide (b ≠ a)), b ∈ L := fun b hb => (List.mem_filter.mp hb).1
  have hv : Same (vs4 c G L H) (vs4 c G (L.filter fun b => decide (b ≠ a)) H) := hid_mono fun b hb => by
    rcases List.mem_append.mp hb with hb | hb
    · exact List.mem_append.mpr (.inl hb)
    · exact List.mem_append.mpr (.inr (sub b hb))
  have R1 : R4 K c Hb G L0 (L.filter fun b => decide (b ≠ a)) (mset M a none) σ3 σ H := by
    refine r.step r.r3.inv hv (fun _ _ => rfl) ⟨fun b => ?_, fun b hb => r.cells.off b (sub b hb), fun b t e => ?_⟩
    · by_cases z : b = a
      · subst z; simp
      · rw [mset_ne z, List.mem_filter]
        simp [z, r.cells.on b]
    · by_cases z : b = a
      · subst z; rw [mset_same] at e; cases e
      · rw [mset_ne z] at e
        exact (r.cells.at_ b t e).mono hv rfl
  have nS : a ∉ c.S0 ++ G ++ L.filter fun b => decide (b ≠ a) := fun z => by
    rcases List.mem_append.mp z with z | z
    · exact r.cells.off a ma z
    · simpa using (List.mem_filter.mp z).2
  exact ⟨_, R1, hv, .mkL (hid_mk h1 nS) (h2.mono hv)⟩
def thawL : Mem → List T → Option (List T × Mem)
  | M, [] => some ([], M)
  | M, .ref a :: ds => (cellL M a).bind fun xs => (thawL (mset M a none) ds).map fun p => (.lst xs :: p.1, p.2)
  | _, _ :: _ => none
theorem R4.giveL : ∀ (ds : List T) {L : List Addr} {M : Mem} {vs : List V} {p : List T × Mem}, R4 K c Hb G L0 L M σ3 σ H → RepL K (vs4 c G L H) vs ds → thawL M ds = some p →
    ∃ L', R4 K c Hb G L0 L' p.2 σ3 σ H ∧ Same (vs4 c G L H) (vs4 c G L' H) ∧ RepL K (vs4 c G L' H) vs p.1
  | [], L, M, vs, p, r, q, h => by
    cases h
    exact ⟨L, r, Same.refl _, q⟩
  | d :: ds, L, M, vs, p, r, q, h => by
    cases q with
    | cons q0 qs =>
      cases d with
      | ref a =>
        have h : ((cellL M a).bind fun xs => (thawL (mset M a none) ds).map fun p => (T.lst xs :: p.1, p.2)) = some p := h
        cases e : cellL M a with
        | none => rw [e] at h; cases h
        | some xs =>
          rw [e] at h
          have h : ((thawL (mset M a none) ds).map fun p => (T.lst xs :: p.1, p.2)) = some p := h
          obtain ⟨p1, e1, rfl⟩ := Option.map_eq_some_iff.mp h
          cases q0.refI
          obtain ⟨L1, r1, s1, q1⟩ := r.give e
          obtain ⟨L2, r2, s2, q2⟩ := R4.giveL ds r1 (RepL.mono qs s1) e1
          exact ⟨L2, r2, Same.trans s1 s2, .cons (q1.mono s2) q2⟩
      | _ => cases h
/-- the tuple's list cells are given away -/
def frzT4 (e : E4) : E4 := fun σ M Q X => e σ M (fun d M1 => ob (asT d) fun ds => ob (thawL M1 ds) fun p => Q (.tup p.1) p.2) X
theorem lift_frzT4 {te : TE} {a : E4} (ha : Lift4 K c W te a) : Lift4 K c W te (frzT4 a) := by
  intro σ3 M Q4 X h Hb G L0 L σ H Q R k e
  refine ha _ _ _ _ h Hb G L0 L σ H _ R (fun v d L1 M1 H1 R1 s1 r q => ?_) e
  obtain ⟨ds, ed, q1⟩ := ob_iff.mp q
  obtain ⟨p, ep, q2⟩ := ob_iff.mp q1
  cases asT_is ed
  obtain ⟨b, vs, rfl, hb, rl⟩ := r.tupF
  obtain ⟨L2, R2, s2, rl2⟩ := R4.giveL ds R1 rl ep
  exact k _ _ L2 _ H1 R2 (Same.trans s1 s2) (.mkT (Same.fqT s2 hb) rl2) q2
end
end M3

namespace Law
open PySem L2 M3
def sides_inB (C : Cs) (r_sides_in : F3) : S3 := (seq3 (asg3 (v3 0) (gstar3 2 1 (gcons3 (name3 1) (gcons3 (name3 2) gnil3)))) (seq3 (ifs3 (tst3 (op3 (inP false) (v3 1) (tup3 (cons3 (k3 (.str "old")) (cons3 (k3 (.str "new")) nil3))))) (ret3 (lst3 (cons3 (tup3 (cons3 (v3 1) (cons3 (op3 ixP (v3 2) (k3 (.int 0))) nil3))) nil3))) next3) (seq3 (ifs3 (tst3 (op3 eqP (v3 1) (k3 (.str "cell")))) (ret3 (lst3 nil3)) next3) (ret3 (lcF3 (iterP (v3 2)) 3 (iterP (fn30 1 r_sides_in (cons3 (v3 3) nil3) [])) 4)))))
def sides_in_ (C : Cs) : Nat → F3
  | 0 => f0
  | n + 1 => (fun ds Q X => sides_inB C (sides_in_ C n) { nx := fun _ => Q .non, rt := Q, xn := fun _ => X } (start3 5 ds))
theorem sides_in_ex (C : Cs) (n : Nat) : ∃ f : F3, f = sides_in_ C n := ⟨_, rfl⟩
noncomputable def sides_in (C : Cs) (n : Nat) : F3 := Classical.choose (sides_in_ex C n)
theorem sides_in_def (C : Cs) (n : Nat) : sides_in C n = sides_in_ C n := Classical.choose_spec (sides_in_ex C n)
theorem sides_in_zero (C : Cs) : sides_in C 0 = f0 := by rw [sides_in_def]; rfl
theorem sides_in_succ (C : Cs) (n : Nat) : sides_in C (n + 1) = fun ds Q X => sides_inB C (sides_in C n) { nx := fun _ => Q .non, rt := Q, xn := fun _ => X } (start3 5 ds) := by
  rw [sides_in_def, sides_in_def]
  rfl
def deepB (C : Cs) (r_deep : F3) : S3 := (seq3 (asg3 (v3 0) (gstar3 2 1 (gcons3 (name3 1) (gcons3 (name3 2) gnil3)))) (seq3 (ifs3 (tst3 (op3 (inP false) (v3 1) (tup3 (cons3 (k3 (.str "cell")) (cons3 (k3 (.str "old")) (cons3 (k3 (.str "new")) nil3)))))) (ret3 (k3 (.int 1))) next3) (ret3 (op3 addP (k3 (.int 1)) (callK3 maxDf3 (cons3 (lc3 (iterP (v3 2)) (name3 3) yes3 (fn30 1 r_deep (cons3 (v3 3) nil3) []) [3]) nil3) (cons3 (k3 (.int 0)) nil3))))))
def deep_ (C : Cs) : Nat → F3
  | 0 => f0
  | n + 1 => (fun ds Q X => deepB C (deep_ C n) { nx := fun _ => Q .non, rt := Q, xn := fun _ => X } (start3 4 ds))
theorem deep_ex (C : Cs) (n : Nat) : ∃ f : F3, f = deep_ C n := ⟨_, rfl⟩
noncomputable def deep (C : Cs) (n : Nat) : F3 := Classical.choose (deep_ex C n)
theorem deep_def (C : Cs) (n : Nat) : deep C n = deep_ C n := Classical.choose_spec (deep_ex C n)
theorem deep_zero (C : Cs) : deep C 0 = f0 := by rw [deep_def]; rfl
theorem deep_succ (C : Cs) (n : Nat) : deep C (n + 1) = fun ds Q X => deepB C (deep C n) { nx := fun _ => Q .non, rt := Q, xn := fun _ => X } (start3 4 ds) := by
  rw [deep_def, deep_def]
  rfl
def columns_in_1 (C : Cs) : S4 := (asg4 (pu (fn3 1 (sides_in C 12) (cons3 (v3 0) nil3) [])) (name3 1))
def columns_in_2 (C : Cs) : S4 := (asg4 (newC4 (sortSc3 (iterP (v3 1)) (gtup3 2 (gcons3 (name3 3) (gcons3 (name3 4) gnil3))) (tst3 (op3 eqP (v3 3) (k3 (.str "old")))) (v3 4) [3, 4])) (name3 2))
def columns_in_3 (C : Cs) : S4 := (ret4 (tup4 (cons4 (pu (v3 2)) (cons4 (newC4 (sortSc3 (iterP (v3 1)) (gtup3 2 (gcons3 (name3 3) (gcons3 (name3 4) gnil3))) (tst3 (op3 eqP (v3 3) (k3 (.str "new")))) (v3 4) [3, 4])) nil4))))
def columns_inB (C : Cs) : S4 := (seq4 (columns_in_1 C) (seq4 (columns_in_2 C) (columns_in_3 C)))
def columns_inD (C : Cs) : F4 := fun ds M Q X => columns_inB C { nx := fun _ M => Q .non M, rt := Q, xn := fun _ => X } (start3 5 ds) M
theorem columns_in_ex (C : Cs) : ∃ f : F4, f = columns_inD C := ⟨_, rfl⟩
noncomputable def columns_in (C : Cs) : F4 := Classical.choose (columns_in_ex C)
theorem columns_in_def (C : Cs) : columns_in C = columns_inD C := Classical.choose_spec (columns_in_ex C)
def LsameB (C : Cs) (r_Lsame : F3) : S3 := (seq3 (ifs3 (tst3 (op3 isN3 (v3 1) (k3 .non))) (ret3 (op3 isN3 (v3 0) (k3 .non))) next3) (seq3 (ifs3 (tst3 (call3 isi3 (cons3 (v3 1) (cons3 (k3 (.ty "bool")) nil3)))) (ret3 (andV3 (call3 isi3 (cons3 (v3 0) (cons3 (k3 (.ty "bool")) nil3))) (op3 eqP (v3 0) (v3 1)))) next3) (seq3 (ifs3 (tst3 (call3 isi3 (cons3 (v3 1) (cons3 (k3 (.ty "int")) nil3)))) (ret3 (andV3 (call3 isi3 (cons3 (v3 0) (cons3 (k3 (.ty "int")) nil3))) (andV3 (notV3 (call3 isi3 (cons3 (v3 0) (cons3 (k3 (.ty "bool")) nil3)))) (op3 eqP (v3 0) (v3 1))))) next3) (seq3 (ifs3 (tst3 (call3 isi3 (cons3 (v3 1) (cons3 (k3 (.ty "str")) nil3)))) (ret3 (andV3 (call3 isi3 (cons3 (v3 0) (cons3 (k3 (.ty "str")) nil3))) (op3 eqP (v3 0) (v3 1)))) next3) (seq3 (ifs3 (tst3 (call3 isi3 (cons3 (v3 1) (cons3 (k3 (.ty "list")) nil3)))) (ifs3 (or3 (not3 (tst3 (call3 isi3 (cons3 (v3 0) (cons3 (k3 (.ty "list")) nil3))))) (tst3 (op3 neP (call3 len3 (cons3 (v3 0) nil3)) (call3 len3 (cons3 (v3 1) nil3))))) (ret3 (k3 (.bl false))) next3) (ifs3 (or3 (not3 (tst3 (call3 isi3 (cons3 (v3 0) (cons3 (k3 (.ty "tuple")) nil3))))) (tst3 (op3 neP (call3 len3 (cons3 (v3 0) nil3)) (call3 len3 (cons3 (v3 1) nil3))))) (ret3 (k3 (.bl false))) next3)) (ret3 (call3 all3 (cons3 (lc3 (iterZ3 (cons3 (v3 0) (cons3 (v3 1) nil3))) (gtup3 2 (gcons3 (name3 2) (gcons3 (name3 3) gnil3))) yes3 (fn30 2 r_Lsame (cons3 (v3 2) (cons3 (v3 3) nil3)) []) [2, 3]) nil3))))))))
def Lsame_ (C : Cs) : Nat → F3
  | 0 => f0
  | n + 1 => (fun ds Q X => LsameB C (Lsame_ C n) { nx := fun _ => Q .non, rt := Q, xn := fun _ => X } (start3 4 ds))
theorem Lsame_ex (C : Cs) (n : Nat) : ∃ f : F3, f = Lsame_ C n := ⟨_, rfl⟩
noncomputable def Lsame (C : Cs) (n : Nat) : F3 := Classical.choose (Lsame_ex C n)
theorem Lsame_def (C : Cs) (n : Nat) : Lsame C n = Lsame_ C n := Classical.choose_spec (Lsame_ex C n)
theorem Lsame_zero (C : Cs) : Lsame C 0 = f0 := by rw [Lsame_def]; rfl
theorem Lsame_succ (C : Cs) (n : Nat) : Lsame C (n + 1) = fun ds Q X => LsameB C (Lsame C n) { nx := fun _ => Q .non, rt := Q, xn := fun _ => X } (start3 4 ds) := by
  rw [Lsame_def, Lsame_def]
  rfl
def LnamesB (C : Cs) (p : Addr) : S3 := (seq3 (asg3 (k3 (.str "abcdefghijklmnopqrstuvwxyz")) (name3 2)) (seq3 (asg3 (op3 ixP (lst3 (cons3 (k3 (.str "")) (cons3 (k3 (.str "a")) (cons3 (k3 (.str "row")) (cons3 (k3 (.str "zzzzzzz")) (cons3 (k3 (.str "gap")) (cons3 (k3 (.str "old")) (cons3 (k3 (.str "yes")) (cons3 (k3 (.str "x")) nil3))))))))) (fnP30 p 2 take3 (cons3 (v3 0) (cons3 (k3 (.int 8)) nil3)) [])) (name3 3)) (seq3 (asg3 (fnP30 p 2 take3 (cons3 (v3 0) (cons3 (op3 addP (call3 len3 (cons3 (v3 3) nil3)) (k3 (.int 1))) nil3)) []) (name3 4)) (seq3 (asg3 (fnP30 p 2 take3 (cons3 (v3 0) (cons3 (k3 (.int 26)) nil3)) []) (name3 5)) (seq3 (asg3 (op3 ixP (lst3 (cons3 (k3 (.int 1)) (cons3 (k3 (.int 3)) (cons3 (k3 (.int 5)) (cons3 (k3 (.int 7)) (cons3 (k3 (.int 9)) (cons3 (k3 (.int 11)) nil3))))))) (fnP30 p 2 take3 (cons3 (v3 0) (cons3 (k3 (.int 6)) nil3)) [])) (name3 6)) (ret3 (lc3 (iterR3 (cons3 (v3 1) nil3)) (name3 7) yes3 (op3 addP (op3 addP (sl3 slP (v3 3) no3 (part3 (v3 4))) (op3 ixP (v3 2) (op3 mod3 (op3 addP (v3 5) (op3 mulP (v3 6) (v3 7))) (k3 (.int 26))))) (sl3 slP (v3 3) (part3 (v3 4)) no3)) [7])))))))
def LnamesD (C : Cs) : F3 := fun ds Q X => match ds with | .ref p :: r => LnamesB C p { nx := fun _ => Q .non, rt := Q, xn := fun _ => X } (start3 8 (.ref p :: r)) | _ => False
theorem Lnames_ex (C : Cs) : ∃ f : F3, f = LnamesD C := ⟨_, rfl⟩
noncomputable def Lnames (C : Cs) : F3 := Classical.choose (Lnames_ex C)
theorem Lnames_def (C : Cs) : Lnames C = LnamesD C := Classical.choose_spec (Lnames_ex C)
def LcellB (C : Cs) (p : Addr) : S3 := (seq3 (asg3 (fnP30 p 2 take3 (cons3 (v3 0) (cons3 (k3 (.int 16)) nil3)) []) (name3 1)) (seq3 (ifs3 (tst3 (op3 M3.ltP (v3 1) (k3 (.int 2)))) (ret3 (k3 .non)) next3) (seq3 (ifs3 (tst3 (op3 M3.ltP (v3 1) (k3 (.int 15)))) (ret3 (if3 (tst3 (op3 M3.ltP (v3 1) (k3 (.int 13)))) (op3 sub3 (fnP30 p 2 take3 (cons3 (v3 0) (cons3 (k3 (.int 5)) nil3)) []) (k3 (.int 1))) (op3 sub3 (fnP30 p 2 take3 (cons3 (v3 0) (cons3 (k3 (.int 41)) nil3)) []) (k3 (.int 20))))) next3) (seq3 (asg3 (op3 sub3 (op3 pow3 (k3 (.int 10)) (k3 (.int 30))) (k3 (.int 1))) (name3 2)) (ret3 (op3 ixP (lst3 (cons3 (v3 2) (cons3 (un3 neg3 (v3 2)) (cons3 (op3 addP (op3 pow3 (k3 (.int 10)) (k3 (.int 15))) (fnP30 p 2 take3 (cons3 (v3 0) (cons3 (op3 pow3 (k3 (.int 10)) (k3 (.int 9))) nil3)) [])) (cons3 (fnP30 p 2 take3 (cons3 (v3 0) (cons3 (op3 addP (v3 2) (k3 (.int 1))) nil3)) []) nil3))))) (fnP30 p 2 take3 (cons3 (v3 0) (cons3 (k3 (.int 4)) nil3)) [])))))))
def LcellD (C : Cs) : F3 := fun ds Q X => match ds with | .ref p :: r => LcellB C p { nx := fun _ => Q .non, rt := Q, xn := fun _ => X } (start3 3 (.ref p :: r)) | _ => False
theorem Lcell_ex (C : Cs) : ∃ f : F3, f = LcellD C := ⟨_, rfl⟩
noncomputable def Lcell (C : Cs) : F3 := Classical.choose (Lcell_ex C)
theorem Lcell_def (C : Cs) : Lcell C = LcellD C := Classical.choose_spec (Lcell_ex C)
def LvalueB (C : Cs) (p : Addr) (r_Lvalue : F3) (r_Ltruth : F3) : S3 := (seq3 (asg3 (fnP30 p 2 take3 (cons3 (v3 0) (cons3 (k3 (.int 10)) nil3)) []) (name3 4)) (seq3 (ifs3 (or3 (tst3 (op3 M3.ltP (v3 1) (k3 (.int 2)))) (tst3 (op3 M3.ltP (v3 4) (k3 (.int 5))))) (seq3 (asg3 (op3 addP (lc3 (iterP (v3 2)) (name3 8) yes3 (tup3 (cons3 (k3 (.str "old")) (cons3 (v3 8) nil3))) [8]) (lc3 (iterP (v3 3)) (name3 8) yes3 (tup3 (cons3 (k3 (.str "new")) (cons3 (v3 8) nil3))) [8])) (name3 5)) (seq3 (ifs3 (or3 (tst3 (op3 eqP (v3 5) (lst3 nil3))) (tst3 (op3 eqP (fnP30 p 2 take3 (cons3 (v3 0) (cons3 (k3 (.int 4)) nil3)) []) (k3 (.int 0))))) (ret3 (tup3 (cons3 (k3 (.str "cell")) (cons3 (fnP3 p 1 (Lcell C) (cons3 (v3 0) nil3) []) nil3)))) next3) (ret3 (op3 ixP (v3 5) (fnP30 p 2 take3 (cons3 (v3 0) (cons3 (call3 len3 (cons3 (v3 5) nil3)) nil3)) []))))) next3) (seq3 (ifs3 (tst3 (op3 eqP (v3 4) (k3 (.int 9)))) (seq3 (asg3 (fnP3 p 4 r_Ltruth (cons3 (v3 0) (cons3 (op3 sub3 (v3 1) (k3 (.int 1))) (cons3 (v3 2) (cons3 (v3 3) nil3)))) []) (name3 6)) (ret3 (tup3 (cons3 (k3 (.str "choose")) (cons3 (v3 6) (cons3 (fnP3 p 4 r_Lvalue (cons3 (v3 0) (cons3 (op3 sub3 (v3 1) (k3 (.int 1))) (cons3 (v3 2) (cons3 (v3 3) nil3)))) []) (cons3 (fnP3 p 4 r_Lvalue (cons3 (v3 0) (cons3 (op3 sub3 (v3 1) (k3 (.int 2))) (cons3 (v3 2) (cons3 (v3 3) nil3)))) []) nil3))))))) next3) (seq3 (asg3 (op3 ixP (lst3 (cons3 (k3 (.str "plus")) (cons3 (k3 (.str "minus")) (cons3 (k3 (.str "times")) (cons3 (k3 (.str "least")) (cons3 (k3 (.str "most")) nil3)))))) (op3 mod3 (op3 addP (op3 sub3 (v3 4) (k3 (.int 5))) (fnP30 p 2 take3 (cons3 (v3 0) (cons3 (k3 (.int 5)) nil3)) [])) (k3 (.int 5)))) (name3 7)) (ret3 (tup3 (cons3 (v3 7) (cons3 (fnP3 p 4 r_Lvalue (cons3 (v3 0) (cons3 (op3 sub3 (v3 1) (k3 (.int 1))) (cons3 (v3 2) (cons3 (v3 3) nil3)))) []) (cons3 (fnP3 p 4 r_Lvalue (cons3 (v3 0) (cons3 (op3 sub3 (v3 1) (k3 (.int 1))) (cons3 (v3 2) (cons3 (v3 3) nil3)))) []) nil3)))))))))
def LtruthB (C : Cs) (p : Addr) (r_Lvalue : F3) (r_Ltruth : F3) : S3 := (seq3 (asg3 (fnP30 p 2 take3 (cons3 (v3 0) (cons3 (k3 (.int 10)) nil3)) []) (name3 4)) (seq3 (ifs3 (or3 (tst3 (op3 M3.ltP (v3 1) (k3 (.int 2)))) (tst3 (op3 eqP (v3 4) (k3 (.int 0))))) (ret3 (tup3 (cons3 (k3 (.str "yes")) nil3))) next3) (seq3 (ifs3 (tst3 (op3 M3.ltP (v3 4) (k3 (.int 6)))) (seq3 (asg3 (fnP3 p 4 r_Lvalue (cons3 (v3 0) (cons3 (call3 min23 (cons3 (k3 (.int 2)) (cons3 (op3 sub3 (v3 1) (k3 (.int 1))) nil3))) (cons3 (v3 2) (cons3 (v3 3) nil3)))) []) (name3 5)) (seq3 (ifs3 (tst3 (op3 eqP (v3 4) (k3 (.int 5)))) (ret3 (tup3 (cons3 (k3 (.str "lacks")) (cons3 (v3 5) nil3)))) next3) (ret3 (tup3 (cons3 (op3 ixP (lst3 (cons3 (k3 (.str "is")) (cons3 (k3 (.str "below")) nil3))) (op3 fdivW3 (v3 4) (k3 (.int 4)))) (cons3 (v3 5) (cons3 (fnP3 p 4 r_Lvalue (cons3 (v3 0) (cons3 (call3 min23 (cons3 (k3 (.int 2)) (cons3 (op3 sub3 (v3 1) (k3 (.int 1))) nil3))) (cons3 (v3 2) (cons3 (v3 3) nil3)))) []) nil3))))))) next3) (seq3 (ifs3 (tst3 (op3 eqP (v3 4) (k3 (.int 6)))) (ret3 (tup3 (cons3 (k3 (.str "not")) (cons3 (fnP3 p 4 r_Ltruth (cons3 (v3 0) (cons3 (op3 sub3 (v3 1) (k3 (.int 1))) (cons3 (v3 2) (cons3 (v3 3) nil3)))) []) nil3)))) next3) (seq3 (asg3 (op3 ixP (lst3 (cons3 (k3 (.str "both")) (cons3 (k3 (.str "either")) nil3))) (op3 mod3 (v3 4) (k3 (.int 2)))) (name3 6)) (ret3 (tup3 (cons3 (v3 6) (cons3 (fnP3 p 4 r_Ltruth (cons3 (v3 0) (cons3 (op3 sub3 (v3 1) (k3 (.int 1))) (cons3 (v3 2) (cons3 (v3 3) nil3)))) []) (cons3 (fnP3 p 4 r_Ltruth (cons3 (v3 0) (cons3 (op3 sub3 (v3 1) (k3 (.int 1))) (cons3 (v3 2) (cons3 (v3 3) nil3)))) []) nil3))))))))))
def Lvalue_Ltruth_ (C : Cs) : Nat → F3 × F3
  | 0 => (f0, f0)
  | n + 1 => ((fun ds Q X => match ds with | .ref p :: r => LvalueB C p (Lvalue_Ltruth_ C n).1 (Lvalue_Ltruth_ C n).2 { nx := fun _ => Q .non, rt := Q, xn := fun _ => X } (start3 9 (.ref p :: r)) | _ => False), (fun ds Q X => match ds with | .ref p :: r => LtruthB C p (Lvalue_Ltruth_ C n).1 (Lvalue_Ltruth_ C n).2 { nx := fun _ => Q .non, rt := Q, xn := fun _ => X } (start3 7 (.ref p :: r)) | _ => False))
theorem Lvalue_ex (C : Cs) (n : Nat) : ∃ f : F3, f = (Lvalue_Ltruth_ C n).1 := ⟨_, rfl⟩
noncomputable def Lvalue (C : Cs) (n : Nat) : F3 := Classical.choose (Lvalue_ex C n)
theorem Lvalue_def (C : Cs) (n : Nat) : Lvalue C n = (Lvalue_Ltruth_ C n).1 := Classical.choose_spec (Lvalue_ex C n)
theorem Lvalue_zero (C : Cs) : Lvalue C 0 = f0 := by rw [Lvalue_def]; rfl
theorem Ltruth_ex (C : Cs) (n : Nat) : ∃ f : F3, f = (Lvalue_Ltruth_ C n).2 := ⟨_, rfl⟩
noncomputable def Ltruth (C : Cs) (n : Nat) : F3 := Classical.choose (Ltruth_ex C n)
theorem Ltruth_def (C : Cs) (n : Nat) : Ltruth C n = (Lvalue_Ltruth_ C n).2 := Classical.choose_spec (Ltruth_ex C n)
theorem Ltruth_zero (C : Cs) : Ltruth C 0 = f0 := by rw [Ltruth_def]; rfl
theorem Lvalue_succ (C : Cs) (n : Nat) : Lvalue C (n + 1) = fun ds Q X => match ds with | .ref p :: r => LvalueB C p (Lvalue C n) (Ltruth C n) { nx := fun _ => Q .non, rt := Q, xn := fun _ => X } (start3 9 (.ref p :: r)) | _ => False := by
  rw [Lvalue_def, Lvalue_def, Ltruth_def]
  rfl
theorem Ltruth_succ (C : Cs) (n : Nat) : Ltruth C (n + 1) = fun ds Q X => match ds with | .ref p :: r => LtruthB C p (Lvalue C n) (Ltruth C n) { nx := fun _ => Q .non, rt := Q, xn := fun _ => X } (start3 7 (.ref p :: r)) | _ => False := by
  rw [Ltruth_def, Lvalue_def, Ltruth_def]
  rfl
def Ldepth_1t_1 (C : Cs) (r_Ldepth : F3) : S3 := (ret3 (k3 (.int 1)))
def Ldepth_1 (C : Cs) (r_Ldepth : F3) : S3 := (ifs3 (tst3 (op3 (inP false) (op3 ixP (v3 0) (k3 (.int 0))) (tup3 (cons3 (k3 (.str "cell")) (cons3 (k3 (.str "old")) (cons3 (k3 (.str "new")) nil3)))))) (Ldepth_1t_1 C r_Ldepth) next3)
def Ldepth_2 (C : Cs) (r_Ldepth : F3) : S3 := (asg3 (k3 (.int 0)) (name3 1))
def Ldepth_3b_1 (C : Cs) (r_Ldepth : F3) : S3 := (asg3 (call3 max23 (cons3 (v3 1) (cons3 (fn3 1 r_Ldepth (cons3 (v3 2) nil3) []) nil3))) (name3 1))
def Ldepth_3b (C : Cs) (r_Ldepth : F3) : S3 := (Ldepth_3b_1 C r_Ldepth)
def Ldepth_3 (C : Cs) (r_Ldepth : F3) : S3 := (for3 (iterP (sl3 slP (v3 0) (part3 (k3 (.int 1))) no3)) (name3 2) (Ldepth_3b C r_Ldepth))
def Ldepth_4 (C : Cs) (r_Ldepth : F3) : S3 := (ret3 (op3 addP (v3 1) (k3 (.int 1))))
def LdepthB (C : Cs) (r_Ldepth : F3) : S3 := (seq3 (Ldepth_1 C r_Ldepth) (seq3 (Ldepth_2 C r_Ldepth) (seq3 (Ldepth_3 C r_Ldepth) (Ldepth_4 C r_Ldepth))))
def Ldepth_ (C : Cs) : Nat → F3
  | 0 => f0
  | n + 1 => (fun ds Q X => LdepthB C (Ldepth_ C n) { nx := fun _ => Q .non, rt := Q, xn := fun _ => X } (start3 3 ds))
theorem Ldepth_ex (C : Cs) (n : Nat) : ∃ f : F3, f = Ldepth_ C n := ⟨_, rfl⟩
noncomputable def Ldepth (C : Cs) (n : Nat) : F3 := Classical.choose (Ldepth_ex C n)
theorem Ldepth_def (C : Cs) (n : Nat) : Ldepth C n = Ldepth_ C n := Classical.choose_spec (Ldepth_ex C n)
theorem Ldepth_zero (C : Cs) : Ldepth C 0 = f0 := by rw [Ldepth_def]; rfl
theorem Ldepth_succ (C : Cs) (n : Nat) : Ldepth C (n + 1) = fun ds Q X => LdepthB C (Ldepth C n) { nx := fun _ => Q .non, rt := Q, xn := fun _ => X } (start3 3 ds) := by
  rw [Ldepth_def, Ldepth_def]
  rfl
def Lcolumns_1t_1 (C : Cs) (r_Lcolumns : F3) : S3 := (ret3 (if3 (tst3 (op3 eqP (op3 ixP (v3 0) (k3 (.int 0))) (v3 1))) (lst3 (cons3 (op3 ixP (v3 0) (k3 (.int 1))) nil3)) (lst3 nil3)))
def Lcolumns_1 (C : Cs) (r_Lcolumns : F3) : S3 := (ifs3 (tst3 (op3 (inP false) (op3 ixP (v3 0) (k3 (.int 0))) (tup3 (cons3 (k3 (.str "cell")) (cons3 (k3 (.str "old")) (cons3 (k3 (.str "new")) nil3)))))) (Lcolumns_1t_1 C r_Lcolumns) next3)
def Lcolumns_2 (C : Cs) (r_Lcolumns : F3) : S3 := (asg3 (lst3 nil3) (name3 2))
def Lcolumns_3b_1 (C : Cs) (r_Lcolumns : F3) : S3 := (asg3 (op3 addP (v3 2) (fn3 2 r_Lcolumns (cons3 (v3 3) (cons3 (v3 1) nil3)) [])) (name3 2))
def Lcolumns_3b (C : Cs) (r_Lcolumns : F3) : S3 := (Lcolumns_3b_1 C r_Lcolumns)
def Lcolumns_3 (C : Cs) (r_Lcolumns : F3) : S3 := (for3 (iterP (sl3 slP (v3 0) (part3 (k3 (.int 1))) no3)) (name3 3) (Lcolumns_3b C r_Lcolumns))
def Lcolumns_4 (C : Cs) (r_Lcolumns : F3) : S3 := (ret3 (sortSet3 (v3 2)))
def LcolumnsB (C : Cs) (r_Lcolumns : F3) : S3 := (seq3 (Lcolumns_1 C r_Lcolumns) (seq3 (Lcolumns_2 C r_Lcolumns) (seq3 (Lcolumns_3 C r_Lcolumns) (Lcolumns_4 C r_Lcolumns))))
def Lcolumns_ (C : Cs) : Nat → F3
  | 0 => f0
  | n + 1 => (fun ds Q X => LcolumnsB C (Lcolumns_ C n) { nx := fun _ => Q .non, rt := Q, xn := fun _ => X } (start3 4 ds))
theorem Lcolumns_ex (C : Cs) (n : Nat) : ∃ f : F3, f = Lcolumns_ C n := ⟨_, rfl⟩
noncomputable def Lcolumns (C : Cs) (n : Nat) : F3 := Classical.choose (Lcolumns_ex C n)
theorem Lcolumns_def (C : Cs) (n : Nat) : Lcolumns C n = Lcolumns_ C n := Classical.choose_spec (Lcolumns_ex C n)
theorem Lcolumns_zero (C : Cs) : Lcolumns C 0 = f0 := by rw [Lcolumns_def]; rfl
theorem Lcolumns_succ (C : Cs) (n : Nat) : Lcolumns C (n + 1) = fun ds Q X => LcolumnsB C (Lcolumns C n) { nx := fun _ => Q .non, rt := Q, xn := fun _ => X } (start3 4 ds) := by
  rw [Lcolumns_def, Lcolumns_def]
  rfl
def law_1 (C : Cs) (p : Addr) : S4 := (asg4 (pu (fnP30 p 2 (Lnames C) (cons3 (v3 1) (cons3 (k3 (.int 5)) nil3)) [])) (name3 2))
def law_2b_1 (C : Cs) (p : Addr) : S4 := (asg4 (pu (sl3 slP (v3 2) no3 (part3 (op3 addP (k3 (.int 1)) (fnP30 p 2 take3 (cons3 (v3 1) (cons3 (k3 (.int 4)) nil3)) []))))) (name3 4))
def law_2b_2 (C : Cs) (p : Addr) : S4 := (asg4 (pu (sl3 slP (v3 2) (part3 (fnP30 p 2 take3 (cons3 (v3 1) (cons3 (k3 (.int 3)) nil3)) [])) no3)) (name3 5))
def law_2b_3 (C : Cs) (p : Addr) : S4 := (asg4 (pu (fnP30 p 4 (Ltruth C 12) (cons3 (v3 1) (cons3 (op3 addP (k3 (.int 1)) (fnP30 p 2 take3 (cons3 (v3 1) (cons3 (k3 (.int 6)) nil3)) [])) (cons3 (v3 4) (cons3 (v3 5) nil3)))) [])) (name3 6))
def law_2b_4t_1 (C : Cs) (p : Addr) : S4 := (asg4 (pu (fnP30 p 4 (Lvalue C 12) (cons3 (v3 1) (cons3 (op3 addP (k3 (.int 1)) (fnP30 p 2 take3 (cons3 (v3 1) (cons3 (k3 (.int 6)) nil3)) [])) (cons3 (v3 4) (cons3 (v3 5) nil3)))) [])) (name3 6))
def law_2b_4 (C : Cs) (p : Addr) : S4 := (ifs4 (pu (tst3 (op3 eqP (fnP30 p 2 take3 (cons3 (v3 1) (cons3 (k3 (.int 2)) nil3)) []) (k3 (.int 0))))) (law_2b_4t_1 C p) next4)
def law_2b_5 (C : Cs) (p : Addr) : S4 := (asg4 (pu (tup3 (cons3 (fn30 2 (Lcolumns C 12) (cons3 (v3 6) (cons3 (k3 (.str "old")) nil3)) []) (cons3 (fn30 2 (Lcolumns C 12) (cons3 (v3 6) (cons3 (k3 (.str "new")) nil3)) []) nil3)))) (name3 7))
def law_2b_6t_1 (C : Cs) (p : Addr) : S4 := (ret4 (pu (k3 (.bl false))))
def law_2b_6 (C : Cs) (p : Addr) : S4 := (ifs4 (or4 (pu (not3 (tst3 (fn30 2 (Lsame C 12) (cons3 (fn30 1 (deep C 12) (cons3 (v3 6) nil3) []) (cons3 (fn30 1 (Ldepth C 12) (cons3 (v3 6) nil3) []) nil3)) [])))) (not4 (tst4 (fn34 2 (Lsame C 12) (cons4 (frzT4 (fn40 1 (columns_in C) (cons4 (pu (v3 6)) nil4) [])) (cons4 (pu (v3 7)) nil4)) [])))) (law_2b_6t_1 C p) next4)
def law_2b_7 (C : Cs) (p : Addr) : S4 := (drop4 (app4 (op4 ixP (fn40 1 (columns_in C) (cons4 (pu (v3 6)) nil4) []) (pu (k3 (.int 0)))) (pu (k3 (.str "zz")))))
def law_2b_8t_1 (C : Cs) (p : Addr) : S4 := (ret4 (pu (k3 (.bl false))))
def law_2b_8 (C : Cs) (p : Addr) : S4 := (ifs4 (not4 (tst4 (fn34 2 (Lsame C 12) (cons4 (frzT4 (fn40 1 (columns_in C) (cons4 (pu (v3 6)) nil4) [])) (cons4 (pu (v3 7)) nil4)) []))) (law_2b_8t_1 C p) next4)
def law_2b (C : Cs) (p : Addr) : S4 := (seq4 (law_2b_1 C p) (seq4 (law_2b_2 C p) (seq4 (law_2b_3 C p) (seq4 (law_2b_4 C p) (seq4 (law_2b_5 C p) (seq4 (law_2b_6 C p) (seq4 (law_2b_7 C p) (law_2b_8 C p))))))))
def law_2 (C : Cs) (p : Addr) : S4 := (for4 (iterR3 (cons3 (k3 (.int 5)) nil3)) (name3 3) (law_2b C p))
def law_3 (C : Cs) (p : Addr) : S4 := (ret4 (pu (andV3 (fn30 2 (Lsame C 12) (cons3 (k3 (.tup [(.str "yes")])) (cons3 (tup3 (cons3 (k3 (.str "yes")) nil3)) nil3)) []) (andV3 (fn30 2 (Lsame C 12) (cons3 (k3 (.int 8)) (cons3 (k3 (.int 8)) nil3)) []) (op3 eqP (fn30 1 (deep C 12) (cons3 (tup3 (cons3 (k3 (.str "yes")) nil3)) nil3) []) (k3 (.int 1)))))))
def lawB (C : Cs) (p : Addr) : S4 := (seq4 (law_1 C p) (seq4 (law_2 C p) (law_3 C p)))
/-- what is left: the law, over trees and cells -/
def Plain (C : Cs) : Prop := ∀ p : Addr, lawB C p { nx := fun _ _ => False, rt := fun d _ => d = .bl true } (Sl.no :: Sl.val (.ref p) :: List.replicate 6 Sl.no) (fun _ => none)
end Law

namespace Law
open PySem L2 M3
def top (i : Nat) : Stmt := PySem.Challenge.pw_onepour_k06_deep_words_and_their_columns.main.body.getD i (.Pass ⟨0, 0, 0, 0⟩)
abbrev s_sides_in : Stmt := top 3
abbrev N_sides_in : List Str := ["word", "first", "parts", "part", "pair"]
theorem sc_sides_in : FnScope N_sides_in ["word"] (defScope s_sides_in) := ⟨rfl, rfl, rfl, by decide +kernel, rfl, by decide +kernel, by decide +kernel⟩
abbrev s_deep : Stmt := top 4
abbrev N_deep : List Str := ["word", "first", "parts", "part"]
theorem sc_deep : FnScope N_deep ["word"] (defScope s_deep) := ⟨rfl, rfl, rfl, by decide +kernel, rfl, by decide +kernel, by decide +kernel⟩
abbrev s_columns_in : Stmt := top 5
abbrev N_columns_in : List Str := ["word", "pairs", "olds", "side", "name"]
theorem sc_columns_in : FnScope N_columns_in ["word"] (defScope s_columns_in) := ⟨rfl, rfl, rfl, by decide +kernel, rfl, by decide +kernel, by decide +kernel⟩
abbrev s_Lsame : Stmt := top 9
abbrev N_Lsame : List Str := ["_law_found", "_law_due", "_law_one", "_law_other"]
theorem sc_Lsame : FnScope N_Lsame ["_law_found", "_law_due"] (defScope s_Lsame) := ⟨rfl, rfl, rfl, by decide +kernel, rfl, by decide +kernel, by decide +kernel⟩
abbrev s_Lnames : Stmt := top 10
abbrev N_Lnames : List Str := ["_law_pot_here", "_law_many", "_law_letters", "_law_stem", "_law_spot", "_law_begin", "_law_stride", "_law_k"]
theorem sc_Lnames : FnScope N_Lnames ["_law_pot_here", "_law_many"] (defScope s_Lnames) := ⟨rfl, rfl, rfl, by decide +kernel, rfl, by decide +kernel, by decide +kernel⟩
abbrev s_Lcell : Stmt := top 11
abbrev N_Lcell : List Str := ["_law_pot_here", "_law_kind", "_law_top"]
theorem sc_Lcell : FnScope N_Lcell ["_law_pot_here"] (defScope s_Lcell) := ⟨rfl, rfl, rfl, by decide +kernel, rfl, by decide +kernel, by decide +kernel⟩
abbrev s_Lvalue : Stmt := top 12
abbrev N_Lvalue : List Str := ["_law_pot_here", "_law_room", "_law_lefts", "_law_rights", "_law_kind", "_law_some", "_law_truth_here", "_law_word", "_law_name"]
theorem sc_Lvalue : FnScope N_Lvalue ["_law_pot_here", "_law_room", "_law_lefts", "_law_rights"] (defScope s_Lvalue) := ⟨rfl, rfl, rfl, by decide +kernel, rfl, by decide +kernel, by decide +kernel⟩
abbrev s_Ltruth : Stmt := top 13
abbrev N_Ltruth : List Str := ["_law_pot_here", "_law_room", "_law_lefts", "_law_rights", "_law_kind", "_law_first", "_law_word"]
theorem sc_Ltruth : FnScope N_Ltruth ["_law_pot_here", "_law_room", "_law_lefts", "_law_rights"] (defScope s_Ltruth) := ⟨rfl, rfl, rfl, by decide +kernel, rfl, by decide +kernel, by decide +kernel⟩
abbrev s_Ldepth : Stmt := top 14
abbrev N_Ldepth : List Str := ["_law_word", "_law_found", "_law_part"]
theorem sc_Ldepth : FnScope N_Ldepth ["_law_word"] (defScope s_Ldepth) := ⟨rfl, rfl, rfl, by decide +kernel, rfl, by decide +kernel, by decide +kernel⟩
abbrev s_Lcolumns : Stmt := top 15
abbrev N_Lcolumns : List Str := ["_law_word", "_law_side", "_law_found", "_law_part"]
theorem sc_Lcolumns : FnScope N_Lcolumns ["_law_word", "_law_side"] (defScope s_Lcolumns) := ⟨rfl, rfl, rfl, by decide +kernel, rfl, by decide +kernel, by decide +kernel⟩
abbrev s_law : Stmt := top 16
abbrev N_law : List Str := ["_law_script", "_law_pot_here", "_law_names_here", "_law_turn", "_law_lefts", "_law_rights", "_law_word", "_law_due"]
theorem sc_law : FnScope N_law ["_law_script"] (defScope s_law) := ⟨rfl, rfl, rfl, by decide +kernel, rfl, by decide +kernel, by decide +kernel⟩
section
variable {P : Program} {w : World} {K : PySem.W.Frag} {mg : Str → Option Value} {base : Heap}
/-! ### the pot's draw -/
abbrev s_Ltake : Stmt := top 8
abbrev N_Ltake : List Str := ["_law_pot_here", "_law_many", "_law_cell_here"]
theorem sc_Ltake : FnScope N_Ltake ["_law_pot_here", "_law_many"] (defScope s_Ltake) := ⟨rfl, rfl, rfl, by decide +kernel, rfl, by decide +kernel, by decide +kernel⟩
theorem ok_Ltake {f : Addr} {fd : FuncData} (F : Fun K "_law_take" "_law_take" s_Ltake f fd) (zlen : mg "len" = none) : FnOk P w K mg base CX0 1 f fd ["_law_pot_here", "_law_many"] spTake := by
  refine F.ok sc_Ltake (fun vs H Q E h => ?_) (fun cdv A outer s H vs Q E hr h => ?_)
  · obtain ⟨p, cc, m, rfl, _⟩ := h
    rfl
  · obtain ⟨p, cc, m, rfl, ⟨cs, i, n, sd, hp, hc, i0, i1, hl, hz, s0, s1⟩, m0, m1, k⟩ := h
    have ne : p ≠ cc := PotAt.ne ⟨cs, i, n, sd, hp, hc, i0, i1, hl, hz, s0, s1⟩
    refine ⟨_, pss_cons (ps_augS (pv 0) pe_int get_list pe_int ip_add set_list)
      (pss_cons (ps_set (i := 2) sc_Ltake.nd rfl (Or.inl rfl) (pe_ix ix_list (pe_ix ix_list (pv 0) pe_int (fun _ _ => rfl)) (pe_ix ix_list (pv 0) pe_int (fun _ _ => rfl)) (fun _ _ => rfl)))
      (pss_cons (ps_if (pt_cmpR op_ge (pv 2) (pe_op op_pow pe_int pe_int) (nomark _))
        (pss_cons (ps_asg (pe_op op_fdivW (pv 2) (pv 1)) (pg_sub (pe_ix ix_list (pv 0) pe_int (fun _ _ => rfl)) (pe_ix ix_list (pv 0) pe_int (fun _ _ => rfl)) set_list))
        (pss_one (ps_ret (pe_op op_mod (pv 2) (pv 1))))) pss_nil)
      (pss_cons (ps_asg (pe_op op_mod (pe_op op_add (pe_ix ix_list (pv 0) pe_int (fun _ _ => rfl)) pe_int) (pe_callB call_len_seq (by rfl) zlen (by decide +kernel) (pa_cons (pe_ix ix_list (pv 0) pe_int (fun _ _ => rfl)) pa_nil))) (pg_sub (pv 0) pe_int set_list))
      (pss_cons (ps_asg (pe_op op_mod (pe_op op_add (pe_op op_add (pe_op op_mul (pe_ix ix_list (pv 0) pe_int (fun _ _ => rfl)) pe_int) (pe_op op_mod (pv 2) pe_int)) (pe_ix ix_list (pv 0) pe_int (fun _ _ => rfl))) pe_int) (pg_sub (pv 0) pe_int set_list))
      (pss_one (ps_ret (pe_op op_mod (pe_op op_fdiv (pe_ix ix_list (pv 0) pe_int (fun _ _ => rfl)) pe_int) (pv 1)))))))), ?_⟩
    refine ⟨_, rfl, p, _, 2, _, rfl, rfl, SqL.of hp, rfl, _, _, rfl, rfl, p, _, 2, 2, rfl, rfl, hp, rfl, ?_⟩
    have hp1 : (upd H p (.lst [.ref cc, .int i, .int (n + 1), .int sd])) p = some (.lst [.ref cc, .int i, .int (n + 1), .int sd]) := upd_same
    have hc1 : (upd H p (.lst [.ref cc, .int i, .int (n + 1), .int sd])) cc = some (.lst (cs.map V.int)) := by rw [upd_ne ne.symm]; exact hc
    obtain ⟨j, hj⟩ : ∃ j : Nat, i = (j : Int) := ⟨i.toNat, by omega⟩
    subst hj
    have hjl : j < cs.length := by omega
    obtain ⟨z, ez⟩ : ∃ z, cs[j]? = some z := ⟨cs[j], List.getElem?_eq_getElem hjl⟩
    have ez' : (cs.map V.int)[j]? = some (V.int z) := by rw [List.getElem?_map, ez]; rfl
    have z0 : 0 ≤ z := hz z (List.mem_of_getElem? ez)
    refine ⟨_, rfl, p, _, 0, _, rfl, rfl, SqL.of hp1, rfl, _, rfl, p, _, 1, _, rfl, rfl, SqL.of hp1, rfl, cc, _, _, _, rfl, rfl, SqL.of hc1, atI_nat ez', ?_⟩
    refine ⟨_, rfl, _, _, rfl, rfl, ⟨by decide, by decide, by decide⟩, _, _, rfl, rfl, _, rfl, ?_⟩
    refine ite2 (fun _ => ?_) (fun _ => ?_)
    · -- a great cell
      refine ⟨_, rfl, _, rfl, _, _, rfl, rfl, wide_div (b := 200) m0 (by omega) (by decide) (by decide), ?_⟩
      refine ⟨_, rfl, p, _, 0, _, rfl, rfl, SqL.of hp1, rfl, _, rfl, p, _, 1, _, rfl, rfl, SqL.of hp1, rfl, cc, _, _, j, rfl, rfl, hc1, ?_, ?_⟩
      · rw [List.length_map]
        unfold ixN
        rw [if_pos (by omega), if_pos (by omega)]
        simp
      refine ⟨_, rfl, _, rfl, _, _, rfl, rfl, m0, ?_⟩
      refine k _ _ (Int.emod_nonneg _ (by omega)) (Int.emod_lt_of_pos _ m0) ⟨cs.set j (z / m), (j : Int), n + 1, sd, ?_, ?_, i0, by rw [List.length_set]; exact i1, by rw [List.length_set]; exact hl, ?_, s0, s1⟩ (fun a h1 h2 => by rw [upd_ne h2, upd_ne h1])
      · rw [upd_ne ne]; exact hp1
      · rw [upd_same, List.map_set]
      · intro y hy
        rcases List.mem_or_eq_of_mem_set hy with hy | hy
        · exact hz y hy
        · rw [hy]; exact Int.ediv_nonneg z0 (by omega)
    · -- a small one
      have hcl : (0 : Int) < (cs.map V.int).length := by rw [List.length_map]; omega
      refine ⟨_, rfl, p, _, 1, _, rfl, rfl, SqL.of hp1, rfl, _, _, rfl, rfl, _, rfl, p, _, 0, _, rfl, rfl, SqL.of hp1, rfl, cc, _, rfl, .inl (SqL.of hc1), _, _, rfl, rfl, hcl, ?_⟩
      refine ⟨_, rfl, p, _, 1, 1, rfl, rfl, hp1, rfl, ?_⟩
      have hp2 : (upd (upd H p (.lst [.ref cc, .int (j : Int), .int (n + 1), .int sd])) p (.lst [.ref cc, .int (((j : Int) + 1) % ((cs.map V.int).length : Int)), .int (n + 1), .int sd])) p = some (.lst [.ref cc, .int (((j : Int) + 1) % ((cs.map V.int).length : Int)), .int (n + 1), .int sd]) := upd_same
      refine ⟨_, rfl, p, _, 3, _, rfl, rfl, SqL.of hp2, rfl, _, _, rfl, rfl, .inr ⟨by decide, by decide⟩, _, rfl, _, _, rfl, rfl, (by show (0 : Int) < 2147483647; decide), _, _, rfl, rfl, _, rfl, p, _, 2, _, rfl, rfl, SqL.of hp2, rfl, _, _, rfl, rfl, _, _, rfl, rfl, (by show (0 : Int) < 2147483647; decide), ?_⟩
      refine ⟨_, rfl, p, _, 3, 3, rfl, rfl, hp2, rfl, ?_⟩
      refine ⟨_, rfl, p, _, 3, _, rfl, rfl, SqL.of upd_same, rfl, _, _, rfl, rfl, ⟨by decide, by decide⟩, _, rfl, _, _, rfl, rfl, m0, ?_⟩
      refine k _ _ (Int.emod_nonneg _ (by omega)) (Int.emod_lt_of_pos _ m0) ⟨cs, _, n + 1, _, upd_same, ?_, ?_, ?_, hl, hz, ?_, ?_⟩ (fun a h1 h2 => by rw [upd_ne h1, upd_ne h1, upd_ne h1])
      · rw [upd_ne ne.symm, upd_ne ne.symm]; exact hc1
      · exact Int.emod_nonneg _ (by omega)
      · rw [List.length_map]; exact Int.emod_lt_of_pos _ (by omega)
      · exact Int.emod_nonneg _ (by omega)
      · exact Int.emod_lt_of_pos _ (by omega)
def spPot (K : PySem.W.Frag) : Sp := fun vs H Q _ => ∃ (a : Addr) (ns : List Int), vs = [.ref a] ∧ SqL K H a (ns.map V.int) ∧ ∀ p cc H', H p = none → H cc = none → PotAt p cc H' → Same H H' → Q (.ref p) H'
abbrev s_Lpot : Stmt := top 7
abbrev N_Lpot : List Str := ["_law_script", "_law_cells", "_law_cell_here"]
theorem sc_Lpot : FnScope N_Lpot ["_law_script"] (defScope s_Lpot) := ⟨rfl, rfl, rfl, by decide +kernel, rfl, by decide +kernel, by decide +kernel⟩
theorem ok_Lpot {f : Addr} {fd : FuncData} (F : Fun K "_law_pot" "_law_pot" s_Lpot f fd) (zabs : mg "abs" = none) : FnOk P w K mg base CX0 1 f fd ["_law_script"] (spPot K) := by
  refine F.ok sc_Lpot (fun vs H Q E h => ?_) (fun cdv A outer s H vs Q E hr h => ?_)
  · obtain ⟨a, ns, rfl, _⟩ := h
    rfl
  · obtain ⟨a, ns, rfl, hS, k⟩ := h
    refine ⟨_, pss_cons (ps_setLc (i := 1) (own := [("_law_cell_here", 2)]) (by rfl) sc_Lpot.nd rfl rfl (sw_true rfl rfl rfl (by decide +kernel)) (pi_list (pe_slice sl_list (pv 0) po_none (po_some pe_int))) (blkOk_by (own := [("_law_cell_here", 2)]) (N := N_Lpot) (sc := defScope s_Lpot) (by decide +kernel)) (fun _ _ _ _ _ => (pg_name (i := 2) sc_Lpot.nd rfl (Or.inl rfl))) (fun _ _ _ _ _ => pts_nil) (fun _ _ _ _ _ => (pe_callB call_abs (by rfl) zabs (by decide +kernel) (pa_cons (pv 2) pa_nil))))
      (pss_cons (ps_if (pt_not (pt_truth (pv 1) (by intro _; rfl))) (pss_one (ps_set (i := 1) sc_Lpot.nd rfl (Or.inl rfl) (pe_lst (pa_cons pe_int pa_nil)))) pss_nil)
      (pss_one (ps_ret (pe_lst (pa_cons (pv 1) (pa_cons pe_int (pa_cons pe_int (pa_cons pe_int pa_nil)))))))), ?_⟩
    obtain ⟨ms, ems, lms⟩ : ∃ ms : List Int, cutV (ns.map V.int) none (some 63) = ms.map V.int ∧ ms.length ≤ 63 := by
      refine ⟨(ns.drop (HT.sIx (ns.map V.int).length 0 none)).take (HT.sIx (ns.map V.int).length (ns.map V.int).length (some 63) - HT.sIx (ns.map V.int).length 0 none), ?_, ?_⟩
      · unfold cutV
        rw [List.map_take, List.map_drop]
      · rw [List.length_take]
        have h1 := HT.sIx_nat (ns.map V.int).length (ns.map V.int).length 63
        have h2 : HT.sIx (ns.map V.int).length (ns.map V.int).length (some 63) = min 63 (ns.map V.int).length := h1
        omega
    refine ⟨_, rfl, 63, rfl, a, _, rfl, hS, fun q hq => ?_⟩
    rw [ems]
    refine ⟨q, rfl, ⟨_, SqL.of upd_same⟩, fun D hD => ?_⟩
    have nqD : q ≠ D := ne_of_none upd_same hD
    have s1 : Same H (upd H q (.lst (ms.map V.int))) := fun b o e => by rw [upd_ne (ne_of_none e hq)]; exact e
    have hD0 : H D = none := s1.free hD
    refine lc_list (K := K) (a := q) (xs := ms.map V.int) (fun i H2 => Same H H2 ∧ H2 q = some (.lst (ms.map V.int)) ∧ ∃ as : List Int, H2 D = some (.lst (as.map V.int)) ∧ as.length = i ∧ ∀ z ∈ as, 0 ≤ z) ?_ ?_ ?_ ?_
    · refine ⟨fun b o e => by rw [upd_ne (ne_of_none e hD0)]; exact s1 b o e, by rw [upd_ne nqD]; exact upd_same, [], upd_same, rfl, fun z hz => by cases hz⟩
    · rintro i H2 _ ⟨_, h2, _⟩
      exact SqL.of h2
    · rintro i x H2 hx ⟨s2, h2, as, hd, hl, hz⟩
      have hil : i < (ms.map V.int).length := (List.getElem?_eq_some_iff.mp hx).1
      rw [List.length_map] at hil
      obtain ⟨z, rfl⟩ : ∃ z, x = V.int z := by
        rw [List.getElem?_map] at hx
        cases e : ms[i]? with
        | none => rw [e] at hx; cases hx
        | some z => rw [e] at hx; exact ⟨z, (Option.some.inj hx).symm⟩
      refine ⟨rfl, ?_⟩
      unfold tYes
      refine iteT ?_
      refine ⟨_, rfl, z, rfl, as.map V.int, hd, ?_, ?_⟩
      · rw [List.length_map]
        exact small1000 (by omega)
      · refine ⟨fun b o e => by rw [upd_ne (ne_of_none e hD0)]; exact s2 b o e, by rw [upd_ne nqD]; exact h2, as ++ [if z < 0 then -z else z], by rw [upd_same, List.map_append]; rfl, by rw [List.length_append, hl]; rfl, fun y hy => ?_⟩
        rcases List.mem_append.mp hy with hy | hy
        · exact hz y hy
        · rw [List.mem_singleton.mp hy]
          split <;> omega
    · rintro H2 ⟨s2, h2, as, hd, hl, hz⟩
      rw [List.length_map] at hl
      have fin : ∀ (cc : Addr) (cs : List Int) (H3 : Hp), H cc = none → H3 cc = some (.lst (cs.map V.int)) → Same H H3 → 0 < cs.length → cs.length ≤ 1000 → (∀ z ∈ cs, 0 ≤ z) →
          tRet (tLst (tCons (tVar 1) (tCons (tC (V.int 0)) (tCons (tC (V.int 0)) (tCons (tC (V.int 7)) tNil))))) { nx := fun _ H' => Q .non H', rt := Q } [some (.ref a), some (.ref cc), none] H3 := by
        intro cc cs H3 hcc h3 s3 l0 l1 z0
        refine ⟨_, rfl, (by show 4 ≤ sizeLine; decide), fun p hp => ?_⟩
        have npc : cc ≠ p := ne_of_none h3 hp
        refine k p cc _ (s3.free hp) hcc ⟨cs, 0, 0, 7, upd_same, by rw [upd_ne npc]; exact h3, by decide, by omega, l1, z0, by decide, by decide⟩ (fun b o e => by rw [upd_ne (ne_of_none (s3 b o e) hp)]; exact s3 b o e)
      refine ⟨_, rfl, _, .inl ⟨_, SqL.of hd, rfl⟩, ?_⟩
      cases as with
      | nil =>
        refine iteT ?_
        refine ⟨(by show 1 ≤ sizeLine; decide), fun c2 hc2 => ?_⟩
        exact fin c2 [0] _ (s2.free hc2) upd_same (fun b o e => by rw [upd_ne (ne_of_none (s2 b o e) hc2)]; exact s2 b o e) (by decide) (by decide) (by intro z h; rw [List.mem_singleton.mp h]; decide)
      | cons z as =>
        refine iteF ?_
        exact fin D (z :: as) H2 hD0 hd s2 (by simp) (by omega) hz
end

structure Top (w : World) (K : PySem.W.Frag) (mg : Str → Option Value) : Prop where
  d_sides_in : DefAt K mg "sides_in" "sides_in" s_sides_in [] [] []
  d_deep : DefAt K mg "deep" "deep" s_deep [] [] []
  d_columns_in : DefAt K mg "columns_in" "columns_in" s_columns_in [] [] []
  d_Lpot : DefAt K mg "_law_pot" "_law_pot" s_Lpot [] [] []
  d_Ltake : DefAt K mg "_law_take" "_law_take" s_Ltake [] [] []
  d_Lsame : DefAt K mg "_law_same" "_law_same" s_Lsame [] [] []
  d_Lnames : DefAt K mg "_law_names" "_law_names" s_Lnames [] [] []
  d_Lcell : DefAt K mg "_law_cell" "_law_cell" s_Lcell [] [] []
  d_Lvalue : DefAt K mg "_law_value" "_law_value" s_Lvalue [] [] []
  d_Ltruth : DefAt K mg "_law_truth" "_law_truth" s_Ltruth [] [] []
  d_Ldepth : DefAt K mg "_law_depth" "_law_depth" s_Ldepth [] [] []
  d_Lcolumns : DefAt K mg "_law_columns" "_law_columns" s_Lcolumns [] [] []
  zb_abs : mg "abs" = none
  zb_all : mg "all" = none
  zb_bool : mg "bool" = none
  zb_int : mg "int" = none
  zb_isinstance : mg "isinstance" = none
  zb_len : mg "len" = none
  zb_list : mg "list" = none
  zb_max : mg "max" = none
  zb_min : mg "min" = none
  zb_range : mg "range" = none
  zb_set : mg "set" = none
  zb_sorted : mg "sorted" = none
  zb_str : mg "str" = none
  zb_tuple : mg "tuple" = none
  zb_zip : mg "zip" = none
  zc_ALWAYS : ∃ u v, mg "ALWAYS" = some u ∧ RelV v u ∧ ∀ H, Rep K H v (.tup [(.str "yes")])
  zc_MOST_DEEP : ∃ u v, mg "MOST_DEEP" = some u ∧ RelV v u ∧ ∀ H, Rep K H v (.int 8)
section
variable {P : Program} {w : World} {K : PySem.W.Frag} {mg : Str → Option Value}
theorem cl_take (T : Top w K mg) (base : Heap) : Cl P w K mg base CX0 "_law_take" 1 [] (spP K 2 take3) := by
  obtain ⟨f, fd, F, hm, _⟩ := (OkF.fun_ (P := P) (w := w) (base := base) (CX := CX0) (lv := 0) (ps := []) (sp := fun _ _ _ _ => False) (by obtain ⟨f, fd, dvs, kvs, rd, rk, F, hm⟩ := T.d_Ltake.ex; exact ⟨f, fd, dvs, kvs, rd, rk, F, hm, fnOk_no fun _ _ _ _ z => z⟩))
  exact ⟨f, fd, _, [], (ok_Ltake F T.zb_len).imp take_imp, hm, F.kp, F.binds (ps := ["_law_pot_here", "_law_many"]) fun _ _ _ _ _ _ us hl => match us, hl with | [_, _], _ => rfl, .nil⟩
theorem cl_pot (T : Top w K mg) (base : Heap) : Cl P w K mg base CX0 "_law_pot" 1 [] (spPot K) := by
  obtain ⟨f, fd, F, hm, _⟩ := (OkF.fun_ (P := P) (w := w) (base := base) (CX := CX0) (lv := 0) (ps := []) (sp := fun _ _ _ _ => False) (by obtain ⟨f, fd, dvs, kvs, rd, rk, F, hm⟩ := T.d_Lpot.ex; exact ⟨f, fd, dvs, kvs, rd, rk, F, hm, fnOk_no fun _ _ _ _ z => z⟩))
  exact ⟨f, fd, _, [], ok_Lpot F T.zb_abs, hm, F.kp, F.binds (ps := ["_law_script"]) fun _ _ _ _ _ _ us hl => match us, hl with | [_], _ => rfl, .nil⟩
set_option maxHeartbeats 8000000 in
theorem ok_sides_in (T : Top w K mg) (base : Heap) (n : Nat) : OkF P w K mg base (L2.CX P w) "sides_in" "sides_in" s_sides_in [] [] [] (0 + n) ["word"] (sp3 K 1 (sides_in (csOf K mg) n)) := by
  induction n with
  | zero => exact by rw [sides_in_zero]; exact T.d_sides_in.no _
  | succ n ih =>
    obtain ⟨v_sides_in_1, h_sides_in_1, c_sides_in_1⟩ := (ih.cl (fun _ _ _ _ _ _ us hl => match us, hl with | [_], _ => rfl)).ex
    obtain ⟨f, fd, dvs, kvs, rd, rk, F, hm⟩ := T.d_sides_in.ex
    refine ⟨f, fd, dvs, kvs, rd, rk, F, hm, F.ok sc_sides_in (sp3_len rfl) (fun cdv A outer s H vs Q E hr h => ?_)⟩
    replace hr : Room (0 + n) _ := hr
    refine ⟨_, (pss_cons (ps_asg (pv 0) (pg_star (K := K) rfl rfl (pgs_cons (pg_name (i := 1) sc_sides_in.nd rfl (Or.inl rfl)) (pgs_star (pg_name (i := 2) sc_sides_in.nd rfl (Or.inl rfl)) pgs_nil))))
      (pss_cons (ps_if (pt_cmpR (op_inP (K := K) rfl) (pv 1) (M3.pe_tup (pa_cons pe_str (pa_cons pe_str pa_nil))) (by rfl)) (pss_one (ps_ret (pe_lst (pa_cons (M3.pe_tup (pa_cons (pv 1) (pa_cons (pe_ix (ix_P (K := K) rfl) (pv 2) pe_int (fun _ _ => rfl)) pa_nil))) pa_nil)))) pss_nil)
      (pss_cons (ps_if (pt_cmpR (op_eqP (K := K) rfl hr.units) (pv 1) pe_str (nomark _)) (pss_one (ps_ret (pe_lst pa_nil))) pss_nil)
      (pss_one (ps_ret (pe_lc2 (own := [("part", 3), ("pair", 4)]) (vs1 := [4]) (g := (gName 3)) (g1 := (gName 4)) (by rfl) sc_sides_in.nd (pi_P (K := K) rfl (pv 2)) (blkOk_by (own := [("part", 3), ("pair", 4)]) (N := N_sides_in) (sc := defScope s_sides_in) (by decide +kernel)) (by decide) (fun _ _ _ _ _ => (pg_name (i := 3) sc_sides_in.nd rfl (Or.inl rfl) (Or.inr rfl))) (fun _ _ _ _ _ => pts_nil) (fun _ _ _ _ _ => (pi_P (K := K) rfl (pe_cl c_sides_in_1 (hr.mono (by omega)) (by rfl) passL (pa_cons (pv 3) pa_nil)))) (fun _ _ _ _ _ => (pg_name (i := 4) sc_sides_in.nd rfl (Or.inl rfl) (Or.inr rfl))) (fun _ _ _ _ _ => pts_nil) (fun _ _ _ _ _ => (pv 4)))))))), ?_⟩
    exact body3 (x := sides_inB (csOf K mg) (sides_in (csOf K mg) n)) (W := fun cls dd _ H => E cls dd H) h (fun _ _ _ _ z => z) (lift_seq (lift_asgStar (ws := [1, 2]) (lift_v 0) (lift_gcons (lift_name 1 (by decide)) (lift_gcons (lift_name 2 (by decide)) lift_gnil)))
      (lift_seq (lift_ifs (lift_tst (lift_op (rl_inP false) (lift_v 1) (lift_tup (lift_cons (lift_str _) (lift_cons (lift_str _) lift_nil))))) (lift_ret (lift_lst (lift_cons (lift_tup (lift_cons (lift_v 1) (lift_cons (lift_op rl_ixP (lift_v 2) (lift_int _)) lift_nil))) lift_nil))) lift_next)
      (lift_seq (lift_ifs (lift_tst (lift_op rl_eqP (lift_v 1) (lift_str _))) (lift_ret (lift_lst lift_nil)) lift_next)
      (lift_ret (lift_lcF (i := 3) (j := 4) (by decide) (lift_iP (lift_v 2)) (lift_iP (lift_call0 (lift_cons (lift_v 3) lift_nil) h_sides_in_1)) (fun _ _ _ _ _ z => z)))))) (fun ds Q3 X _ hf => by rw [sides_in_succ] at hf; exact hf)
set_option maxHeartbeats 8000000 in
theorem ok_deep (T : Top w K mg) (base : Heap) (n : Nat) : OkF P w K mg base (L2.CX P w) "deep" "deep" s_deep [] [] [] (0 + n) ["word"] (sp3 K 1 (deep (csOf K mg) n)) := by
  induction n with
  | zero => exact by rw [deep_zero]; exact T.d_deep.no _
  | succ n ih =>
    obtain ⟨v_deep_1, h_deep_1, c_deep_1⟩ := (ih.cl (fun _ _ _ _ _ _ us hl => match us, hl with | [_], _ => rfl)).ex
    obtain ⟨f, fd, dvs, kvs, rd, rk, F, hm⟩ := T.d_deep.ex
    refine ⟨f, fd, dvs, kvs, rd, rk, F, hm, F.ok sc_deep (sp3_len rfl) (fun cdv A outer s H vs Q E hr h => ?_)⟩
    replace hr : Room (0 + n) _ := hr
    refine ⟨_, (pss_cons (ps_asg (pv 0) (pg_star (K := K) rfl rfl (pgs_cons (pg_name (i := 1) sc_deep.nd rfl (Or.inl rfl)) (pgs_star (pg_name (i := 2) sc_deep.nd rfl (Or.inl rfl)) pgs_nil))))
      (pss_cons (ps_if (pt_cmpR (op_inP (K := K) rfl) (pv 1) (M3.pe_tup (pa_cons pe_str (pa_cons pe_str (pa_cons pe_str pa_nil)))) (by rfl)) (pss_one (ps_ret pe_int)) pss_nil)
      (pss_one (ps_ret (pe_op (op_addP (K := K) rfl) pe_int (pe_callBK (cr_maxDf (by rfl) (M3.Room.units200 hr)) (by rfl) T.zb_max (by decide +kernel) (pa_cons (pe_lc (own := [("part", 3)]) (g := (gName 3)) (by rfl) sc_deep.nd (pi_P (K := K) rfl (pv 2)) (blkOk_by (own := [("part", 3)]) (N := N_deep) (sc := defScope s_deep) (by decide +kernel)) (fun _ _ _ _ _ => (pg_name (i := 3) sc_deep.nd rfl (Or.inl rfl) (Or.inr rfl))) (fun _ _ _ _ _ => pts_nil) (fun _ _ _ _ _ => (pe_cl c_deep_1 (hr.mono (by omega)) (by rfl) passL (pa_cons (pv 3) pa_nil)))) pa_nil) (pk_cons pe_int pk_nil))))))), ?_⟩
    exact body3 (x := deepB (csOf K mg) (deep (csOf K mg) n)) (W := fun cls dd _ H => E cls dd H) h (fun _ _ _ _ z => z) (lift_seq (lift_asgStar (ws := [1, 2]) (lift_v 0) (lift_gcons (lift_name 1 (by decide)) (lift_gcons (lift_name 2 (by decide)) lift_gnil)))
      (lift_seq (lift_ifs (lift_tst (lift_op (rl_inP false) (lift_v 1) (lift_tup (lift_cons (lift_str _) (lift_cons (lift_str _) (lift_cons (lift_str _) lift_nil)))))) (lift_ret (lift_int _)) lift_next)
      (lift_ret (lift_op rl_addP (lift_int _) (lift_cbk rl_maxDf (lift_cons (lift_lc (vs := [3]) (lift_iP (lift_v 2)) (lift_name 3 (by decide)) lift_yes (lift_call0 (lift_cons (lift_v 3) lift_nil) h_deep_1) (fun _ _ _ _ _ z => z)) lift_nil) (lift_cons (lift_int _) lift_nil)))))) (fun ds Q3 X _ hf => by rw [deep_succ] at hf; exact hf)
theorem ok_columns_in (T : Top w K mg) (base : Heap) : OkF P w K mg base (L2.CX P w) "columns_in" "columns_in" s_columns_in [] [] [] 13 ["word"] (sp4 K 1 (columns_in (csOf K mg))) := by
  obtain ⟨v_sides_in_1, h_sides_in_1, c_sides_in_1⟩ := ((ok_sides_in T base (P := P) (w := w) 12).cl (fun _ _ _ _ _ _ us hl => match us, hl with | [_], _ => rfl)).ex
  obtain ⟨f, fd, dvs, kvs, rd, rk, F, hm⟩ := T.d_columns_in.ex
  refine ⟨f, fd, dvs, kvs, rd, rk, F, hm, F.ok sc_columns_in (sp4_len rfl) (fun cdv A outer s H vs Q E hr h => ?_)⟩
  refine ⟨_, (pss_cons (ps_set (i := 1) sc_columns_in.nd rfl (Or.inl rfl) (pe_cl c_sides_in_1 (hr.mono (by omega)) (by rfl) (passes_call (takes_of rfl rfl rfl rfl) (fun _ _ _ _ z => z)) (pa_cons (pv 0) pa_nil)))
      (pss_cons (ps_set (i := 2) sc_columns_in.nd rfl (Or.inl rfl) (pe_callB (cr_sortT (by rfl)) (by rfl) T.zb_sorted (by decide +kernel) (pa_cons (pe_scT (own := [("side", 3), ("name", 4)]) (g := (gTup K 2 (gCons (gName 3) (gCons (gName 4) gNil)))) (by rfl) sc_columns_in.nd (pi_P (K := K) rfl (pv 1)) (blkOk_by (own := [("side", 3), ("name", 4)]) (N := N_columns_in) (sc := defScope s_columns_in) (by decide +kernel)) (fun _ _ _ _ _ => (pg_tupK (K := K) rfl rfl (pgs_cons (pg_name (i := 3) sc_columns_in.nd rfl (Or.inl rfl) (Or.inr rfl)) (pgs_cons (pg_name (i := 4) sc_columns_in.nd rfl (Or.inl rfl) (Or.inr rfl)) pgs_nil)))) (fun _ _ _ _ _ => (pts_one (pt_cmpR (op_eqP (K := K) rfl hr.units) (pv 3) pe_str (nomark _)))) (fun _ _ _ _ _ => (pv 4))) pa_nil)))
      (pss_one (ps_ret (M3.pe_tup (pa_cons (pv 2) (pa_cons (pe_callB (cr_sortT (by rfl)) (by rfl) T.zb_sorted (by decide +kernel) (pa_cons (pe_scT (own := [("side", 3), ("name", 4)]) (g := (gTup K 2 (gCons (gName 3) (gCons (gName 4) gNil)))) (by rfl) sc_columns_in.nd (pi_P (K := K) rfl (pv 1)) (blkOk_by (own := [("side", 3), ("name", 4)]) (N := N_columns_in) (sc := defScope s_columns_in) (by decide +kernel)) (fun _ _ _ _ _ => (pg_tupK (K := K) rfl rfl (pgs_cons (pg_name (i := 3) sc_columns_in.nd rfl (Or.inl rfl) (Or.inr rfl)) (pgs_cons (pg_name (i := 4) sc_columns_in.nd rfl (Or.inl rfl) (Or.inr rfl)) pgs_nil)))) (fun _ _ _ _ _ => (pts_one (pt_cmpR (op_eqP (K := K) rfl hr.units) (pv 3) pe_str (nomark _)))) (fun _ _ _ _ _ => (pv 4))) pa_nil)) pa_nil))))))), ?_⟩
  exact body4 (x := columns_inB (csOf K mg)) (W := fun cls dd _ H => E cls dd H) h (fun _ _ _ _ z => z) (lift_seq4 (lift_asg4 (lift_pu (lift_call (fun _ _ _ _ z => z) (lift_cons (lift_v 0) lift_nil) h_sides_in_1)) (lift_name (vs := [1]) 1 (by decide)))
      (lift_seq4 (lift_asg4 (lift_newC (lift_frSc (vs := [3, 4]) (lift_iP (lift_v 1)) (lift_gtup (lift_gcons (lift_name 3 (by decide)) (lift_gcons (lift_name 4 (by decide)) lift_gnil))) (lift_tst (lift_op rl_eqP (lift_v 3) (lift_str _))) (lift_v 4) (fun _ _ _ _ _ z => z))) (lift_name (vs := [2]) 2 (by decide)))
      (lift_ret4 (lift_tup4 (lift_cons4 (lift_pu (lift_v 2)) (lift_cons4 (lift_newC (lift_frSc (vs := [3, 4]) (lift_iP (lift_v 1)) (lift_gtup (lift_gcons (lift_name 3 (by decide)) (lift_gcons (lift_name 4 (by decide)) lift_gnil))) (lift_tst (lift_op rl_eqP (lift_v 3) (lift_str _))) (lift_v 4) (fun _ _ _ _ _ z => z))) lift_nil4)))))) (fun ds M Q4 X _ hf => by rw [columns_in_def] at hf; exact hf)
set_option maxHeartbeats 8000000 in
theorem ok_Lsame (T : Top w K mg) (base : Heap) (n : Nat) : OkF P w K mg base (L2.CX P w) "_law_same" "_law_same" s_Lsame [] [] [] (0 + n) ["_law_found", "_law_due"] (sp3 K 2 (Lsame (csOf K mg) n)) := by
  induction n with
  | zero => exact by rw [Lsame_zero]; exact T.d_Lsame.no _
  | succ n ih =>
    obtain ⟨v_Lsame_2, h_Lsame_2, c_Lsame_2⟩ := (ih.cl (fun _ _ _ _ _ _ us hl => match us, hl with | [_, _], _ => rfl)).ex
    obtain ⟨f, fd, dvs, kvs, rd, rk, F, hm⟩ := T.d_Lsame.ex
    refine ⟨f, fd, dvs, kvs, rd, rk, F, hm, F.ok sc_Lsame (sp3_len rfl) (fun cdv A outer s H vs Q E hr h => ?_)⟩
    replace hr : Room (0 + n) _ := hr
    refine ⟨_, (pss_cons (ps_if (pt_cmpR op_isN (pv 1) pe_non (nomark _)) (pss_one (ps_ret (pe_cmpR op_isN (pv 0) pe_non (nomark _)))) pss_nil)
      (pss_cons (ps_if (pt_val (pe_callB (call_isiK' (K := K) rfl) (by rfl) T.zb_isinstance (by decide +kernel) (pa_cons (pv 1) (pa_cons (pe_bltn (v := .ty "bool") (by rfl) T.zb_bool (by decide +kernel) rfl) pa_nil)))) (pss_one (ps_ret (pe_and (pe_callB (call_isiK' (K := K) rfl) (by rfl) T.zb_isinstance (by decide +kernel) (pa_cons (pv 0) (pa_cons (pe_bltn (v := .ty "bool") (by rfl) T.zb_bool (by decide +kernel) rfl) pa_nil))) (pe_one (pe_cmpR (op_eqP (K := K) rfl hr.units) (pv 0) (pv 1) (nomark _)))))) pss_nil)
      (pss_cons (ps_if (pt_val (pe_callB (call_isiK' (K := K) rfl) (by rfl) T.zb_isinstance (by decide +kernel) (pa_cons (pv 1) (pa_cons (pe_bltn (v := .ty "int") (by rfl) T.zb_int (by decide +kernel) rfl) pa_nil)))) (pss_one (ps_ret (pe_and (pe_callB (call_isiK' (K := K) rfl) (by rfl) T.zb_isinstance (by decide +kernel) (pa_cons (pv 0) (pa_cons (pe_bltn (v := .ty "int") (by rfl) T.zb_int (by decide +kernel) rfl) pa_nil))) (pe_and (pe_not (pe_callB (call_isiK' (K := K) rfl) (by rfl) T.zb_isinstance (by decide +kernel) (pa_cons (pv 0) (pa_cons (pe_bltn (v := .ty "bool") (by rfl) T.zb_bool (by decide +kernel) rfl) pa_nil)))) (pe_one (pe_cmpR (op_eqP (K := K) rfl hr.units) (pv 0) (pv 1) (nomark _))))))) pss_nil)
      (pss_cons (ps_if (pt_val (pe_callB (call_isiK' (K := K) rfl) (by rfl) T.zb_isinstance (by decide +kernel) (pa_cons (pv 1) (pa_cons (pe_bltn (v := .ty "str") (by rfl) T.zb_str (by decide +kernel) rfl) pa_nil)))) (pss_one (ps_ret (pe_and (pe_callB (call_isiK' (K := K) rfl) (by rfl) T.zb_isinstance (by decide +kernel) (pa_cons (pv 0) (pa_cons (pe_bltn (v := .ty "str") (by rfl) T.zb_str (by decide +kernel) rfl) pa_nil))) (pe_one (pe_cmpR (op_eqP (K := K) rfl hr.units) (pv 0) (pv 1) (nomark _)))))) pss_nil)
      (pss_cons (ps_if (pt_val (pe_callB (call_isiK' (K := K) rfl) (by rfl) T.zb_isinstance (by decide +kernel) (pa_cons (pv 1) (pa_cons (pe_bltn (v := .ty "list") (by rfl) T.zb_list (by decide +kernel) rfl) pa_nil)))) (pss_one (ps_if (PW.pt (pw_or (pt_not (pt_val (pe_callB (call_isiK' (K := K) rfl) (by rfl) T.zb_isinstance (by decide +kernel) (pa_cons (pv 0) (pa_cons (pe_bltn (v := .ty "list") (by rfl) T.zb_list (by decide +kernel) rfl) pa_nil))))) (pw_or1 (pt_cmpR (op_neP (K := K) rfl hr.units) (pe_callB (call_lenK (K := K) rfl) (by rfl) T.zb_len (by decide +kernel) (pa_cons (pv 0) pa_nil)) (pe_callB (call_lenK (K := K) rfl) (by rfl) T.zb_len (by decide +kernel) (pa_cons (pv 1) pa_nil)) (nomark _))))) (pss_one (ps_ret pe_bl)) pss_nil)) (pss_one (ps_if (PW.pt (pw_or (pt_not (pt_val (pe_callB (call_isiK' (K := K) rfl) (by rfl) T.zb_isinstance (by decide +kernel) (pa_cons (pv 0) (pa_cons (pe_bltn (v := .ty "tuple") (by rfl) T.zb_tuple (by decide +kernel) rfl) pa_nil))))) (pw_or1 (pt_cmpR (op_neP (K := K) rfl hr.units) (pe_callB (call_lenK (K := K) rfl) (by rfl) T.zb_len (by decide +kernel) (pa_cons (pv 0) pa_nil)) (pe_callB (call_lenK (K := K) rfl) (by rfl) T.zb_len (by decide +kernel) (pa_cons (pv 1) pa_nil)) (nomark _))))) (pss_one (ps_ret pe_bl)) pss_nil)))
      (pss_one (ps_ret (pe_callB (cr_allK (K := K) rfl rfl) (by rfl) T.zb_all (by decide +kernel) (pa_cons (pe_lc (own := [("_law_one", 2), ("_law_other", 3)]) (g := (gTup K 2 (gCons (gName 2) (gCons (gName 3) gNil)))) (by rfl) sc_Lsame.nd (pi_zipK (K := K) rfl (by rfl) T.zb_zip (pa_cons (pv 0) (pa_cons (pv 1) pa_nil))) (blkOk_by (own := [("_law_one", 2), ("_law_other", 3)]) (N := N_Lsame) (sc := defScope s_Lsame) (by decide +kernel)) (fun _ _ _ _ _ => (pg_tupK (K := K) rfl rfl (pgs_cons (pg_name (i := 2) sc_Lsame.nd rfl (Or.inl rfl) (Or.inr rfl)) (pgs_cons (pg_name (i := 3) sc_Lsame.nd rfl (Or.inl rfl) (Or.inr rfl)) pgs_nil)))) (fun _ _ _ _ _ => pts_nil) (fun _ _ _ _ _ => (pe_cl c_Lsame_2 (hr.mono (by omega)) (by rfl) passL (pa_cons (pv 2) (pa_cons (pv 3) pa_nil))))) pa_nil))))))))), ?_⟩
    exact body3 (x := LsameB (csOf K mg) (Lsame (csOf K mg) n)) (W := fun cls dd _ H => E cls dd H) h (fun _ _ _ _ z => z) (lift_seq (lift_ifs (lift_tst (lift_op rl_isN (lift_v 1) lift_non)) (lift_ret (lift_op rl_isN (lift_v 0) lift_non)) lift_next)
      (lift_seq (lift_ifs (lift_tB (lift_cb rl_isi (lift_cons (lift_v 1) (lift_cons (lift_ty _) lift_nil)))) (lift_ret (lift_andV (lift_cb rl_isi (lift_cons (lift_v 0) (lift_cons (lift_ty _) lift_nil))) (lift_op rl_eqP (lift_v 0) (lift_v 1)))) lift_next)
      (lift_seq (lift_ifs (lift_tB (lift_cb rl_isi (lift_cons (lift_v 1) (lift_cons (lift_ty _) lift_nil)))) (lift_ret (lift_andV (lift_cb rl_isi (lift_cons (lift_v 0) (lift_cons (lift_ty _) lift_nil))) (lift_andV (lift_notV (lift_cb rl_isi (lift_cons (lift_v 0) (lift_cons (lift_ty _) lift_nil)))) (lift_op rl_eqP (lift_v 0) (lift_v 1))))) lift_next)
      (lift_seq (lift_ifs (lift_tB (lift_cb rl_isi (lift_cons (lift_v 1) (lift_cons (lift_ty _) lift_nil)))) (lift_ret (lift_andV (lift_cb rl_isi (lift_cons (lift_v 0) (lift_cons (lift_ty _) lift_nil))) (lift_op rl_eqP (lift_v 0) (lift_v 1)))) lift_next)
      (lift_seq (lift_ifs (lift_tB (lift_cb rl_isi (lift_cons (lift_v 1) (lift_cons (lift_ty _) lift_nil)))) (lift_ifs (lift_or (lift_not (lift_tB (lift_cb rl_isi (lift_cons (lift_v 0) (lift_cons (lift_ty _) lift_nil))))) (lift_tst (lift_op rl_neP (lift_cb rl_len (lift_cons (lift_v 0) lift_nil)) (lift_cb rl_len (lift_cons (lift_v 1) lift_nil))))) (lift_ret (lift_bl _)) lift_next) (lift_ifs (lift_or (lift_not (lift_tB (lift_cb rl_isi (lift_cons (lift_v 0) (lift_cons (lift_ty _) lift_nil))))) (lift_tst (lift_op rl_neP (lift_cb rl_len (lift_cons (lift_v 0) lift_nil)) (lift_cb rl_len (lift_cons (lift_v 1) lift_nil))))) (lift_ret (lift_bl _)) lift_next))
      (lift_ret (lift_cb rl_all (lift_cons (lift_lc (vs := [2, 3]) (lift_iZ (lift_cons (lift_v 0) (lift_cons (lift_v 1) lift_nil))) (lift_gtup (lift_gcons (lift_name 2 (by decide)) (lift_gcons (lift_name 3 (by decide)) lift_gnil))) lift_yes (lift_call0 (lift_cons (lift_v 2) (lift_cons (lift_v 3) lift_nil)) h_Lsame_2) (fun _ _ _ _ _ z => z)) lift_nil)))))))) (fun ds Q3 X _ hf => by rw [Lsame_succ] at hf; exact hf)
theorem ok_Lnames (T : Top w K mg) (base : Heap) : OkF P w K mg base (L2.CX P w) "_law_names" "_law_names" s_Lnames [] [] [] 2 ["_law_pot_here", "_law_many"] (spP K 2 (Lnames (csOf K mg))) := by
  have c_Ltake_2 := cl_take T base (P := P) (w := w)
  have h_Ltake_2 : ∀ H, RepL K H [] [] := fun _ => .nil
  obtain ⟨f, fd, dvs, kvs, rd, rk, F, hm⟩ := T.d_Lnames.ex
  refine ⟨f, fd, dvs, kvs, rd, rk, F, hm, F.ok sc_Lnames (spP_len rfl) (fun cdv A outer s H vs Q E hr h => ?_)⟩
  refine ⟨_, (pss_cons (ps_set (i := 2) sc_Lnames.nd rfl (Or.inr rfl) pe_str)
      (pss_cons (ps_set (i := 3) sc_Lnames.nd rfl (Or.inr rfl) (pe_ix (ix_P (K := K) rfl) (pe_lst (pa_cons pe_str (pa_cons pe_str (pa_cons pe_str (pa_cons pe_str (pa_cons pe_str (pa_cons pe_str (pa_cons pe_str (pa_cons pe_str pa_nil))))))))) (pe_cl c_Ltake_2 (hr.mono (by omega)) (by rfl) pass0 (pa_cons (pv 0) (pa_cons pe_int pa_nil))) (fun _ _ => rfl)))
      (pss_cons (ps_set (i := 4) sc_Lnames.nd rfl (Or.inr rfl) (pe_cl c_Ltake_2 (hr.mono (by omega)) (by rfl) pass0 (pa_cons (pv 0) (pa_cons (pe_op (op_addP (K := K) rfl) (pe_callB (call_lenK (K := K) rfl) (by rfl) T.zb_len (by decide +kernel) (pa_cons (pv 3) pa_nil)) pe_int) pa_nil))))
      (pss_cons (ps_set (i := 5) sc_Lnames.nd rfl (Or.inr rfl) (pe_cl c_Ltake_2 (hr.mono (by omega)) (by rfl) pass0 (pa_cons (pv 0) (pa_cons pe_int pa_nil))))
      (pss_cons (ps_set (i := 6) sc_Lnames.nd rfl (Or.inr rfl) (pe_ix (ix_P (K := K) rfl) (pe_lst (pa_cons pe_int (pa_cons pe_int (pa_cons pe_int (pa_cons pe_int (pa_cons pe_int (pa_cons pe_int pa_nil))))))) (pe_cl c_Ltake_2 (hr.mono (by omega)) (by rfl) pass0 (pa_cons (pv 0) (pa_cons pe_int pa_nil))) (fun _ _ => rfl)))
      (pss_one (ps_ret (pe_lc (own := [("_law_k", 7)]) (g := (gName 7)) (by rfl) sc_Lnames.nd (pi_range1 (by rfl) T.zb_range (pa_cons (pv 1) pa_nil)) (blkOk_by (own := [("_law_k", 7)]) (N := N_Lnames) (sc := defScope s_Lnames) (by decide +kernel)) (fun _ _ _ _ _ => (pg_name (i := 7) sc_Lnames.nd rfl (Or.inl rfl) (Or.inr rfl))) (fun _ _ _ _ _ => pts_nil) (fun _ _ _ _ _ => (pe_op (op_addP (K := K) rfl) (pe_op (op_addP (K := K) rfl) (pe_slice (sl_P (K := K) rfl) (pv 3) po_none (po_some (pv 4))) (pe_ix (ix_P (K := K) rfl) (pv 2) (pe_op op_mod (pe_op (op_addP (K := K) rfl) (pv 5) (pe_op op_mulP (pv 6) (pv 7))) pe_int) (fun _ _ => rfl))) (pe_slice (sl_P (K := K) rfl) (pv 3) (po_some (pv 4)) po_none))))))))))), ?_⟩
  exact bodyP (x := fun p => LnamesB (csOf K mg) p) (W := fun cls dd _ H => E cls dd H) h (fun _ _ _ _ z => z) (fun p cc => (lift_seq (lift_asg (lift_str _) (lift_name (vs := [2]) 2 (by decide)))
      (lift_seq (lift_asg (lift_op rl_ixP (lift_lst (lift_cons (lift_str _) (lift_cons (lift_str _) (lift_cons (lift_str _) (lift_cons (lift_str _) (lift_cons (lift_str _) (lift_cons (lift_str _) (lift_cons (lift_str _) (lift_cons (lift_str _) lift_nil))))))))) (lift_callP0 (lift_cons (lift_v 0) (lift_cons (lift_int _) lift_nil)) h_Ltake_2)) (lift_name (vs := [3]) 3 (by decide)))
      (lift_seq (lift_asg (lift_callP0 (lift_cons (lift_v 0) (lift_cons (lift_op rl_addP (lift_cb rl_len (lift_cons (lift_v 3) lift_nil)) (lift_int _)) lift_nil)) h_Ltake_2) (lift_name (vs := [4]) 4 (by decide)))
      (lift_seq (lift_asg (lift_callP0 (lift_cons (lift_v 0) (lift_cons (lift_int _) lift_nil)) h_Ltake_2) (lift_name (vs := [5]) 5 (by decide)))
      (lift_seq (lift_asg (lift_op rl_ixP (lift_lst (lift_cons (lift_int _) (lift_cons (lift_int _) (lift_cons (lift_int _) (lift_cons (lift_int _) (lift_cons (lift_int _) (lift_cons (lift_int _) lift_nil))))))) (lift_callP0 (lift_cons (lift_v 0) (lift_cons (lift_int _) lift_nil)) h_Ltake_2)) (lift_name (vs := [6]) 6 (by decide)))
      (lift_ret (lift_lc (vs := [7]) (lift_iR (lift_cons (lift_v 1) lift_nil)) (lift_name 7 (by decide)) lift_yes (lift_op rl_addP (lift_op rl_addP (lift_sl rl_slP (lift_v 3) lift_po0 (lift_po (lift_v 4))) (lift_op rl_ixP (lift_v 2) (lift_op rl_mod (lift_op rl_addP (lift_v 5) (lift_op rl_mulP (lift_v 6) (lift_v 7))) (lift_int _)))) (lift_sl rl_slP (lift_v 3) (lift_po (lift_v 4)) lift_po0)) (fun _ _ _ _ _ z => z))))))))) (fun p ds Q3 X _ hf => by rw [Lnames_def] at hf; exact hf)
theorem ok_Lcell (T : Top w K mg) (base : Heap) : OkF P w K mg base (L2.CX P w) "_law_cell" "_law_cell" s_Lcell [] [] [] 2 ["_law_pot_here"] (spP K 1 (Lcell (csOf K mg))) := by
  have c_Ltake_2 := cl_take T base (P := P) (w := w)
  have h_Ltake_2 : ∀ H, RepL K H [] [] := fun _ => .nil
  obtain ⟨f, fd, dvs, kvs, rd, rk, F, hm⟩ := T.d_Lcell.ex
  refine ⟨f, fd, dvs, kvs, rd, rk, F, hm, F.ok sc_Lcell (spP_len rfl) (fun cdv A outer s H vs Q E hr h => ?_)⟩
  refine ⟨_, (pss_cons (ps_set (i := 1) sc_Lcell.nd rfl (Or.inl rfl) (pe_cl c_Ltake_2 (hr.mono (by omega)) (by rfl) pass0 (pa_cons (pv 0) (pa_cons pe_int pa_nil))))
      (pss_cons (ps_if (pt_cmpR (op_ltP (K := K) rfl hr.units) (pv 1) pe_int (nomark _)) (pss_one (ps_ret pe_non)) pss_nil)
      (pss_cons (ps_if (pt_cmpR (op_ltP (K := K) rfl hr.units) (pv 1) pe_int (nomark _)) (pss_one (ps_ret (pe_ifExp (pt_cmpR (op_ltP (K := K) rfl hr.units) (pv 1) pe_int (nomark _)) (pe_op op_sub (pe_cl c_Ltake_2 (hr.mono (by omega)) (by rfl) pass0 (pa_cons (pv 0) (pa_cons pe_int pa_nil))) pe_int) (pe_op op_sub (pe_cl c_Ltake_2 (hr.mono (by omega)) (by rfl) pass0 (pa_cons (pv 0) (pa_cons pe_int pa_nil))) pe_int)))) pss_nil)
      (pss_cons (ps_set (i := 2) sc_Lcell.nd rfl (Or.inl rfl) (pe_op op_sub (pe_op op_pow pe_int pe_int) pe_int))
      (pss_one (ps_ret (pe_ix (ix_P (K := K) rfl) (pe_lst (pa_cons (pv 2) (pa_cons (pe_un un_neg (pv 2)) (pa_cons (pe_op (op_addP (K := K) rfl) (pe_op op_pow pe_int pe_int) (pe_cl c_Ltake_2 (hr.mono (by omega)) (by rfl) pass0 (pa_cons (pv 0) (pa_cons (pe_op op_pow pe_int pe_int) pa_nil)))) (pa_cons (pe_cl c_Ltake_2 (hr.mono (by omega)) (by rfl) pass0 (pa_cons (pv 0) (pa_cons (pe_op (op_addP (K := K) rfl) (pv 2) pe_int) pa_nil))) pa_nil))))) (pe_cl c_Ltake_2 (hr.mono (by omega)) (by rfl) pass0 (pa_cons (pv 0) (pa_cons pe_int pa_nil))) (fun _ _ => rfl)))))))), ?_⟩
  exact bodyP (x := fun p => LcellB (csOf K mg) p) (W := fun cls dd _ H => E cls dd H) h (fun _ _ _ _ z => z) (fun p cc => (lift_seq (lift_asg (lift_callP0 (lift_cons (lift_v 0) (lift_cons (lift_int _) lift_nil)) h_Ltake_2) (lift_name (vs := [1]) 1 (by decide)))
      (lift_seq (lift_ifs (lift_tst (lift_op rl_ltP (lift_v 1) (lift_int _))) (lift_ret lift_non) lift_next)
      (lift_seq (lift_ifs (lift_tst (lift_op rl_ltP (lift_v 1) (lift_int _))) (lift_ret (lift_if (lift_tst (lift_op rl_ltP (lift_v 1) (lift_int _))) (lift_op rl_sub (lift_callP0 (lift_cons (lift_v 0) (lift_cons (lift_int _) lift_nil)) h_Ltake_2) (lift_int _)) (lift_op rl_sub (lift_callP0 (lift_cons (lift_v 0) (lift_cons (lift_int _) lift_nil)) h_Ltake_2) (lift_int _)))) lift_next)
      (lift_seq (lift_asg (lift_op rl_sub (lift_op rl_pow (lift_int _) (lift_int _)) (lift_int _)) (lift_name (vs := [2]) 2 (by decide)))
      (lift_ret (lift_op rl_ixP (lift_lst (lift_cons (lift_v 2) (lift_cons (lift_un rl_neg (lift_v 2)) (lift_cons (lift_op rl_addP (lift_op rl_pow (lift_int _) (lift_int _)) (lift_callP0 (lift_cons (lift_v 0) (lift_cons (lift_op rl_pow (lift_int _) (lift_int _)) lift_nil)) h_Ltake_2)) (lift_cons (lift_callP0 (lift_cons (lift_v 0) (lift_cons (lift_op rl_addP (lift_v 2) (lift_int _)) lift_nil)) h_Ltake_2) lift_nil))))) (lift_callP0 (lift_cons (lift_v 0) (lift_cons (lift_int _) lift_nil)) h_Ltake_2)))))))) (fun p ds Q3 X _ hf => by rw [Lcell_def] at hf; exact hf)
set_option maxHeartbeats 8000000 in
theorem ok_Lvalue (T : Top w K mg) (base : Heap) (n : Nat) : OkF P w K mg base (L2.CX P w) "_law_value" "_law_value" s_Lvalue [] [] [] (2 + n) ["_law_pot_here", "_law_room", "_law_lefts", "_law_rights"] (spP K 4 (Lvalue (csOf K mg) n)) ∧ OkF P w K mg base (L2.CX P w) "_law_truth" "_law_truth" s_Ltruth [] [] [] (2 + n) ["_law_pot_here", "_law_room", "_law_lefts", "_law_rights"] (spP K 4 (Ltruth (csOf K mg) n)) := by
  induction n with
  | zero => exact ⟨by rw [Lvalue_zero]; exact T.d_Lvalue.noP _, by rw [Ltruth_zero]; exact T.d_Ltruth.noP _⟩
  | succ n ih =>
    obtain ⟨v_Lcell_1, h_Lcell_1, c_Lcell_1⟩ := ((ok_Lcell T base (P := P) (w := w)).cl (fun _ _ _ _ _ _ us hl => match us, hl with | [_], _ => rfl)).ex
    have c_Ltake_2 := cl_take T base (P := P) (w := w)
    have h_Ltake_2 : ∀ H, RepL K H [] [] := fun _ => .nil
    obtain ⟨v_Ltruth_4, h_Ltruth_4, c_Ltruth_4⟩ := (ih.2.cl (fun _ _ _ _ _ _ us hl => match us, hl with | [_, _, _, _], _ => rfl)).ex
    obtain ⟨v_Lvalue_4, h_Lvalue_4, c_Lvalue_4⟩ := (ih.1.cl (fun _ _ _ _ _ _ us hl => match us, hl with | [_, _, _, _], _ => rfl)).ex
    refine ⟨?_, ?_⟩
    · obtain ⟨f, fd, dvs, kvs, rd, rk, F, hm⟩ := T.d_Lvalue.ex
      refine ⟨f, fd, dvs, kvs, rd, rk, F, hm, F.ok sc_Lvalue (spP_len rfl) (fun cdv A outer s H vs Q E hr h => ?_)⟩
      replace hr : Room (2 + n) _ := hr
      refine ⟨_, (pss_cons (ps_set (i := 4) sc_Lvalue.nd rfl (Or.inl rfl) (pe_cl c_Ltake_2 (hr.mono (by omega)) (by rfl) pass0 (pa_cons (pv 0) (pa_cons pe_int pa_nil))))
      (pss_cons (ps_if (PW.pt (pw_or (pt_cmpR (op_ltP (K := K) rfl hr.units) (pv 1) pe_int (nomark _)) (pw_or1 (pt_cmpR (op_ltP (K := K) rfl hr.units) (pv 4) pe_int (nomark _))))) (pss_cons (ps_set (i := 5) sc_Lvalue.nd rfl (Or.inl rfl) (pe_op (op_addP (K := K) rfl) (pe_lc (own := [("_law_name", 8)]) (g := (gName 8)) (by rfl) sc_Lvalue.nd (pi_P (K := K) rfl (pv 2)) (blkOk_by (own := [("_law_name", 8)]) (N := N_Lvalue) (sc := defScope s_Lvalue) (by decide +kernel)) (fun _ _ _ _ _ => (pg_name (i := 8) sc_Lvalue.nd rfl (Or.inl rfl) (Or.inr rfl))) (fun _ _ _ _ _ => pts_nil) (fun _ _ _ _ _ => (M3.pe_tup (pa_cons pe_str (pa_cons (pv 8) pa_nil))))) (pe_lc (own := [("_law_name", 8)]) (g := (gName 8)) (by rfl) sc_Lvalue.nd (pi_P (K := K) rfl (pv 3)) (blkOk_by (own := [("_law_name", 8)]) (N := N_Lvalue) (sc := defScope s_Lvalue) (by decide +kernel)) (fun _ _ _ _ _ => (pg_name (i := 8) sc_Lvalue.nd rfl (Or.inl rfl) (Or.inr rfl))) (fun _ _ _ _ _ => pts_nil) (fun _ _ _ _ _ => (M3.pe_tup (pa_cons pe_str (pa_cons (pv 8) pa_nil)))))))
      (pss_cons (ps_if (PW.pt (pw_or (pt_cmpR (op_eqP (K := K) rfl hr.units) (pv 5) (pe_lst pa_nil) (nomark _)) (pw_or1 (pt_cmpR (op_eqP (K := K) rfl hr.units) (pe_cl c_Ltake_2 (hr.mono (by omega)) (by rfl) pass0 (pa_cons (pv 0) (pa_cons pe_int pa_nil))) pe_int (nomark _))))) (pss_one (ps_ret (M3.pe_tup (pa_cons pe_str (pa_cons (pe_cl c_Lcell_1 (hr.mono (by omega)) (by rfl) (passes_call (takes_of rfl rfl rfl rfl) (fun _ _ _ _ z => z)) (pa_cons (pv 0) pa_nil)) pa_nil))))) pss_nil)
      (pss_one (ps_ret (pe_ix (ix_P (K := K) rfl) (pv 5) (pe_cl c_Ltake_2 (hr.mono (by omega)) (by rfl) pass0 (pa_cons (pv 0) (pa_cons (pe_callB (call_lenK (K := K) rfl) (by rfl) T.zb_len (by decide +kernel) (pa_cons (pv 5) pa_nil)) pa_nil))) (fun _ _ => rfl)))))) pss_nil)
      (pss_cons (ps_if (pt_cmpR (op_eqP (K := K) rfl hr.units) (pv 4) pe_int (nomark _)) (pss_cons (ps_set (i := 6) sc_Lvalue.nd rfl (Or.inl rfl) (pe_cl c_Ltruth_4 (hr.mono (by omega)) (by rfl) (passes_call (takes_of rfl rfl rfl rfl) (fun _ _ _ _ z => z)) (pa_cons (pv 0) (pa_cons (pe_op op_sub (pv 1) pe_int) (pa_cons (pv 2) (pa_cons (pv 3) pa_nil))))))
      (pss_one (ps_ret (M3.pe_tup (pa_cons pe_str (pa_cons (pv 6) (pa_cons (pe_cl c_Lvalue_4 (hr.mono (by omega)) (by rfl) (passes_call (takes_of rfl rfl rfl rfl) (fun _ _ _ _ z => z)) (pa_cons (pv 0) (pa_cons (pe_op op_sub (pv 1) pe_int) (pa_cons (pv 2) (pa_cons (pv 3) pa_nil))))) (pa_cons (pe_cl c_Lvalue_4 (hr.mono (by omega)) (by rfl) (passes_call (takes_of rfl rfl rfl rfl) (fun _ _ _ _ z => z)) (pa_cons (pv 0) (pa_cons (pe_op op_sub (pv 1) pe_int) (pa_cons (pv 2) (pa_cons (pv 3) pa_nil))))) pa_nil)))))))) pss_nil)
      (pss_cons (ps_set (i := 7) sc_Lvalue.nd rfl (Or.inl rfl) (pe_ix (ix_P (K := K) rfl) (pe_lst (pa_cons pe_str (pa_cons pe_str (pa_cons pe_str (pa_cons pe_str (pa_cons pe_str pa_nil)))))) (pe_op op_mod (pe_op (op_addP (K := K) rfl) (pe_op op_sub (pv 4) pe_int) (pe_cl c_Ltake_2 (hr.mono (by omega)) (by rfl) pass0 (pa_cons (pv 0) (pa_cons pe_int pa_nil)))) pe_int) (fun _ _ => rfl)))
      (pss_one (ps_ret (M3.pe_tup (pa_cons (pv 7) (pa_cons (pe_cl c_Lvalue_4 (hr.mono (by omega)) (by rfl) (passes_call (takes_of rfl rfl rfl rfl) (fun _ _ _ _ z => z)) (pa_cons (pv 0) (pa_cons (pe_op op_sub (pv 1) pe_int) (pa_cons (pv 2) (pa_cons (pv 3) pa_nil))))) (pa_cons (pe_cl c_Lvalue_4 (hr.mono (by omega)) (by rfl) (passes_call (takes_of rfl rfl rfl rfl) (fun _ _ _ _ z => z)) (pa_cons (pv 0) (pa_cons (pe_op op_sub (pv 1) pe_int) (pa_cons (pv 2) (pa_cons (pv 3) pa_nil))))) pa_nil)))))))))), ?_⟩
      exact bodyP (x := fun p => LvalueB (csOf K mg) p (Lvalue (csOf K mg) n) (Ltruth (csOf K mg) n)) (W := fun cls dd _ H => E cls dd H) h (fun _ _ _ _ z => z) (fun p cc => (lift_seq (lift_asg (lift_callP0 (lift_cons (lift_v 0) (lift_cons (lift_int _) lift_nil)) h_Ltake_2) (lift_name (vs := [4]) 4 (by decide)))
      (lift_seq (lift_ifs (lift_or (lift_tst (lift_op rl_ltP (lift_v 1) (lift_int _))) (lift_tst (lift_op rl_ltP (lift_v 4) (lift_int _)))) (lift_seq (lift_asg (lift_op rl_addP (lift_lc (vs := [8]) (lift_iP (lift_v 2)) (lift_name 8 (by decide)) lift_yes (lift_tup (lift_cons (lift_str _) (lift_cons (lift_v 8) lift_nil))) (fun _ _ _ _ _ z => z)) (lift_lc (vs := [8]) (lift_iP (lift_v 3)) (lift_name 8 (by decide)) lift_yes (lift_tup (lift_cons (lift_str _) (lift_cons (lift_v 8) lift_nil))) (fun _ _ _ _ _ z => z))) (lift_name (vs := [5]) 5 (by decide)))
      (lift_seq (lift_ifs (lift_or (lift_tst (lift_op rl_eqP (lift_v 5) (lift_lst lift_nil))) (lift_tst (lift_op rl_eqP (lift_callP0 (lift_cons (lift_v 0) (lift_cons (lift_int _) lift_nil)) h_Ltake_2) (lift_int _)))) (lift_ret (lift_tup (lift_cons (lift_str _) (lift_cons (lift_callP (fun _ _ _ _ z => z) (lift_cons (lift_v 0) lift_nil) h_Lcell_1) lift_nil)))) lift_next)
      (lift_ret (lift_op rl_ixP (lift_v 5) (lift_callP0 (lift_cons (lift_v 0) (lift_cons (lift_cb rl_len (lift_cons (lift_v 5) lift_nil)) lift_nil)) h_Ltake_2))))) lift_next)
      (lift_seq (lift_ifs (lift_tst (lift_op rl_eqP (lift_v 4) (lift_int _))) (lift_seq (lift_asg (lift_callP (fun _ _ _ _ z => z) (lift_cons (lift_v 0) (lift_cons (lift_op rl_sub (lift_v 1) (lift_int _)) (lift_cons (lift_v 2) (lift_cons (lift_v 3) lift_nil)))) h_Ltruth_4) (lift_name (vs := [6]) 6 (by decide)))
      (lift_ret (lift_tup (lift_cons (lift_str _) (lift_cons (lift_v 6) (lift_cons (lift_callP (fun _ _ _ _ z => z) (lift_cons (lift_v 0) (lift_cons (lift_op rl_sub (lift_v 1) (lift_int _)) (lift_cons (lift_v 2) (lift_cons (lift_v 3) lift_nil)))) h_Lvalue_4) (lift_cons (lift_callP (fun _ _ _ _ z => z) (lift_cons (lift_v 0) (lift_cons (lift_op rl_sub (lift_v 1) (lift_int _)) (lift_cons (lift_v 2) (lift_cons (lift_v 3) lift_nil)))) h_Lvalue_4) lift_nil))))))) lift_next)
      (lift_seq (lift_asg (lift_op rl_ixP (lift_lst (lift_cons (lift_str _) (lift_cons (lift_str _) (lift_cons (lift_str _) (lift_cons (lift_str _) (lift_cons (lift_str _) lift_nil)))))) (lift_op rl_mod (lift_op rl_addP (lift_op rl_sub (lift_v 4) (lift_int _)) (lift_callP0 (lift_cons (lift_v 0) (lift_cons (lift_int _) lift_nil)) h_Ltake_2)) (lift_int _))) (lift_name (vs := [7]) 7 (by decide)))
      (lift_ret (lift_tup (lift_cons (lift_v 7) (lift_cons (lift_callP (fun _ _ _ _ z => z) (lift_cons (lift_v 0) (lift_cons (lift_op rl_sub (lift_v 1) (lift_int _)) (lift_cons (lift_v 2) (lift_cons (lift_v 3) lift_nil)))) h_Lvalue_4) (lift_cons (lift_callP (fun _ _ _ _ z => z) (lift_cons (lift_v 0) (lift_cons (lift_op rl_sub (lift_v 1) (lift_int _)) (lift_cons (lift_v 2) (lift_cons (lift_v 3) lift_nil)))) h_Lvalue_4) lift_nil)))))))))) (fun p ds Q3 X _ hf => by rw [Lvalue_succ] at hf; exact hf)
    · obtain ⟨f, fd, dvs, kvs, rd, rk, F, hm⟩ := T.d_Ltruth.ex
      refine ⟨f, fd, dvs, kvs, rd, rk, F, hm, F.ok sc_Ltruth (spP_len rfl) (fun cdv A outer s H vs Q E hr h => ?_)⟩
      replace hr : Room (2 + n) _ := hr
      refine ⟨_, (pss_cons (ps_set (i := 4) sc_Ltruth.nd rfl (Or.inl rfl) (pe_cl c_Ltake_2 (hr.mono (by omega)) (by rfl) pass0 (pa_cons (pv 0) (pa_cons pe_int pa_nil))))
      (pss_cons (ps_if (PW.pt (pw_or (pt_cmpR (op_ltP (K := K) rfl hr.units) (pv 1) pe_int (nomark _)) (pw_or1 (pt_cmpR (op_eqP (K := K) rfl hr.units) (pv 4) pe_int (nomark _))))) (pss_one (ps_ret (M3.pe_tup (pa_cons pe_str pa_nil)))) pss_nil)
      (pss_cons (ps_if (pt_cmpR (op_ltP (K := K) rfl hr.units) (pv 4) pe_int (nomark _)) (pss_cons (ps_set (i := 5) sc_Ltruth.nd rfl (Or.inl rfl) (pe_cl c_Lvalue_4 (hr.mono (by omega)) (by rfl) (passes_call (takes_of rfl rfl rfl rfl) (fun _ _ _ _ z => z)) (pa_cons (pv 0) (pa_cons (pe_callB (call_min2 rfl) (by rfl) T.zb_min (by decide +kernel) (pa_cons pe_int (pa_cons (pe_op op_sub (pv 1) pe_int) pa_nil))) (pa_cons (pv 2) (pa_cons (pv 3) pa_nil))))))
      (pss_cons (ps_if (pt_cmpR (op_eqP (K := K) rfl hr.units) (pv 4) pe_int (nomark _)) (pss_one (ps_ret (M3.pe_tup (pa_cons pe_str (pa_cons (pv 5) pa_nil))))) pss_nil)
      (pss_one (ps_ret (M3.pe_tup (pa_cons (pe_ix (ix_P (K := K) rfl) (pe_lst (pa_cons pe_str (pa_cons pe_str pa_nil))) (pe_op op_fdivW (pv 4) pe_int) (fun _ _ => rfl)) (pa_cons (pv 5) (pa_cons (pe_cl c_Lvalue_4 (hr.mono (by omega)) (by rfl) (passes_call (takes_of rfl rfl rfl rfl) (fun _ _ _ _ z => z)) (pa_cons (pv 0) (pa_cons (pe_callB (call_min2 rfl) (by rfl) T.zb_min (by decide +kernel) (pa_cons pe_int (pa_cons (pe_op op_sub (pv 1) pe_int) pa_nil))) (pa_cons (pv 2) (pa_cons (pv 3) pa_nil))))) pa_nil)))))))) pss_nil)
      (pss_cons (ps_if (pt_cmpR (op_eqP (K := K) rfl hr.units) (pv 4) pe_int (nomark _)) (pss_one (ps_ret (M3.pe_tup (pa_cons pe_str (pa_cons (pe_cl c_Ltruth_4 (hr.mono (by omega)) (by rfl) (passes_call (takes_of rfl rfl rfl rfl) (fun _ _ _ _ z => z)) (pa_cons (pv 0) (pa_cons (pe_op op_sub (pv 1) pe_int) (pa_cons (pv 2) (pa_cons (pv 3) pa_nil))))) pa_nil))))) pss_nil)
      (pss_cons (ps_set (i := 6) sc_Ltruth.nd rfl (Or.inl rfl) (pe_ix (ix_P (K := K) rfl) (pe_lst (pa_cons pe_str (pa_cons pe_str pa_nil))) (pe_op op_mod (pv 4) pe_int) (fun _ _ => rfl)))
      (pss_one (ps_ret (M3.pe_tup (pa_cons (pv 6) (pa_cons (pe_cl c_Ltruth_4 (hr.mono (by omega)) (by rfl) (passes_call (takes_of rfl rfl rfl rfl) (fun _ _ _ _ z => z)) (pa_cons (pv 0) (pa_cons (pe_op op_sub (pv 1) pe_int) (pa_cons (pv 2) (pa_cons (pv 3) pa_nil))))) (pa_cons (pe_cl c_Ltruth_4 (hr.mono (by omega)) (by rfl) (passes_call (takes_of rfl rfl rfl rfl) (fun _ _ _ _ z => z)) (pa_cons (pv 0) (pa_cons (pe_op op_sub (pv 1) pe_int) (pa_cons (pv 2) (pa_cons (pv 3) pa_nil))))) pa_nil))))))))))), ?_⟩
      exact bodyP (x := fun p => LtruthB (csOf K mg) p (Lvalue (csOf K mg) n) (Ltruth (csOf K mg) n)) (W := fun cls dd _ H => E cls dd H) h (fun _ _ _ _ z => z) (fun p cc => (lift_seq (lift_asg (lift_callP0 (lift_cons (lift_v 0) (lift_cons (lift_int _) lift_nil)) h_Ltake_2) (lift_name (vs := [4]) 4 (by decide)))
      (lift_seq (lift_ifs (lift_or (lift_tst (lift_op rl_ltP (lift_v 1) (lift_int _))) (lift_tst (lift_op rl_eqP (lift_v 4) (lift_int _)))) (lift_ret (lift_tup (lift_cons (lift_str _) lift_nil))) lift_next)
      (lift_seq (lift_ifs (lift_tst (lift_op rl_ltP (lift_v 4) (lift_int _))) (lift_seq (lift_asg (lift_callP (fun _ _ _ _ z => z) (lift_cons (lift_v 0) (lift_cons (lift_cb rl_min2 (lift_cons (lift_int _) (lift_cons (lift_op rl_sub (lift_v 1) (lift_int _)) lift_nil))) (lift_cons (lift_v 2) (lift_cons (lift_v 3) lift_nil)))) h_Lvalue_4) (lift_name (vs := [5]) 5 (by decide)))
      (lift_seq (lift_ifs (lift_tst (lift_op rl_eqP (lift_v 4) (lift_int _))) (lift_ret (lift_tup (lift_cons (lift_str _) (lift_cons (lift_v 5) lift_nil)))) lift_next)
      (lift_ret (lift_tup (lift_cons (lift_op rl_ixP (lift_lst (lift_cons (lift_str _) (lift_cons (lift_str _) lift_nil))) (lift_op rl_fdivW (lift_v 4) (lift_int _))) (lift_cons (lift_v 5) (lift_cons (lift_callP (fun _ _ _ _ z => z) (lift_cons (lift_v 0) (lift_cons (lift_cb rl_min2 (lift_cons (lift_int _) (lift_cons (lift_op rl_sub (lift_v 1) (lift_int _)) lift_nil))) (lift_cons (lift_v 2) (lift_cons (lift_v 3) lift_nil)))) h_Lvalue_4) lift_nil))))))) lift_next)
      (lift_seq (lift_ifs (lift_tst (lift_op rl_eqP (lift_v 4) (lift_int _))) (lift_ret (lift_tup (lift_cons (lift_str _) (lift_cons (lift_callP (fun _ _ _ _ z => z) (lift_cons (lift_v 0) (lift_cons (lift_op rl_sub (lift_v 1) (lift_int _)) (lift_cons (lift_v 2) (lift_cons (lift_v 3) lift_nil)))) h_Ltruth_4) lift_nil)))) lift_next)
      (lift_seq (lift_asg (lift_op rl_ixP (lift_lst (lift_cons (lift_str _) (lift_cons (lift_str _) lift_nil))) (lift_op rl_mod (lift_v 4) (lift_int _))) (lift_name (vs := [6]) 6 (by decide)))
      (lift_ret (lift_tup (lift_cons (lift_v 6) (lift_cons (lift_callP (fun _ _ _ _ z => z) (lift_cons (lift_v 0) (lift_cons (lift_op rl_sub (lift_v 1) (lift_int _)) (lift_cons (lift_v 2) (lift_cons (lift_v 3) lift_nil)))) h_Ltruth_4) (lift_cons (lift_callP (fun _ _ _ _ z => z) (lift_cons (lift_v 0) (lift_cons (lift_op rl_sub (lift_v 1) (lift_int _)) (lift_cons (lift_v 2) (lift_cons (lift_v 3) lift_nil)))) h_Ltruth_4) lift_nil))))))))))) (fun p ds Q3 X _ hf => by rw [Ltruth_succ] at hf; exact hf)
set_option maxHeartbeats 8000000 in
theorem ok_Ldepth (T : Top w K mg) (base : Heap) (n : Nat) : OkF P w K mg base (L2.CX P w) "_law_depth" "_law_depth" s_Ldepth [] [] [] (0 + n) ["_law_word"] (sp3 K 1 (Ldepth (csOf K mg) n)) := by
  induction n with
  | zero => exact by rw [Ldepth_zero]; exact T.d_Ldepth.no _
  | succ n ih =>
    obtain ⟨v_Ldepth_1, h_Ldepth_1, c_Ldepth_1⟩ := (ih.cl (fun _ _ _ _ _ _ us hl => match us, hl with | [_], _ => rfl)).ex
    obtain ⟨f, fd, dvs, kvs, rd, rk, F, hm⟩ := T.d_Ldepth.ex
    refine ⟨f, fd, dvs, kvs, rd, rk, F, hm, F.ok sc_Ldepth (sp3_len rfl) (fun cdv A outer s H vs Q E hr h => ?_)⟩
    replace hr : Room (0 + n) _ := hr
    refine ⟨_, (pss_cons (ps_if (pt_cmpR (op_inP (K := K) rfl) (pe_ix (ix_P (K := K) rfl) (pv 0) pe_int (fun _ _ => rfl)) (M3.pe_tup (pa_cons pe_str (pa_cons pe_str (pa_cons pe_str pa_nil)))) (by rfl)) (pss_one (ps_ret pe_int)) pss_nil)
      (pss_cons (ps_set (i := 1) sc_Ldepth.nd rfl (Or.inl rfl) pe_int)
      (pss_cons (ps_for (passes_of rfl) (by rfl) (pi_P (K := K) rfl (pe_slice (sl_P (K := K) rfl) (pv 0) (po_some pe_int) po_none)) (pg_name (i := 2) sc_Ldepth.nd rfl (Or.inl rfl))
      (pss_one (ps_set (i := 1) sc_Ldepth.nd rfl (Or.inl rfl) (pe_callB (call_max2 rfl) (by rfl) T.zb_max (by decide +kernel) (pa_cons (pv 1) (pa_cons (pe_cl c_Ldepth_1 (hr.mono (by omega)) (by rfl) (passes_call (takes_of rfl rfl rfl rfl) (fun _ _ _ _ z => z)) (pa_cons (pv 2) pa_nil)) pa_nil))))))
      (pss_one (ps_ret (pe_op (op_addP (K := K) rfl) (pv 1) pe_int)))))), ?_⟩
    exact body3 (x := LdepthB (csOf K mg) (Ldepth (csOf K mg) n)) (W := fun cls dd _ H => E cls dd H) h (fun _ _ _ _ z => z) (lift_seq (lift_ifs (lift_tst (lift_op (rl_inP false) (lift_op rl_ixP (lift_v 0) (lift_int _)) (lift_tup (lift_cons (lift_str _) (lift_cons (lift_str _) (lift_cons (lift_str _) lift_nil)))))) (lift_ret (lift_int _)) lift_next)
      (lift_seq (lift_asg (lift_int _) (lift_name (vs := [1]) 1 (by decide)))
      (lift_seq (lift_for (vs := [2]) (lift_iP (lift_sl rl_slP (lift_v 0) (lift_po (lift_int _)) lift_po0)) (lift_name 2 (by decide))
      (lift_asg (lift_cb rl_max2 (lift_cons (lift_v 1) (lift_cons (lift_call (fun _ _ _ _ z => z) (lift_cons (lift_v 2) lift_nil) h_Ldepth_1) lift_nil))) (lift_name (vs := [1]) 1 (by decide))))
      (lift_ret (lift_op rl_addP (lift_v 1) (lift_int _)))))) (fun ds Q3 X _ hf => by rw [Ldepth_succ] at hf; exact hf)
set_option maxHeartbeats 8000000 in
theorem ok_Lcolumns (T : Top w K mg) (base : Heap) (n : Nat) : OkF P w K mg base (L2.CX P w) "_law_columns" "_law_columns" s_Lcolumns [] [] [] (0 + n) ["_law_word", "_law_side"] (sp3 K 2 (Lcolumns (csOf K mg) n)) := by
  induction n with
  | zero => exact by rw [Lcolumns_zero]; exact T.d_Lcolumns.no _
  | succ n ih =>
    obtain ⟨v_Lcolumns_2, h_Lcolumns_2, c_Lcolumns_2⟩ := (ih.cl (fun _ _ _ _ _ _ us hl => match us, hl with | [_, _], _ => rfl)).ex
    obtain ⟨f, fd, dvs, kvs, rd, rk, F, hm⟩ := T.d_Lcolumns.ex
    refine ⟨f, fd, dvs, kvs, rd, rk, F, hm, F.ok sc_Lcolumns (sp3_len rfl) (fun cdv A outer s H vs Q E hr h => ?_)⟩
    replace hr : Room (0 + n) _ := hr
    refine ⟨_, (pss_cons (ps_if (pt_cmpR (op_inP (K := K) rfl) (pe_ix (ix_P (K := K) rfl) (pv 0) pe_int (fun _ _ => rfl)) (M3.pe_tup (pa_cons pe_str (pa_cons pe_str (pa_cons pe_str pa_nil)))) (by rfl)) (pss_one (ps_ret (pe_ifExp (pt_cmpR (op_eqP (K := K) rfl hr.units) (pe_ix (ix_P (K := K) rfl) (pv 0) pe_int (fun _ _ => rfl)) (pv 1) (nomark _)) (pe_lst (pa_cons (pe_ix (ix_P (K := K) rfl) (pv 0) pe_int (fun _ _ => rfl)) pa_nil)) (pe_lst pa_nil)))) pss_nil)
      (pss_cons (ps_set (i := 2) sc_Lcolumns.nd rfl (Or.inl rfl) (pe_lst pa_nil))
      (pss_cons (ps_for (passes_of rfl) (by rfl) (pi_P (K := K) rfl (pe_slice (sl_P (K := K) rfl) (pv 0) (po_some pe_int) po_none)) (pg_name (i := 3) sc_Lcolumns.nd rfl (Or.inl rfl))
      (pss_one (ps_set (i := 2) sc_Lcolumns.nd rfl (Or.inl rfl) (pe_op (op_addP (K := K) rfl) (pv 2) (pe_cl c_Lcolumns_2 (hr.mono (by omega)) (by rfl) (passes_call (takes_of rfl rfl rfl rfl) (fun _ _ _ _ z => z)) (pa_cons (pv 3) (pa_cons (pv 1) pa_nil)))))))
      (pss_one (ps_ret (pe_sortSet (K := K) rfl (by rfl) (by rfl) T.zb_sorted (by rfl) T.zb_set (pv 2))))))), ?_⟩
    exact body3 (x := LcolumnsB (csOf K mg) (Lcolumns (csOf K mg) n)) (W := fun cls dd _ H => E cls dd H) h (fun _ _ _ _ z => z) (lift_seq (lift_ifs (lift_tst (lift_op (rl_inP false) (lift_op rl_ixP (lift_v 0) (lift_int _)) (lift_tup (lift_cons (lift_str _) (lift_cons (lift_str _) (lift_cons (lift_str _) lift_nil)))))) (lift_ret (lift_if (lift_tst (lift_op rl_eqP (lift_op rl_ixP (lift_v 0) (lift_int _)) (lift_v 1))) (lift_lst (lift_cons (lift_op rl_ixP (lift_v 0) (lift_int _)) lift_nil)) (lift_lst lift_nil))) lift_next)
      (lift_seq (lift_asg (lift_lst lift_nil) (lift_name (vs := [2]) 2 (by decide)))
      (lift_seq (lift_for (vs := [3]) (lift_iP (lift_sl rl_slP (lift_v 0) (lift_po (lift_int _)) lift_po0)) (lift_name 3 (by decide))
      (lift_asg (lift_op rl_addP (lift_v 2) (lift_call (fun _ _ _ _ z => z) (lift_cons (lift_v 3) (lift_cons (lift_v 1) lift_nil)) h_Lcolumns_2)) (lift_name (vs := [2]) 2 (by decide))))
      (lift_ret (lift_ofFr (lift_frSortSet (lift_v 2))))))) (fun ds Q3 X _ hf => by rw [Lcolumns_succ] at hf; exact hf)
set_option maxHeartbeats 8000000 in
theorem ok_law (T : Top w K mg) (base : Heap) (hp : Plain (csOf K mg)) {f : Addr} {fd : FuncData} (F : Fun K "law" "law" s_law f fd) : FnOk P w K mg base CX0 15 f fd ["_law_script"] (spLaw K) := by
  obtain ⟨v_Lcolumns_2, h_Lcolumns_2, c_Lcolumns_2⟩ := ((ok_Lcolumns T base (P := P) (w := w) 12).cl (fun _ _ _ _ _ _ us hl => match us, hl with | [_, _], _ => rfl)).ex
  obtain ⟨v_Ldepth_1, h_Ldepth_1, c_Ldepth_1⟩ := ((ok_Ldepth T base (P := P) (w := w) 12).cl (fun _ _ _ _ _ _ us hl => match us, hl with | [_], _ => rfl)).ex
  obtain ⟨v_Lnames_2, h_Lnames_2, c_Lnames_2⟩ := ((ok_Lnames T base (P := P) (w := w)).cl (fun _ _ _ _ _ _ us hl => match us, hl with | [_, _], _ => rfl)).ex
  obtain ⟨v_Lsame_2, h_Lsame_2, c_Lsame_2⟩ := ((ok_Lsame T base (P := P) (w := w) 12).cl (fun _ _ _ _ _ _ us hl => match us, hl with | [_, _], _ => rfl)).ex
  have c_Ltake_2 := cl_take T base (P := P) (w := w)
  have h_Ltake_2 : ∀ H, RepL K H [] [] := fun _ => .nil
  obtain ⟨v_Ltruth_4, h_Ltruth_4, c_Ltruth_4⟩ := ((ok_Lvalue T base (P := P) (w := w) 12).2.cl (fun _ _ _ _ _ _ us hl => match us, hl with | [_, _, _, _], _ => rfl)).ex
  obtain ⟨v_Lvalue_4, h_Lvalue_4, c_Lvalue_4⟩ := ((ok_Lvalue T base (P := P) (w := w) 12).1.cl (fun _ _ _ _ _ _ us hl => match us, hl with | [_, _, _, _], _ => rfl)).ex
  obtain ⟨v_columns_in_1, h_columns_in_1, c_columns_in_1⟩ := ((ok_columns_in T base (P := P) (w := w)).cl (fun _ _ _ _ _ _ us hl => match us, hl with | [_], _ => rfl)).ex
  obtain ⟨v_deep_1, h_deep_1, c_deep_1⟩ := ((ok_deep T base (P := P) (w := w) 12).cl (fun _ _ _ _ _ _ us hl => match us, hl with | [_], _ => rfl)).ex
  obtain ⟨u_ALWAYS, w_ALWAYS, zg_ALWAYS, zr_ALWAYS, zt_ALWAYS⟩ := T.zc_ALWAYS
  obtain ⟨u_MOST_DEEP, w_MOST_DEEP, zg_MOST_DEEP, zr_MOST_DEEP, zt_MOST_DEEP⟩ := T.zc_MOST_DEEP
  refine F.ok sc_law (fun vs H Q E h => ?_) (fun cdv A outer s H vs Q E hr h => ?_)
  · obtain ⟨a, ns, rfl, _⟩ := h
    rfl
  obtain ⟨a, ns, rfl, hS, hQ⟩ := h
  refine ⟨_, pss_cons (ps_set (i := 1) sc_law.nd rfl (Or.inl rfl) (pe_cl (cl_pot T base) (hr.mono (by omega)) (by rfl) pass0 (pa_cons (pv 0) pa_nil))) (pss_cons (ps_set (i := 2) sc_law.nd rfl (Or.inl rfl) (pe_cl c_Lnames_2 (hr.mono (by omega)) (by rfl) passL (pa_cons (pv 1) (pa_cons pe_int pa_nil))))
      (pss_cons (ps_for PassesOwn.never (by rfl) (pi_range1 (by rfl) T.zb_range (pa_cons pe_int pa_nil)) (pg_name (i := 3) sc_law.nd rfl (Or.inl rfl))
      (pss_cons (ps_set (i := 4) sc_law.nd rfl (Or.inl rfl) (pe_slice (sl_P (K := K) rfl) (pv 2) po_none (po_some (pe_op (op_addP (K := K) rfl) pe_int (pe_cl c_Ltake_2 (hr.mono (by omega)) (by rfl) pass0 (pa_cons (pv 1) (pa_cons pe_int pa_nil)))))))
      (pss_cons (ps_set (i := 5) sc_law.nd rfl (Or.inl rfl) (pe_slice (sl_P (K := K) rfl) (pv 2) (po_some (pe_cl c_Ltake_2 (hr.mono (by omega)) (by rfl) pass0 (pa_cons (pv 1) (pa_cons pe_int pa_nil)))) po_none))
      (pss_cons (ps_set (i := 6) sc_law.nd rfl (Or.inl rfl) (pe_cl c_Ltruth_4 (hr.mono (by omega)) (by rfl) passL (pa_cons (pv 1) (pa_cons (pe_op (op_addP (K := K) rfl) pe_int (pe_cl c_Ltake_2 (hr.mono (by omega)) (by rfl) pass0 (pa_cons (pv 1) (pa_cons pe_int pa_nil)))) (pa_cons (pv 4) (pa_cons (pv 5) pa_nil))))))
      (pss_cons (ps_if (pt_cmpR (op_eqP (K := K) rfl hr.units) (pe_cl c_Ltake_2 (hr.mono (by omega)) (by rfl) pass0 (pa_cons (pv 1) (pa_cons pe_int pa_nil))) pe_int (nomark _)) (pss_one (ps_set (i := 6) sc_law.nd rfl (Or.inl rfl) (pe_cl c_Lvalue_4 (hr.mono (by omega)) (by rfl) passL (pa_cons (pv 1) (pa_cons (pe_op (op_addP (K := K) rfl) pe_int (pe_cl c_Ltake_2 (hr.mono (by omega)) (by rfl) pass0 (pa_cons (pv 1) (pa_cons pe_int pa_nil)))) (pa_cons (pv 4) (pa_cons (pv 5) pa_nil))))))) pss_nil)
      (pss_cons (ps_set (i := 7) sc_law.nd rfl (Or.inl rfl) (M3.pe_tup (pa_cons (pe_cl c_Lcolumns_2 (hr.mono (by omega)) (by rfl) passL (pa_cons (pv 6) (pa_cons pe_str pa_nil))) (pa_cons (pe_cl c_Lcolumns_2 (hr.mono (by omega)) (by rfl) passL (pa_cons (pv 6) (pa_cons pe_str pa_nil))) pa_nil))))
      (pss_cons (ps_if (PW.pt (pw_or (pt_not (pt_val (pe_cl c_Lsame_2 (hr.mono (by omega)) (by rfl) passL (pa_cons (pe_cl c_deep_1 (hr.mono (by omega)) (by rfl) passL (pa_cons (pv 6) pa_nil)) (pa_cons (pe_cl c_Ldepth_1 (hr.mono (by omega)) (by rfl) passL (pa_cons (pv 6) pa_nil)) pa_nil))))) (pw_or1 (pt_not (pt_val (pe_cl c_Lsame_2 (hr.mono (by omega)) (by rfl) passL (pa_cons (pe_cl c_columns_in_1 (hr.mono (by omega)) (by rfl) passL (pa_cons (pv 6) pa_nil)) (pa_cons (pv 7) pa_nil)))))))) (pss_one (ps_ret pe_bl)) pss_nil)
      (pss_cons (ps_expr (pe_bm PySem.F.plainAttrs_list PySem.F.slot_list_append PySem.F.type_list_append mt_append (pe_ix (ix_P (K := K) rfl) (pe_cl c_columns_in_1 (hr.mono (by omega)) (by rfl) passL (pa_cons (pv 6) pa_nil)) pe_int (fun _ _ => rfl)) (pa_cons pe_str pa_nil)))
      (pss_one (ps_if (pt_not (pt_val (pe_cl c_Lsame_2 (hr.mono (by omega)) (by rfl) passL (pa_cons (pe_cl c_columns_in_1 (hr.mono (by omega)) (by rfl) passL (pa_cons (pv 6) pa_nil)) (pa_cons (pv 7) pa_nil))))) (pss_one (ps_ret pe_bl)) pss_nil))))))))))
      (pss_one (ps_ret (pe_and (pe_cl c_Lsame_2 (hr.mono (by omega)) (by rfl) passL (pa_cons (pe_glob (by rfl) zg_ALWAYS zr_ALWAYS) (pa_cons (M3.pe_tup (pa_cons pe_str pa_nil)) pa_nil))) (pe_and (pe_cl c_Lsame_2 (hr.mono (by omega)) (by rfl) passL (pa_cons (pe_glob (by rfl) zg_MOST_DEEP zr_MOST_DEEP) (pa_cons pe_int pa_nil))) (pe_one (pe_cmpR (op_eqP (K := K) rfl hr.units) (pe_cl c_deep_1 (hr.mono (by omega)) (by rfl) passL (pa_cons (M3.pe_tup (pa_cons pe_str pa_nil)) pa_nil)) pe_int (nomark _))))))))), ?_⟩
  refine ⟨_, rfl, a, ns, rfl, hS, fun p cc H1 hp0 hc0 hpt _ => ?_⟩
  exact law_rest4 (x := lawB (csOf K mg) p) (W := fun _ _ _ _ => False) 6 (lift_seq4 (lift_asg4 (lift_pu (lift_callP0 (lift_cons (lift_v 1) (lift_cons (lift_int _) lift_nil)) h_Lnames_2)) (lift_name (vs := [2]) 2 (by decide)))
      (lift_seq4 (lift_for4 (vs := [3]) (lift_iR (lift_cons (lift_int _) lift_nil)) (lift_name 3 (by decide))
      (lift_seq4 (lift_asg4 (lift_pu (lift_sl rl_slP (lift_v 2) lift_po0 (lift_po (lift_op rl_addP (lift_int _) (lift_callP0 (lift_cons (lift_v 1) (lift_cons (lift_int _) lift_nil)) h_Ltake_2))))) (lift_name (vs := [4]) 4 (by decide)))
      (lift_seq4 (lift_asg4 (lift_pu (lift_sl rl_slP (lift_v 2) (lift_po (lift_callP0 (lift_cons (lift_v 1) (lift_cons (lift_int _) lift_nil)) h_Ltake_2)) lift_po0)) (lift_name (vs := [5]) 5 (by decide)))
      (lift_seq4 (lift_asg4 (lift_pu (lift_callP0 (lift_cons (lift_v 1) (lift_cons (lift_op rl_addP (lift_int _) (lift_callP0 (lift_cons (lift_v 1) (lift_cons (lift_int _) lift_nil)) h_Ltake_2)) (lift_cons (lift_v 4) (lift_cons (lift_v 5) lift_nil)))) h_Ltruth_4)) (lift_name (vs := [6]) 6 (by decide)))
      (lift_seq4 (lift_ifs4 (lift_pu (lift_tst (lift_op rl_eqP (lift_callP0 (lift_cons (lift_v 1) (lift_cons (lift_int _) lift_nil)) h_Ltake_2) (lift_int _)))) (lift_asg4 (lift_pu (lift_callP0 (lift_cons (lift_v 1) (lift_cons (lift_op rl_addP (lift_int _) (lift_callP0 (lift_cons (lift_v 1) (lift_cons (lift_int _) lift_nil)) h_Ltake_2)) (lift_cons (lift_v 4) (lift_cons (lift_v 5) lift_nil)))) h_Lvalue_4)) (lift_name (vs := [6]) 6 (by decide))) lift_next4)
      (lift_seq4 (lift_asg4 (lift_pu (lift_tup (lift_cons (lift_call0 (lift_cons (lift_v 6) (lift_cons (lift_str _) lift_nil)) h_Lcolumns_2) (lift_cons (lift_call0 (lift_cons (lift_v 6) (lift_cons (lift_str _) lift_nil)) h_Lcolumns_2) lift_nil)))) (lift_name (vs := [7]) 7 (by decide)))
      (lift_seq4 (lift_ifs4 (lift_or4 (lift_pu (lift_not (lift_tB (lift_call0 (lift_cons (lift_call0 (lift_cons (lift_v 6) lift_nil) h_deep_1) (lift_cons (lift_call0 (lift_cons (lift_v 6) lift_nil) h_Ldepth_1) lift_nil)) h_Lsame_2)))) (lift_not4 (lift_tst4 (lift_fn34 (lift_cons4 (lift_frzT4 (lift_fn40 (lift_cons4 (lift_pu (lift_v 6)) lift_nil4) h_columns_in_1)) (lift_cons4 (lift_pu (lift_v 7)) lift_nil4)) h_Lsame_2)))) (lift_ret4 (lift_pu (lift_bl _))) lift_next4)
      (lift_seq4 (lift_drop4 (lift_app4 (lift_op4 rl_ixP (lift_fn40 (lift_cons4 (lift_pu (lift_v 6)) lift_nil4) h_columns_in_1) (lift_pu (lift_int _))) (lift_pu (lift_str _))))
      (lift_ifs4 (lift_not4 (lift_tst4 (lift_fn34 (lift_cons4 (lift_frzT4 (lift_fn40 (lift_cons4 (lift_pu (lift_v 6)) lift_nil4) h_columns_in_1)) (lift_cons4 (lift_pu (lift_v 7)) lift_nil4)) h_Lsame_2))) (lift_ret4 (lift_pu (lift_bl _))) lift_next4)))))))))
      (lift_ret4 (lift_pu (lift_andV (lift_call0 (lift_cons (lift_k zt_ALWAYS) (lift_cons (lift_tup (lift_cons (lift_str _) lift_nil)) lift_nil)) h_Lsame_2) (lift_andV (lift_call0 (lift_cons (lift_k zt_MOST_DEEP) (lift_cons (lift_int _) lift_nil)) h_Lsame_2) (lift_op rl_eqP (lift_call0 (lift_cons (lift_tup (lift_cons (lift_str _) lift_nil)) lift_nil) h_deep_1) (lift_int _)))))))) hpt tabs_nil hQ (hp p)
end
end Law

namespace Law
open PySem L2 M3
/-! ### comprehensions that map -/
theorem comp_map {i : Nat} {te : E3} {σ : List Sl} {X : X3} {h : T → T} {Q : List T → Prop} : ∀ (ds acc : List T), (∀ d ∈ ds, ∀ Q' : T → Prop, te (σ.set i (.val d)) Q' X = Q' (h d)) → acc.length + ds.length ≤ 100000 → comp3 (name3 i) yes3 te σ X Q ds acc = Q (acc ++ ds.map h)
  | [], acc, _, _ => by simp [comp3]
  | d :: ds, acc, hd, hl => by
    have e1 := hd d (List.mem_cons_self ..)
    have e2 := comp_map (i := i) (te := te) (σ := σ) (X := X) (h := h) (Q := Q) ds (acc ++ [h d]) (fun x hx => hd x (List.mem_cons_of_mem _ hx)) (by simp at hl ⊢; omega)
    have e3 : acc.length < sizeLine := by
      have : sizeLine = 16777216 := by decide
      simp at hl; omega
    show (te (σ.set i (.val d)) (fun y => acc.length < sizeLine ∧ comp3 (name3 i) yes3 te σ X Q ds (acc ++ [y])) X) = _
    rw [e1, e2]
    simp [e3]
theorem all_bls {p : T → Bool} {ds : List T} {Q : T → Prop} : all3 [.lst (ds.map fun d => .bl (p d))] Q = Q (.bl (ds.all p)) := by
  have e : bls (ds.map fun d => T.bl (p d)) = some (ds.map p) := by
    have := bls_map (ds.map p)
    rwa [List.map_map] at this
  show ob (bls (ds.map fun d => T.bl (p d))) _ = _
  rw [e]
  simp [List.all_map]
@[simp] theorem at_0 (x : T) (xs : List T) : atI (x :: xs) 0 = some x := atI_nat (j := 0) rfl
@[simp] theorem at_1 (x y : T) (xs : List T) : atI (x :: y :: xs) 1 = some y := atI_nat (j := 1) rfl
@[simp] theorem at_2 (x y z : T) (xs : List T) : atI (x :: y :: z :: xs) 2 = some z := atI_nat (j := 2) rfl
@[simp] theorem at_3 (x y z u : T) (xs : List T) : atI (x :: y :: z :: u :: xs) 3 = some u := atI_nat (j := 3) rfl
/-! ### the law's own comparison -/
mutual
def sameT : T → T → Bool
  | f, .non => isNon f
  | f, .bl b => match f with | .bl a => decide (a = b) | _ => false
  | f, .int j => match f with | .int i => decide (i = j) | _ => false
  | f, .str y => match f with | .str x => decide (x = y) | _ => false
  | f, .lst ys => match f with | .lst xs => sameL xs ys | _ => false
  | f, .tup ys => match f with | .tup xs => sameL xs ys | _ => false
  | _, _ => false
def sameL : List T → List T → Bool
  | [], [] => true
  | x :: xs, y :: ys => sameT x y && sameL xs ys
  | _, _ => false
end
mutual
def plain : T → Bool
  | .non => true
  | .bl _ => true
  | .int _ => true
  | .str _ => true
  | .lst xs => decide (xs.length < 100000) && plainL xs
  | .tup xs => decide (xs.length < 100000) && plainL xs
  | _ => false
def plainL : List T → Bool
  | [] => true
  | x :: xs => plain x && plainL xs
end
mutual
def dep : T → Nat
  | .lst xs => depL xs + 1
  | .tup xs => depL xs + 1
  | _ => 0
def depL : List T → Nat
  | [] => 0
  | x :: xs => max (dep x) (depL xs)
end
@[simp] theorem plain_non : plain .non = true := by simp [plain]
@[simp] theorem plain_bl (b : Bool) : plain (.bl b) = true := by simp [plain]
@[simp] theorem plain_int (b : Int) : plain (.int b) = true := by simp [plain]
@[simp] theorem plain_str (b : Str) : plain (.str b) = true := by simp [plain]
@[simp] theorem plain_lst (b : List T) : plain (.lst b) = (decide (b.length < 100000) && plainL b) := by simp [plain]
@[simp] theorem plain_tup (b : List T) : plain (.tup b) = (decide (b.length < 100000) && plainL b) := by simp [plain]
@[simp] theorem plainL_nil : plainL [] = true := by simp [plainL]
@[simp] theorem plainL_cons (x : T) (xs : List T) : plainL (x :: xs) = (plain x && plainL xs) := by simp [plainL]
@[simp] theorem dep_non : dep .non = 0 := by simp [dep]
@[simp] theorem dep_bl (b : Bool) : dep (.bl b) = 0 := by simp [dep]
@[simp] theorem dep_int (b : Int) : dep (.int b) = 0 := by simp [dep]
@[simp] theorem dep_str (b : Str) : dep (.str b) = 0 := by simp [dep]
@[simp] theorem dep_lst (b : List T) : dep (.lst b) = depL b + 1 := by simp [dep]
@[simp] theorem dep_tup (b : List T) : dep (.tup b) = depL b + 1 := by simp [dep]
@[simp] theorem depL_nil : depL [] = 0 := by simp [depL]
@[simp] theorem depL_cons (x : T) (xs : List T) : depL (x :: xs) = max (dep x) (depL xs) := by simp [depL]
@[simp] theorem same_bl (a b : Bool) : sameT (.bl a) (.bl b) = decide (a = b) := by simp [sameT]
@[simp] theorem same_int (a b : Int) : sameT (.int a) (.int b) = decide (a = b) := by simp [sameT]
@[simp] theorem same_str (a b : Str) : sameT (.str a) (.str b) = decide (a = b) := by simp [sameT]
@[simp] theorem same_non (a : T) : sameT a .non = isNon a := by simp [sameT]
@[simp] theorem same_lst (a b : List T) : sameT (.lst a) (.lst b) = sameL a b := by simp [sameT]
@[simp] theorem same_tup (a b : List T) : sameT (.tup a) (.tup b) = sameL a b := by simp [sameT]
@[simp] theorem sameL_nil : sameL [] [] = true := by simp [sameL]
@[simp] theorem sameL_cons (x y : T) (xs ys : List T) : sameL (x :: xs) (y :: ys) = (sameT x y && sameL xs ys) := by simp [sameL]
mutual
theorem sameT_refl : ∀ t : T, plain t = true → sameT t t = true
  | .non, _ => rfl
  | .bl b, _ => by simp [sameT]
  | .int b, _ => by simp [sameT]
  | .str b, _ => by simp [sameT]
  | .lst xs, h => by simp only [plain, Bool.and_eq_true] at h; simp only [sameT]; exact sameL_refl xs h.2
  | .tup xs, h => by simp only [plain, Bool.and_eq_true] at h; simp only [sameT]; exact sameL_refl xs h.2
  | .ty _, h => by simp [plain] at h
  | .ref _, h => by simp [plain] at h
  | .dic _, h => by simp [plain] at h
  | .ins _ _, h => by simp [plain] at h
theorem sameL_refl : ∀ ts : List T, plainL ts = true → sameL ts ts = true
  | [], _ => rfl
  | t :: ts, h => by
    simp only [plainL, Bool.and_eq_true] at h
    simp only [sameL, Bool.and_eq_true]
    exact ⟨sameT_refl t h.1, sameL_refl ts h.2⟩
end
theorem sameL_len : ∀ xs ys : List T, sameL xs ys = true → xs.length = ys.length
  | [], [], _ => rfl
  | x :: xs, y :: ys, h => by
    simp only [sameL, Bool.and_eq_true] at h
    simp [sameL_len xs ys h.2]
  | [], _ :: _, h => by simp [sameL] at h
  | _ :: _, [], h => by simp [sameL] at h
def sameBs : List T → List T → List Bool
  | x :: xs, y :: ys => sameT x y :: sameBs xs ys
  | _, _ => []
theorem sameBs_all : ∀ xs ys : List T, xs.length = ys.length → (sameBs xs ys).all id = sameL xs ys
  | [], [], _ => rfl
  | x :: xs, y :: ys, h => by
    simp only [sameBs, sameL, List.all_cons, id]
    rw [← sameBs_all xs ys (by simpa using h)]
  | [], _ :: _, h => by simp at h
  | _ :: _, [], h => by simp at h
theorem tynP {t : T} (h : plain t = true) : ∃ n, tyn t = some n := by
  cases t with
  | ty n => simp [plain] at h
  | ref n => simp [plain] at h
  | ins n => simp [plain] at h
  | dic n => exact ⟨_, rfl⟩
  | _ => exact ⟨_, rfl⟩
abbrev SameOk (r : F3) (n : Nat) : Prop := ∀ x y Q X, plain x = true → plain y = true → dep y < n → r [x, y] Q X = Q (.bl (sameT x y))
theorem same_comp {r : F3} {n : Nat} (hr : SameOk r n) {a b c d : Sl} {X : X3} {Q : List T → Prop} : ∀ (xs ys : List T) (acc : List T), plainL xs = true → plainL ys = true → depL ys < n → acc.length + xs.length < sizeLine → xs.length = ys.length →
    comp3 (gtup3 2 (gcons3 (name3 2) (gcons3 (name3 3) gnil3))) yes3 (fn30 2 r (cons3 (v3 2) (cons3 (v3 3) nil3)) []) [a, b, c, d] X Q (pairT xs ys) acc = Q (acc ++ (sameBs xs ys).map T.bl)
  | [], [], acc, _, _, _, _, _ => by simp [pairT, sameBs, comp3]
  | x :: xs, y :: ys, acc, h1, h2, h3, h4, h5 => by
    simp only [plainL, Bool.and_eq_true] at h1 h2
    simp only [depL] at h3
    have e1 := hr x y
    have e2 := same_comp hr (a := a) (b := b) (c := c) (d := d) (X := X) (Q := Q) xs ys (acc ++ [.bl (sameT x y)]) h1.2 h2.2 (by omega) (by simp at h4 ⊢; omega) (by simpa using h5)
    have h6 : acc.length < sizeLine := by simp at h4; omega
    simp [pairT, comp3, gtup3, gcons3, gnil3, name3, yes3, fn30, cons3, nil3, v3, slot, e1 _ _ h1.1 h2.1 (by omega), e2, h6, sameBs]
  | [], _ :: _, _, _, _, _, _, h => by simp at h
  | _ :: _, [], _, _, _, _, _, h => by simp at h
theorem same_ok (C : Cs) : ∀ n, SameOk (Lsame C n) n
  | 0 => fun x y Q X _ _ h => by omega
  | n + 1 => by
    intro fo du Q X p1 p2 hd
    have ih := same_ok C n
    rw [Lsame_succ]
    have key : ∀ (xs ys : List T) (a b c d : Sl) (Q' : List T → Prop), plainL xs = true → plainL ys = true → depL ys < n → xs.length < 100000 → xs.length = ys.length →
      comp3 (gtup3 2 (gcons3 (name3 2) (gcons3 (name3 3) gnil3))) yes3 (fn30 2 (Lsame C n) (cons3 (v3 2) (cons3 (v3 3) nil3)) []) [a, b, c, d] X Q' (pairT xs ys) [] = Q' ((sameBs xs ys).map T.bl) := fun xs ys a b c d Q' h1 h2 h3 h4 h5 => by
        rw [same_comp ih xs ys [] h1 h2 h3 (by show 0 + xs.length < 16777216; omega) h5, List.nil_append]
    have neL : ∀ xs ys : List T, xs.length ≠ ys.length → sameL xs ys = false := fun xs ys h => by
      cases z : sameL xs ys with
      | false => rfl
      | true => exact absurd (sameL_len xs ys z) h
    generalize Lsame C n = r at ih key
    cases du with
    | non => simp [LsameB, seq3, next3, ret3, retN3, ifs3, drop3, asg3, name3, tst3, and3, or3, not3, andV3, orV3, notV3, if3, v3, k3, op3, un3, nil3, cons3, call3, tup3, lst3, chain3, fn30, fn3, fnN30, fnN3, fnP30, i2, i2c, i1, isN3, notN3, eqS3, neS3, ixL3, ixT3, len3, all3, any3, abs3, max23, min23, isi3, isB3, truth3, start3, slot, flatT, scal, tyn, M3.isNon, lenT, truT, isiB, Option.bind, take3, kb_non_bool, kb_non_int, kb_non_str, kb_non_list, kb_non_tuple, kb_bool_bool, kb_bool_int, kb_bool_str, kb_bool_list, kb_bool_tuple, kb_int_bool, kb_int_int, kb_int_str, kb_int_list, kb_int_tuple, kb_str_bool, kb_str_int, kb_str_str, kb_str_list, kb_str_tuple, kb_list_bool, kb_list_int, kb_list_str, kb_list_list, kb_list_tuple, kb_tuple_bool, kb_tuple_int, kb_tuple_str, kb_tuple_list, kb_tuple_tuple, addP, mulP, ixP, slP, eqP, neP, isSeq, iterP, itemsP, no3, part3, sl3, raise3, brk3, cont3, M3.ltP, M3.leP, M3.gtP, M3.geP, sameT]
    | bl b => cases fo <;> simp [plain] at p1 <;> simp [LsameB, seq3, next3, ret3, retN3, ifs3, drop3, asg3, name3, tst3, and3, or3, not3, andV3, orV3, notV3, if3, v3, k3, op3, un3, nil3, cons3, call3, tup3, lst3, chain3, fn30, fn3, fnN30, fnN3, fnP30, i2, i2c, i1, isN3, notN3, eqS3, neS3, ixL3, ixT3, len3, all3, any3, abs3, max23, min23, isi3, isB3, truth3, start3, slot, flatT, scal, tyn, M3.isNon, lenT, truT, isiB, Option.bind, take3, kb_non_bool, kb_non_int, kb_non_str, kb_non_list, kb_non_tuple, kb_bool_bool, kb_bool_int, kb_bool_str, kb_bool_list, kb_bool_tuple, kb_int_bool, kb_int_int, kb_int_str, kb_int_list, kb_int_tuple, kb_str_bool, kb_str_int, kb_str_str, kb_str_list, kb_str_tuple, kb_list_bool, kb_list_int, kb_list_str, kb_list_list, kb_list_tuple, kb_tuple_bool, kb_tuple_int, kb_tuple_str, kb_tuple_list, kb_tuple_tuple, addP, mulP, ixP, slP, eqP, neP, isSeq, iterP, itemsP, no3, part3, sl3, raise3, brk3, cont3, M3.ltP, M3.leP, M3.gtP, M3.geP, sameT]
    | int j => cases fo <;> simp [plain] at p1 <;> simp [LsameB, seq3, next3, ret3, retN3, ifs3, drop3, asg3, name3, tst3, and3, or3, not3, andV3, orV3, notV3, if3, v3, k3, op3, un3, nil3, cons3, call3, tup3, lst3, chain3, fn30, fn3, fnN30, fnN3, fnP30, i2, i2c, i1, isN3, notN3, eqS3, neS3, ixL3, ixT3, len3, all3, any3, abs3, max23, min23, isi3, isB3, truth3, start3, slot, flatT, scal, tyn, M3.isNon, lenT, truT, isiB, Option.bind, take3, kb_non_bool, kb_non_int, kb_non_str, kb_non_list, kb_non_tuple, kb_bool_bool, kb_bool_int, kb_bool_str, kb_bool_list, kb_bool_tuple, kb_int_bool, kb_int_int, kb_int_str, kb_int_list, kb_int_tuple, kb_str_bool, kb_str_int, kb_str_str, kb_str_list, kb_str_tuple, kb_list_bool, kb_list_int, kb_list_str, kb_list_list, kb_list_tuple, kb_tuple_bool, kb_tuple_int, kb_tuple_str, kb_tuple_list, kb_tuple_tuple, addP, mulP, ixP, slP, eqP, neP, isSeq, iterP, itemsP, no3, part3, sl3, raise3, brk3, cont3, M3.ltP, M3.leP, M3.gtP, M3.geP, sameT]
    | str y => cases fo <;> simp [plain] at p1 <;> simp [LsameB, seq3, next3, ret3, retN3, ifs3, drop3, asg3, name3, tst3, and3, or3, not3, andV3, orV3, notV3, if3, v3, k3, op3, un3, nil3, cons3, call3, tup3, lst3, chain3, fn30, fn3, fnN30, fnN3, fnP30, i2, i2c, i1, isN3, notN3, eqS3, neS3, ixL3, ixT3, len3, all3, any3, abs3, max23, min23, isi3, isB3, truth3, start3, slot, flatT, scal, tyn, M3.isNon, lenT, truT, isiB, Option.bind, take3, kb_non_bool, kb_non_int, kb_non_str, kb_non_list, kb_non_tuple, kb_bool_bool, kb_bool_int, kb_bool_str, kb_bool_list, kb_bool_tuple, kb_int_bool, kb_int_int, kb_int_str, kb_int_list, kb_int_tuple, kb_str_bool, kb_str_int, kb_str_str, kb_str_list, kb_str_tuple, kb_list_bool, kb_list_int, kb_list_str, kb_list_list, kb_list_tuple, kb_tuple_bool, kb_tuple_int, kb_tuple_str, kb_tuple_list, kb_tuple_tuple, addP, mulP, ixP, slP, eqP, neP, isSeq, iterP, itemsP, no3, part3, sl3, raise3, brk3, cont3, M3.ltP, M3.leP, M3.gtP, M3.geP, sameT]
    | lst ys =>
      simp only [plain, Bool.and_eq_true, decide_eq_true_eq] at p2
      have hd' : depL ys < n := by simp only [dep] at hd; omega
      cases fo with
      | lst xs =>
        simp only [plain, Bool.and_eq_true, decide_eq_true_eq] at p1
        by_cases hl : xs.length = ys.length
        · simp [LsameB, seq3, next3, ret3, retN3, ifs3, drop3, asg3, name3, tst3, and3, or3, not3, andV3, orV3, notV3, if3, v3, k3, op3, un3, nil3, cons3, call3, tup3, lst3, chain3, fn30, fn3, fnN30, fnN3, fnP30, i2, i2c, i1, isN3, notN3, eqS3, neS3, ixL3, ixT3, len3, all3, any3, abs3, max23, min23, isi3, isB3, truth3, start3, slot, flatT, scal, tyn, M3.isNon, lenT, truT, isiB, Option.bind, take3, kb_non_bool, kb_non_int, kb_non_str, kb_non_list, kb_non_tuple, kb_bool_bool, kb_bool_int, kb_bool_str, kb_bool_list, kb_bool_tuple, kb_int_bool, kb_int_int, kb_int_str, kb_int_list, kb_int_tuple, kb_str_bool, kb_str_int, kb_str_str, kb_str_list, kb_str_tuple, kb_list_bool, kb_list_int, kb_list_str, kb_list_list, kb_list_tuple, kb_tuple_bool, kb_tuple_int, kb_tuple_str, kb_tuple_list, kb_tuple_tuple, addP, mulP, ixP, slP, eqP, neP, isSeq, iterP, itemsP, no3, part3, sl3, raise3, brk3, cont3, M3.ltP, M3.leP, M3.gtP, M3.geP, hl, lc3, iterZ3, zipT, noOwn, wipe3, key xs ys _ _ _ _ _ p1.2 p2.2 hd' p1.1 hl, bls_map, sameBs_all xs ys hl]
        · simp [LsameB, seq3, next3, ret3, retN3, ifs3, drop3, asg3, name3, tst3, and3, or3, not3, andV3, orV3, notV3, if3, v3, k3, op3, un3, nil3, cons3, call3, tup3, lst3, chain3, fn30, fn3, fnN30, fnN3, fnP30, i2, i2c, i1, isN3, notN3, eqS3, neS3, ixL3, ixT3, len3, all3, any3, abs3, max23, min23, isi3, isB3, truth3, start3, slot, flatT, scal, tyn, M3.isNon, lenT, truT, isiB, Option.bind, take3, kb_non_bool, kb_non_int, kb_non_str, kb_non_list, kb_non_tuple, kb_bool_bool, kb_bool_int, kb_bool_str, kb_bool_list, kb_bool_tuple, kb_int_bool, kb_int_int, kb_int_str, kb_int_list, kb_int_tuple, kb_str_bool, kb_str_int, kb_str_str, kb_str_list, kb_str_tuple, kb_list_bool, kb_list_int, kb_list_str, kb_list_list, kb_list_tuple, kb_tuple_bool, kb_tuple_int, kb_tuple_str, kb_tuple_list, kb_tuple_tuple, addP, mulP, ixP, slP, eqP, neP, isSeq, iterP, itemsP, no3, part3, sl3, raise3, brk3, cont3, M3.ltP, M3.leP, M3.gtP, M3.geP, sameT, hl, neL xs ys hl, Int.ofNat_inj]
      | _ => simp [plain] at p1 <;> simp [LsameB, seq3, next3, ret3, retN3, ifs3, drop3, asg3, name3, tst3, and3, or3, not3, andV3, orV3, notV3, if3, v3, k3, op3, un3, nil3, cons3, call3, tup3, lst3, chain3, fn30, fn3, fnN30, fnN3, fnP30, i2, i2c, i1, isN3, notN3, eqS3, neS3, ixL3, ixT3, len3, all3, any3, abs3, max23, min23, isi3, isB3, truth3, start3, slot, flatT, scal, tyn, M3.isNon, lenT, truT, isiB, Option.bind, take3, kb_non_bool, kb_non_int, kb_non_str, kb_non_list, kb_non_tuple, kb_bool_bool, kb_bool_int, kb_bool_str, kb_bool_list, kb_bool_tuple, kb_int_bool, kb_int_int, kb_int_str, kb_int_list, kb_int_tuple, kb_str_bool, kb_str_int, kb_str_str, kb_str_list, kb_str_tuple, kb_list_bool, kb_list_int, kb_list_str, kb_list_list, kb_list_tuple, kb_tuple_bool, kb_tuple_int, kb_tuple_str, kb_tuple_list, kb_tuple_tuple, addP, mulP, ixP, slP, eqP, neP, isSeq, iterP, itemsP, no3, part3, sl3, raise3, brk3, cont3, M3.ltP, M3.leP, M3.gtP, M3.geP, sameT]
    | tup ys =>
      simp only [plain, Bool.and_eq_true, decide_eq_true_eq] at p2
      have hd' : depL ys < n := by simp only [dep] at hd; omega
      cases fo with
      | tup xs =>
        simp only [plain, Bool.and_eq_true, decide_eq_true_eq] at p1
        by_cases hl : xs.length = ys.length
        · simp [LsameB, seq3, next3, ret3, retN3, ifs3, drop3, asg3, name3, tst3, and3, or3, not3, andV3, orV3, notV3, if3, v3, k3, op3, un3, nil3, cons3, call3, tup3, lst3, chain3, fn30, fn3, fnN30, fnN3, fnP30, i2, i2c, i1, isN3, notN3, eqS3, neS3, ixL3, ixT3, len3, all3, any3, abs3, max23, min23, isi3, isB3, truth3, start3, slot, flatT, scal, tyn, M3.isNon, lenT, truT, isiB, Option.bind, take3, kb_non_bool, kb_non_int, kb_non_str, kb_non_list, kb_non_tuple, kb_bool_bool, kb_bool_int, kb_bool_str, kb_bool_list, kb_bool_tuple, kb_int_bool, kb_int_int, kb_int_str, kb_int_list, kb_int_tuple, kb_str_bool, kb_str_int, kb_str_str, kb_str_list, kb_str_tuple, kb_list_bool, kb_list_int, kb_list_str, kb_list_list, kb_list_tuple, kb_tuple_bool, kb_tuple_int, kb_tuple_str, kb_tuple_list, kb_tuple_tuple, addP, mulP, ixP, slP, eqP, neP, isSeq, iterP, itemsP, no3, part3, sl3, raise3, brk3, cont3, M3.ltP, M3.leP, M3.gtP, M3.geP, hl, lc3, iterZ3, zipT, noOwn, wipe3, key xs ys _ _ _ _ _ p1.2 p2.2 hd' p1.1 hl, bls_map, sameBs_all xs ys hl]
        · simp [LsameB, seq3, next3, ret3, retN3, ifs3, drop3, asg3, name3, tst3, and3, or3, not3, andV3, orV3, notV3, if3, v3, k3, op3, un3, nil3, cons3, call3, tup3, lst3, chain3, fn30, fn3, fnN30, fnN3, fnP30, i2, i2c, i1, isN3, notN3, eqS3, neS3, ixL3, ixT3, len3, all3, any3, abs3, max23, min23, isi3, isB3, truth3, start3, slot, flatT, scal, tyn, M3.isNon, lenT, truT, isiB, Option.bind, take3, kb_non_bool, kb_non_int, kb_non_str, kb_non_list, kb_non_tuple, kb_bool_bool, kb_bool_int, kb_bool_str, kb_bool_list, kb_bool_tuple, kb_int_bool, kb_int_int, kb_int_str, kb_int_list, kb_int_tuple, kb_str_bool, kb_str_int, kb_str_str, kb_str_list, kb_str_tuple, kb_list_bool, kb_list_int, kb_list_str, kb_list_list, kb_list_tuple, kb_tuple_bool, kb_tuple_int, kb_tuple_str, kb_tuple_list, kb_tuple_tuple, addP, mulP, ixP, slP, eqP, neP, isSeq, iterP, itemsP, no3, part3, sl3, raise3, brk3, cont3, M3.ltP, M3.leP, M3.gtP, M3.geP, sameT, hl, neL xs ys hl, Int.ofNat_inj]
      | _ => simp [plain] at p1 <;> simp [LsameB, seq3, next3, ret3, retN3, ifs3, drop3, asg3, name3, tst3, and3, or3, not3, andV3, orV3, notV3, if3, v3, k3, op3, un3, nil3, cons3, call3, tup3, lst3, chain3, fn30, fn3, fnN30, fnN3, fnP30, i2, i2c, i1, isN3, notN3, eqS3, neS3, ixL3, ixT3, len3, all3, any3, abs3, max23, min23, isi3, isB3, truth3, start3, slot, flatT, scal, tyn, M3.isNon, lenT, truT, isiB, Option.bind, take3, kb_non_bool, kb_non_int, kb_non_str, kb_non_list, kb_non_tuple, kb_bool_bool, kb_bool_int, kb_bool_str, kb_bool_list, kb_bool_tuple, kb_int_bool, kb_int_int, kb_int_str, kb_int_list, kb_int_tuple, kb_str_bool, kb_str_int, kb_str_str, kb_str_list, kb_str_tuple, kb_list_bool, kb_list_int, kb_list_str, kb_list_list, kb_list_tuple, kb_tuple_bool, kb_tuple_int, kb_tuple_str, kb_tuple_list, kb_tuple_tuple, addP, mulP, ixP, slP, eqP, neP, isSeq, iterP, itemsP, no3, part3, sl3, raise3, brk3, cont3, M3.ltP, M3.leP, M3.gtP, M3.geP, sameT]
    | _ => simp [plain] at p2
/-! ### the law's own cells -/
abbrev MOSTi : Int := 999999999999999999999999999999
def isCellTree (t : T) : Prop := t = .non ∨ ∃ i : Int, t = .int i ∧ -MOSTi ≤ i ∧ i ≤ MOSTi
theorem cell_of (C : Cs) {p : Addr} {Q : T → Prop} {X : X3} (q : ∀ t, isCellTree t → Q t) : Lcell C [.ref p] Q X := by
  rw [Lcell_def]
  show LcellB C p { nx := fun _ => Q .non, rt := Q, xn := fun _ => X } (start3 3 [.ref p])
  unfold LcellB
  have qi : ∀ i : Int, -MOSTi ≤ i → i ≤ MOSTi → Q (.int i) := fun i a b => q _ (.inr ⟨i, rfl, a, b⟩)
  have qn : Q .non := q _ (.inl rfl)
  refine seq_by (fun σ' => ∃ r : Int, 0 ≤ r ∧ r < 16 ∧ σ' = [Sl.val (.ref p), Sl.val (.int r), Sl.no]) (fun nx hn => ?_) ?_
  · refine ⟨rfl, rfl, by decide, by decide, fun r h0 h1 => hn _ ⟨r, h0, h1, rfl⟩⟩
  rintro σ' ⟨r, h0, h1, rfl⟩
  refine seq_by (fun σ' => σ' = [Sl.val (.ref p), Sl.val (.int r), Sl.no]) (fun nx hn => ?_) ?_
  · have e := hn _ rfl
    by_cases a : r < 2
    · simpa [seq3, next3, ret3, retN3, ifs3, drop3, asg3, name3, tst3, and3, or3, not3, andV3, orV3, notV3, if3, v3, k3, op3, un3, nil3, cons3, call3, tup3, lst3, chain3, fn30, fn3, fnN30, fnN3, fnP30, i2, i2c, i1, isN3, notN3, eqS3, neS3, ixL3, ixT3, len3, all3, any3, abs3, max23, min23, isi3, isB3, truth3, start3, slot, flatT, scal, tyn, M3.isNon, lenT, truT, isiB, Option.bind, take3, kb_non_bool, kb_non_int, kb_non_str, kb_non_list, kb_non_tuple, kb_bool_bool, kb_bool_int, kb_bool_str, kb_bool_list, kb_bool_tuple, kb_int_bool, kb_int_int, kb_int_str, kb_int_list, kb_int_tuple, kb_str_bool, kb_str_int, kb_str_str, kb_str_list, kb_str_tuple, kb_list_bool, kb_list_int, kb_list_str, kb_list_list, kb_list_tuple, kb_tuple_bool, kb_tuple_int, kb_tuple_str, kb_tuple_list, kb_tuple_tuple, addP, mulP, ixP, slP, eqP, neP, isSeq, iterP, itemsP, no3, part3, sl3, raise3, brk3, cont3, M3.ltP, M3.leP, M3.gtP, M3.geP, a] using qn
    · simpa [seq3, next3, ret3, retN3, ifs3, drop3, asg3, name3, tst3, and3, or3, not3, andV3, orV3, notV3, if3, v3, k3, op3, un3, nil3, cons3, call3, tup3, lst3, chain3, fn30, fn3, fnN30, fnN3, fnP30, i2, i2c, i1, isN3, notN3, eqS3, neS3, ixL3, ixT3, len3, all3, any3, abs3, max23, min23, isi3, isB3, truth3, start3, slot, flatT, scal, tyn, M3.isNon, lenT, truT, isiB, Option.bind, take3, kb_non_bool, kb_non_int, kb_non_str, kb_non_list, kb_non_tuple, kb_bool_bool, kb_bool_int, kb_bool_str, kb_bool_list, kb_bool_tuple, kb_int_bool, kb_int_int, kb_int_str, kb_int_list, kb_int_tuple, kb_str_bool, kb_str_int, kb_str_str, kb_str_list, kb_str_tuple, kb_list_bool, kb_list_int, kb_list_str, kb_list_list, kb_list_tuple, kb_tuple_bool, kb_tuple_int, kb_tuple_str, kb_tuple_list, kb_tuple_tuple, addP, mulP, ixP, slP, eqP, neP, isSeq, iterP, itemsP, no3, part3, sl3, raise3, brk3, cont3, M3.ltP, M3.leP, M3.gtP, M3.geP, a] using e
  rintro σ' rfl
  refine seq_by (fun σ' => σ' = [Sl.val (.ref p), Sl.val (.int r), Sl.no]) (fun nx hn => ?_) ?_
  · have e := hn _ rfl
    by_cases a : r < 15
    · by_cases a3 : r < 13
      · simp [seq3, next3, ret3, retN3, ifs3, drop3, asg3, name3, tst3, and3, or3, not3, andV3, orV3, notV3, if3, v3, k3, op3, un3, nil3, cons3, call3, tup3, lst3, chain3, fn30, fn3, fnN30, fnN3, fnP30, i2, i2c, i1, isN3, notN3, eqS3, neS3, ixL3, ixT3, len3, all3, any3, abs3, max23, min23, isi3, isB3, truth3, start3, slot, flatT, scal, tyn, M3.isNon, lenT, truT, isiB, Option.bind, take3, kb_non_bool, kb_non_int, kb_non_str, kb_non_list, kb_non_tuple, kb_bool_bool, kb_bool_int, kb_bool_str, kb_bool_list, kb_bool_tuple, kb_int_bool, kb_int_int, kb_int_str, kb_int_list, kb_int_tuple, kb_str_bool, kb_str_int, kb_str_str, kb_str_list, kb_str_tuple, kb_list_bool, kb_list_int, kb_list_str, kb_list_list, kb_list_tuple, kb_tuple_bool, kb_tuple_int, kb_tuple_str, kb_tuple_list, kb_tuple_tuple, addP, mulP, ixP, slP, eqP, neP, isSeq, iterP, itemsP, no3, part3, sl3, raise3, brk3, cont3, M3.ltP, M3.leP, M3.gtP, M3.geP, a, a3]
        intro z z0 z1
        exact qi _ (by simp only [MOSTi]; omega) (by simp only [MOSTi]; omega)
      · simp [seq3, next3, ret3, retN3, ifs3, drop3, asg3, name3, tst3, and3, or3, not3, andV3, orV3, notV3, if3, v3, k3, op3, un3, nil3, cons3, call3, tup3, lst3, chain3, fn30, fn3, fnN30, fnN3, fnP30, i2, i2c, i1, isN3, notN3, eqS3, neS3, ixL3, ixT3, len3, all3, any3, abs3, max23, min23, isi3, isB3, truth3, start3, slot, flatT, scal, tyn, M3.isNon, lenT, truT, isiB, Option.bind, take3, kb_non_bool, kb_non_int, kb_non_str, kb_non_list, kb_non_tuple, kb_bool_bool, kb_bool_int, kb_bool_str, kb_bool_list, kb_bool_tuple, kb_int_bool, kb_int_int, kb_int_str, kb_int_list, kb_int_tuple, kb_str_bool, kb_str_int, kb_str_str, kb_str_list, kb_str_tuple, kb_list_bool, kb_list_int, kb_list_str, kb_list_list, kb_list_tuple, kb_tuple_bool, kb_tuple_int, kb_tuple_str, kb_tuple_list, kb_tuple_tuple, addP, mulP, ixP, slP, eqP, neP, isSeq, iterP, itemsP, no3, part3, sl3, raise3, brk3, cont3, M3.ltP, M3.leP, M3.gtP, M3.geP, a, a3]
        intro z z0 z1
        exact qi _ (by simp only [MOSTi]; omega) (by simp only [MOSTi]; omega)
    · simpa [seq3, next3, ret3, retN3, ifs3, drop3, asg3, name3, tst3, and3, or3, not3, andV3, orV3, notV3, if3, v3, k3, op3, un3, nil3, cons3, call3, tup3, lst3, chain3, fn30, fn3, fnN30, fnN3, fnP30, i2, i2c, i1, isN3, notN3, eqS3, neS3, ixL3, ixT3, len3, all3, any3, abs3, max23, min23, isi3, isB3, truth3, start3, slot, flatT, scal, tyn, M3.isNon, lenT, truT, isiB, Option.bind, take3, kb_non_bool, kb_non_int, kb_non_str, kb_non_list, kb_non_tuple, kb_bool_bool, kb_bool_int, kb_bool_str, kb_bool_list, kb_bool_tuple, kb_int_bool, kb_int_int, kb_int_str, kb_int_list, kb_int_tuple, kb_str_bool, kb_str_int, kb_str_str, kb_str_list, kb_str_tuple, kb_list_bool, kb_list_int, kb_list_str, kb_list_list, kb_list_tuple, kb_tuple_bool, kb_tuple_int, kb_tuple_str, kb_tuple_list, kb_tuple_tuple, addP, mulP, ixP, slP, eqP, neP, isSeq, iterP, itemsP, no3, part3, sl3, raise3, brk3, cont3, M3.ltP, M3.leP, M3.gtP, M3.geP, a] using e
  rintro σ' rfl
  refine seq_by (fun σ' => σ' = [Sl.val (.ref p), Sl.val (.int r), Sl.val (.int MOSTi)]) (fun nx hn => ?_) ?_
  · have e := hn _ rfl
    simpa [seq3, next3, ret3, retN3, ifs3, drop3, asg3, name3, tst3, and3, or3, not3, andV3, orV3, notV3, if3, v3, k3, op3, un3, nil3, cons3, call3, tup3, lst3, chain3, fn30, fn3, fnN30, fnN3, fnP30, i2, i2c, i1, isN3, notN3, eqS3, neS3, ixL3, ixT3, len3, all3, any3, abs3, max23, min23, isi3, isB3, truth3, start3, slot, flatT, scal, tyn, M3.isNon, lenT, truT, isiB, Option.bind, take3, kb_non_bool, kb_non_int, kb_non_str, kb_non_list, kb_non_tuple, kb_bool_bool, kb_bool_int, kb_bool_str, kb_bool_list, kb_bool_tuple, kb_int_bool, kb_int_int, kb_int_str, kb_int_list, kb_int_tuple, kb_str_bool, kb_str_int, kb_str_str, kb_str_list, kb_str_tuple, kb_list_bool, kb_list_int, kb_list_str, kb_list_list, kb_list_tuple, kb_tuple_bool, kb_tuple_int, kb_tuple_str, kb_tuple_list, kb_tuple_tuple, addP, mulP, ixP, slP, eqP, neP, isSeq, iterP, itemsP, no3, part3, sl3, raise3, brk3, cont3, M3.ltP, M3.leP, M3.gtP, M3.geP, CPow, MOSTi] using e
  rintro σ' rfl
  simp [seq3, next3, ret3, retN3, ifs3, drop3, asg3, name3, tst3, and3, or3, not3, andV3, orV3, notV3, if3, v3, k3, op3, un3, nil3, cons3, call3, tup3, lst3, chain3, fn30, fn3, fnN30, fnN3, fnP30, i2, i2c, i1, isN3, notN3, eqS3, neS3, ixL3, ixT3, len3, all3, any3, abs3, max23, min23, isi3, isB3, truth3, start3, slot, flatT, scal, tyn, M3.isNon, lenT, truT, isiB, Option.bind, take3, kb_non_bool, kb_non_int, kb_non_str, kb_non_list, kb_non_tuple, kb_bool_bool, kb_bool_int, kb_bool_str, kb_bool_list, kb_bool_tuple, kb_int_bool, kb_int_int, kb_int_str, kb_int_list, kb_int_tuple, kb_str_bool, kb_str_int, kb_str_str, kb_str_list, kb_str_tuple, kb_list_bool, kb_list_int, kb_list_str, kb_list_list, kb_list_tuple, kb_tuple_bool, kb_tuple_int, kb_tuple_str, kb_tuple_list, kb_tuple_tuple, addP, mulP, ixP, slP, eqP, neP, isSeq, iterP, itemsP, no3, part3, sl3, raise3, brk3, cont3, M3.ltP, M3.leP, M3.gtP, M3.geP, CPow]
  intro z z0 z1
  refine ⟨by decide, by decide, fun y y0 y1 => ⟨by decide, draw_all rfl ?_⟩⟩
  intro t ht
  simp at ht
  simp only [MOSTi] at y1
  rcases ht with rfl | rfl | rfl | rfl
  all_goals exact qi _ (by simp only [MOSTi]; omega) (by simp only [MOSTi]; omega)
/-! ### good trees: tuples that are short, texts of signs that are short -/
def texts (xs : List Str) : List T := xs.map T.str
mutual
def gd (m : Nat) : T → Bool
  | .non => true
  | .bl _ => true
  | .int _ => true
  | .str x => PyData.strOk x && decide (x.length ≤ 1000)
  | .tup xs => decide (xs.length ≤ m) && gdL m xs
  | _ => false
def gdL (m : Nat) : List T → Bool
  | [] => true
  | x :: xs => gd m x && gdL m xs
end
@[simp] theorem gd_non {m : Nat} : gd m .non = true := by simp [gd]
@[simp] theorem gd_bl {m : Nat} (b : Bool) : gd m (.bl b) = true := by simp [gd]
@[simp] theorem gd_int {m : Nat} (b : Int) : gd m (.int b) = true := by simp [gd]
theorem gd_str {m : Nat} (x : Str) : gd m (.str x) = (PyData.strOk x && decide (x.length ≤ 1000)) := by simp [gd]
theorem gd_tup {m : Nat} (xs : List T) : gd m (.tup xs) = (decide (xs.length ≤ m) && gdL m xs) := by simp [gd]
@[simp] theorem gdL_nil {m : Nat} : gdL m [] = true := by simp [gdL]
@[simp] theorem gdL_cons {m : Nat} (x : T) (xs : List T) : gdL m (x :: xs) = (gd m x && gdL m xs) := by simp [gdL]
theorem gdL_mem {m : Nat} : ∀ {xs : List T}, gdL m xs = true → ∀ x ∈ xs, gd m x = true
  | [], _, x, hx => by cases hx
  | y :: ys, h, x, hx => by
    simp only [gdL_cons, Bool.and_eq_true] at h
    rcases List.mem_cons.mp hx with e | e
    · exact e ▸ h.1
    · exact gdL_mem h.2 x e
theorem gdL_of {m : Nat} : ∀ {xs : List T}, (∀ x ∈ xs, gd m x = true) → gdL m xs = true
  | [], _ => by simp
  | y :: ys, h => by
    simp only [gdL_cons, Bool.and_eq_true]
    exact ⟨h y (List.mem_cons_self ..), gdL_of fun x hx => h x (List.mem_cons_of_mem _ hx)⟩
mutual
theorem gd_mono {m n : Nat} (l : m ≤ n) : ∀ t : T, gd m t = true → gd n t = true
  | .non, _ => by simp
  | .bl _, _ => by simp
  | .int _, _ => by simp
  | .str x, h => by rw [gd_str] at h ⊢; exact h
  | .tup xs, h => by
    rw [gd_tup] at h ⊢
    simp only [Bool.and_eq_true, decide_eq_true_eq] at h ⊢
    exact ⟨Nat.le_trans h.1 l, gdL_mono l xs h.2⟩
  | .lst _, h => by simp [gd] at h
  | .ty _, h => by simp [gd] at h
  | .ref _, h => by simp [gd] at h
  | .dic _, h => by simp [gd] at h
  | .ins _ _, h => by simp [gd] at h
theorem gdL_mono {m n : Nat} (l : m ≤ n) : ∀ ts : List T, gdL m ts = true → gdL n ts = true
  | [], _ => by simp
  | t :: ts, h => by
    simp only [gdL_cons, Bool.and_eq_true] at h ⊢
    exact ⟨gd_mono l t h.1, gdL_mono l ts h.2⟩
end
theorem depL_mem : ∀ {xs : List T} {x : T}, x ∈ xs → dep x ≤ depL xs
  | y :: ys, x, h => by
    rw [depL_cons]
    rcases List.mem_cons.mp h with e | e
    · subst e; exact Nat.le_max_left _ _
    · exact Nat.le_trans (depL_mem e) (Nat.le_max_right _ _)
theorem depL_of {k : Nat} : ∀ {xs : List T}, (∀ x ∈ xs, dep x ≤ k) → depL xs ≤ k
  | [], _ => by simp
  | y :: ys, h => by
    rw [depL_cons]
    exact Nat.max_le.mpr ⟨h y (List.mem_cons_self ..), depL_of fun x hx => h x (List.mem_cons_of_mem _ hx)⟩
mutual
theorem dat_gd {m : Nat} : ∀ t : T, gd m t = true → ∃ d, dat t = some d ∧ d.canLay0 = true ∧ d.depth = dep t
  | .non, _ => ⟨.none, rfl, by simp [PyData.canLay0], by simp [PyData.depth]⟩
  | .bl b, _ => ⟨.bool b, rfl, by simp [PyData.canLay0], by simp [PyData.depth]⟩
  | .int b, _ => ⟨.int b, rfl, by simp [PyData.canLay0], by simp [PyData.depth]⟩
  | .str x, h => by
    rw [gd_str] at h
    simp only [Bool.and_eq_true] at h
    exact ⟨.str x, rfl, by simpa [PyData.canLay0] using h.1, by simp [PyData.depth]⟩
  | .tup xs, h => by
    rw [gd_tup] at h
    simp only [Bool.and_eq_true] at h
    obtain ⟨ds, e1, e2, e3⟩ := dats_gd xs h.2
    exact ⟨.tuple ds, by show (dats xs).map PyData.tuple = _; rw [e1]; rfl, by simpa [PyData.canLay0] using e2, by simp [PyData.depth, e3]⟩
  | .lst _, h => by simp [gd] at h
  | .ty _, h => by simp [gd] at h
  | .ref _, h => by simp [gd] at h
  | .dic _, h => by simp [gd] at h
  | .ins _ _, h => by simp [gd] at h
theorem dats_gd {m : Nat} : ∀ ts : List T, gdL m ts = true → ∃ ds, dats ts = some ds ∧ PyData.canLayAll0 ds = true ∧ PyData.depthAll ds = depL ts
  | [], _ => ⟨[], rfl, by simp [PyData.canLayAll0], by simp [PyData.depthAll]⟩
  | t :: ts, h => by
    simp only [gdL_cons, Bool.and_eq_true] at h
    obtain ⟨d, e1, e2, e3⟩ := dat_gd t h.1
    obtain ⟨ds, e4, e5, e6⟩ := dats_gd ts h.2
    exact ⟨d :: ds, by simp [dats, e1, e4], by simp [PyData.canLayAll0, e2, e5], by simp [PyData.depthAll, e3, e6]⟩
end
theorem shaped_nil : SeqAt.shaped (.tuple []) = true := by decide +kernel
theorem shaped_nilL : SeqAt.shaped (.list []) = true := by decide +kernel
theorem eq_nil {m : Nat} {xs : List T} (h : gdL m xs = true) (hd : depL xs < 64) (Q : T → Prop) : eqP (.tup xs) (.tup []) Q = Q (.bl xs.isEmpty) := by
  obtain ⟨ds, e1, e2, e3⟩ := dats_gd xs h
  have d1 : dat (.tup xs) = some (.tuple ds) := by show (dats xs).map PyData.tuple = _; rw [e1]; rfl
  have d2 : dat (.tup []) = some (.tuple []) := rfl
  have s1 : SeqAt.shaped (.tuple ds) = true := by
    unfold SeqAt.shaped
    have z1 : (PyData.tuple ds).canLay0 = true := by simpa [PyData.canLay0] using e2
    have z2 : (PyData.tuple ds).depth ≤ 64 := by simp [PyData.depth, e3]; omega
    simp [z1, z2]
  have e : eqP (.tup xs) (.tup []) Q = eqD3 (.tup xs) (.tup []) Q := by simp [eqP, isSeq]
  rw [e]
  unfold eqD3
  rw [d1, d2]
  show (SeqAt.shaped _ = true ∧ SeqAt.shaped (.tuple []) = true ∧ Q (.bl (PyData.eqv (.tuple ds) (.tuple [])))) = _
  simp only [s1, shaped_nil, true_and]
  cases xs with
  | nil => cases e1; rfl
  | cons x xs =>
    cases ds with
    | nil => exact absurd e1 (by simp only [dats]; intro z; obtain ⟨a, _, z⟩ := Option.bind_eq_some_iff.mp z; obtain ⟨b, _, z⟩ := Option.map_eq_some_iff.mp z; cases z)
    | cons d ds => rfl
theorem ne_nil {m : Nat} {xs : List T} (h : gdL m xs = true) (hd : depL xs < 64) (Q : T → Prop) : neP (.tup xs) (.tup []) Q = Q (.bl !xs.isEmpty) := by
  obtain ⟨ds, e1, e2, e3⟩ := dats_gd xs h
  have d1 : dat (.tup xs) = some (.tuple ds) := by show (dats xs).map PyData.tuple = _; rw [e1]; rfl
  have d2 : dat (.tup []) = some (.tuple []) := rfl
  have s1 : SeqAt.shaped (.tuple ds) = true := by
    unfold SeqAt.shaped
    have z1 : (PyData.tuple ds).canLay0 = true := by simpa [PyData.canLay0] using e2
    have z2 : (PyData.tuple ds).depth ≤ 64 := by simp [PyData.depth, e3]; omega
    simp [z1, z2]
  have e : neP (.tup xs) (.tup []) Q = neD3 (.tup xs) (.tup []) Q := by simp [neP, isSeq]
  rw [e]
  unfold neD3
  rw [d1, d2]
  show (SeqAt.shaped _ = true ∧ SeqAt.shaped (.tuple []) = true ∧ Q (.bl (!PyData.eqv (.tuple ds) (.tuple [])))) = _
  simp only [s1, shaped_nil, true_and]
  cases xs with
  | nil => cases e1; rfl
  | cons x xs =>
    cases ds with
    | nil => exact absurd e1 (by simp only [dats]; intro z; obtain ⟨a, _, z⟩ := Option.bind_eq_some_iff.mp z; obtain ⟨b, _, z⟩ := Option.map_eq_some_iff.mp z; cases z)
    | cons d ds => rfl
/-- a list of things and the list [] -/
theorem ne_nilL {m : Nat} {xs : List T} (h : gdL m xs = true) (hd : depL xs < 64) (Q : T → Prop) : neP (.lst xs) (.lst []) Q = Q (.bl !xs.isEmpty) := by
  obtain ⟨ds, e1, e2, e3⟩ := dats_gd xs h
  have d1 : dat (.lst xs) = some (.list ds) := by show (dats xs).map PyData.list = _; rw [e1]; rfl
  have d2 : dat (.lst []) = some (.list []) := rfl
  have s1 : SeqAt.shaped (.list ds) = true := by
    unfold SeqAt.shaped
    have z1 : (PyData.list ds).canLay0 = true := by simpa [PyData.canLay0] using e2
    have z2 : (PyData.list ds).depth ≤ 64 := by simp [PyData.depth, e3]; omega
    simp [z1, z2]
  have e : neP (.lst xs) (.lst []) Q = neD3 (.lst xs) (.lst []) Q := by simp [neP, isSeq]
  rw [e]
  unfold neD3
  rw [d1, d2]
  show (SeqAt.shaped _ = true ∧ SeqAt.shaped (.list []) = true ∧ Q (.bl (!PyData.eqv (.list ds) (.list [])))) = _
  simp only [s1, shaped_nilL, true_and]
  cases xs with
  | nil => cases e1; rfl
  | cons x xs =>
    cases ds with
    | nil => exact absurd e1 (by simp only [dats]; intro z; obtain ⟨a, _, z⟩ := Option.bind_eq_some_iff.mp z; obtain ⟨b, _, z⟩ := Option.map_eq_some_iff.mp z; cases z)
    | cons d ds => rfl
theorem eq_nilL {m : Nat} {xs : List T} (h : gdL m xs = true) (hd : depL xs < 64) (Q : T → Prop) : eqP (.lst xs) (.lst []) Q = Q (.bl xs.isEmpty) := by
  obtain ⟨ds, e1, e2, e3⟩ := dats_gd xs h
  have d1 : dat (.lst xs) = some (.list ds) := by show (dats xs).map PyData.list = _; rw [e1]; rfl
  have d2 : dat (.lst []) = some (.list []) := rfl
  have s1 : SeqAt.shaped (.list ds) = true := by
    unfold SeqAt.shaped
    have z1 : (PyData.list ds).canLay0 = true := by simpa [PyData.canLay0] using e2
    have z2 : (PyData.list ds).depth ≤ 64 := by simp [PyData.depth, e3]; omega
    simp [z1, z2]
  have e : eqP (.lst xs) (.lst []) Q = eqD3 (.lst xs) (.lst []) Q := by simp [eqP, isSeq]
  rw [e]
  unfold eqD3
  rw [d1, d2]
  show (SeqAt.shaped _ = true ∧ SeqAt.shaped (.list []) = true ∧ Q (.bl (PyData.eqv (.list ds) (.list [])))) = _
  simp only [s1, shaped_nilL, true_and]
  cases xs with
  | nil => cases e1; rfl
  | cons x xs =>
    cases ds with
    | nil => exact absurd e1 (by simp only [dats]; intro z; obtain ⟨a, _, z⟩ := Option.bind_eq_some_iff.mp z; obtain ⟨b, _, z⟩ := Option.map_eq_some_iff.mp z; cases z)
    | cons d ds => rfl
/-- x in a tuple of texts -/
theorem in_texts {neg : Bool} (x : Str) (cs : List Str) (Q : T → Prop) : inP neg (.str x) (.tup (texts cs)) Q = Q (.bl (if neg then !decide (x ∈ cs) else decide (x ∈ cs))) := by
  have hf : ∀ cs : List Str, flats (texts cs) = some (cs.map V.str) := by
    intro cs
    induction cs with
    | nil => rfl
    | cons c cs ih =>
      show (flats (texts cs)).map (V.str c :: ·) = _
      rw [ih]
      rfl
  have hi : ∀ cs : List Str, inV (.str x) (cs.map V.str) = decide (x ∈ cs) := by
    intro cs
    induction cs with
    | nil => rfl
    | cons c cs ih =>
      show (c == x || inV (.str x) (cs.map V.str)) = _
      rw [ih]
      by_cases e : x = c
      · subst e; simp
      · have z : (c == x) = false := beq_eq_false_iff_ne.mpr fun y => e y.symm
        rw [z]
        simp [e]
  show ob (flats (texts cs)) _ = _
  rw [hf]
  show Q (.bl (if neg then !inV (.str x) (cs.map V.str) else inV (.str x) (cs.map V.str))) = _
  rw [hi]
/-! ### draws of texts -/
/-- a comprehension by what each item is -/
theorem comp_all {i : Nat} {te : E3} {σ : List Sl} {X : X3} {Q : List T → Prop} (P : T → Prop) : ∀ (ds acc : List T), acc.length + ds.length ≤ 100000 → (∀ d ∈ ds, ∀ Q' : T → Prop, (∀ y, P y → Q' y) → te (σ.set i (.val d)) Q' X) →
    (∀ ys : List T, ys.length = ds.length → (∀ y ∈ ys, P y) → Q (acc ++ ys)) → comp3 (name3 i) yes3 te σ X Q ds acc
  | [], acc, _, _, h => by
    have := h [] rfl (by simp)
    simpa [comp3] using this
  | d :: ds, acc, hl, hd, h => by
    have e3 : acc.length < sizeLine := by
      have : sizeLine = 16777216 := by decide
      simp at hl; omega
    refine hd d (List.mem_cons_self ..) _ (fun y hy => ⟨e3, ?_⟩)
    refine comp_all P ds (acc ++ [y]) (by simp at hl ⊢; omega) (fun x hx => hd x (List.mem_cons_of_mem _ hx)) (fun ys h1 h2 => ?_)
    have := h (y :: ys) (by simp [h1]) (by
      intro z hz
      rcases List.mem_cons.mp hz with e | e
      · exact e ▸ hy
      · exact h2 z e)
    simpa using this
/-- texts, at most m, short each -/
def tx (m : Nat) (xs : List Str) : Prop := xs.length ≤ m ∧ ∀ x ∈ xs, x.length ≤ 1000
theorem tx.mono {m n : Nat} {xs : List Str} (h : tx m xs) (l : m ≤ n) : tx n xs := ⟨Nat.le_trans h.1 l, h.2⟩
theorem tx.append {m n : Nat} {xs ys : List Str} (h : tx m xs) (h' : tx n ys) : tx (m + n) (xs ++ ys) := ⟨by simp only [List.length_append]; exact Nat.add_le_add h.1 h'.1, fun x hx => (List.mem_append.mp hx).elim (h.2 x) (h'.2 x)⟩
theorem tx_nil {m : Nat} : tx m [] := ⟨Nat.zero_le _, by simp⟩
theorem tx_one {x : Str} (h : x.length ≤ 1000) : tx 1 [x] := ⟨Nat.le_refl _, by simpa using h⟩
theorem texts_append (xs ys : List Str) : texts xs ++ texts ys = texts (xs ++ ys) := by simp [texts]
theorem texts_one (x : Str) : [T.str x] = texts [x] := rfl
theorem texts_nil : ([] : List T) = texts [] := rfl
theorem cut_map {α β : Type} (f : α → β) (xs : List α) (lo hi : Option Int) : cut (xs.map f) lo hi = (cut xs lo hi).map f := by
  simp [cut, List.map_take, List.map_drop]
theorem cut_texts (xs : List Str) (lo hi : Option Int) : cut (texts xs) lo hi = texts (cut xs lo hi) := cut_map _ _ _ _
theorem mem_cut {α : Type} {xs : List α} {lo hi : Option Int} {x : α} (h : x ∈ cut xs lo hi) : x ∈ xs := List.mem_of_mem_drop (List.mem_of_mem_take h)
theorem cut_le {α : Type} {xs : List α} {lo hi : Option Int} : (cut xs lo hi).length ≤ xs.length := by
  unfold cut
  simp only [List.length_take, List.length_drop]
  omega
theorem tx.cut {m : Nat} {xs : List Str} (h : tx m xs) (lo hi : Option Int) : tx m (M3.cut xs lo hi) := ⟨Nat.le_trans cut_le h.1, fun x hx => h.2 x (mem_cut hx)⟩
theorem cut_first {α : Type} {xs : List α} {k : Nat} : (cut xs none (some (k : Int))).length ≤ k := by
  unfold cut
  rw [HT.sIx_nat]
  simp only [List.length_take, List.length_drop]
  omega
theorem tx.cutN {m : Nat} {xs : List Str} (h : tx m xs) (k : Nat) : tx k (M3.cut xs none (some (k : Int))) := ⟨cut_first, (h.cut _ _).2⟩
theorem texts_of {P : Str → Prop} : ∀ {ys : List T}, (∀ y ∈ ys, ∃ z : Str, y = .str z ∧ P z) → ∃ xs : List Str, ys = texts xs ∧ ∀ x ∈ xs, P x
  | [], _ => ⟨[], rfl, by simp⟩
  | y :: ys, h => by
    obtain ⟨z, rfl, hz⟩ := h _ (List.mem_cons_self ..)
    obtain ⟨xs, rfl, hx⟩ := texts_of (ys := ys) fun y hy => h y (List.mem_cons_of_mem _ hy)
    exact ⟨z :: xs, rfl, fun x hx' => by
      rcases List.mem_cons.mp hx' with e | e
      · exact e ▸ hz
      · exact hx x e⟩
/-- a text of signs -/
abbrev sg (x : Str) : Prop := PyData.strOk x = true
theorem sg_iff {x : Str} : sg x ↔ ∀ c ∈ x.cps.toList, c < 0x110000 := by
  unfold sg PyData.strOk
  rw [← Array.all_toList, List.all_eq_true]
  exact ⟨fun h c hc => of_decide_eq_true (h c hc), fun h c hc => decide_eq_true (h c hc)⟩
theorem sg_cut {x : Str} (h : sg x) (lo hi : Option Int) : sg (cutS x lo hi) := by
  rw [sg_iff] at h ⊢
  intro c hc
  have e : (cutS x lo hi).cps.toList = cut x.cps.toList lo hi := by
    show ((((x.cps.toList.drop (HT.sIx x.length 0 lo)).take (HT.sIx x.length x.length hi - HT.sIx x.length 0 lo)).toArray)).toList = _
    unfold cut
    rw [Array.length_toList]
    rfl
  rw [e] at hc
  exact h c (mem_cut hc)
theorem sg_app {x y : Str} (h : sg x) (h' : sg y) : sg (x ++ y) := by
  rw [sg_iff] at h h' ⊢
  intro c hc
  rw [Str.cps_append, Array.toList_append] at hc
  exact (List.mem_append.mp hc).elim (h c) (h' c)
/-! ### cells as trees -/
def ofC : Option Int → T
  | none => .non
  | some i => .int i
@[simp] theorem ofC_none : ofC none = .non := rfl
@[simp] theorem ofC_some (i : Int) : ofC (some i) = .int i := rfl
def leastC : Option Int → Option Int → Option Int
  | some a, some b => some (if b < a then b else a)
  | _, _ => none
def mostC : Option Int → Option Int → Option Int
  | some a, some b => some (if b > a then b else a)
  | _, _ => none
theorem cell_ofC {t : T} (h : isCellTree t) : ∃ a : Option Int, t = ofC a ∧ ∀ i, a = some i → -MOSTi ≤ i ∧ i ≤ MOSTi := by
  rcases h with rfl | ⟨i, rfl, h1, h2⟩
  · exact ⟨none, rfl, fun i e => by cases e⟩
  · exact ⟨some i, rfl, fun j e => by cases e; exact ⟨h1, h2⟩⟩
end Law

namespace Law
open PySem L2 M3
/-! ### unlike names -/
@[simp] theorem ne_cell_old : (Str.ofString "cell" = Str.ofString "old") = False := eq_false (by decide +kernel)
@[simp] theorem ne_cell_new : (Str.ofString "cell" = Str.ofString "new") = False := eq_false (by decide +kernel)
@[simp] theorem ne_cell_choose : (Str.ofString "cell" = Str.ofString "choose") = False := eq_false (by decide +kernel)
@[simp] theorem ne_cell_plus : (Str.ofString "cell" = Str.ofString "plus") = False := eq_false (by decide +kernel)
@[simp] theorem ne_cell_minus : (Str.ofString "cell" = Str.ofString "minus") = False := eq_false (by decide +kernel)
@[simp] theorem ne_cell_times : (Str.ofString "cell" = Str.ofString "times") = False := eq_false (by decide +kernel)
@[simp] theorem ne_cell_least : (Str.ofString "cell" = Str.ofString "least") = False := eq_false (by decide +kernel)
@[simp] theorem ne_cell_most : (Str.ofString "cell" = Str.ofString "most") = False := eq_false (by decide +kernel)
@[simp] theorem ne_cell_yes : (Str.ofString "cell" = Str.ofString "yes") = False := eq_false (by decide +kernel)
@[simp] theorem ne_cell_lacks : (Str.ofString "cell" = Str.ofString "lacks") = False := eq_false (by decide +kernel)
@[simp] theorem ne_cell_is : (Str.ofString "cell" = Str.ofString "is") = False := eq_false (by decide +kernel)
@[simp] theorem ne_cell_below : (Str.ofString "cell" = Str.ofString "below") = False := eq_false (by decide +kernel)
@[simp] theorem ne_cell_not : (Str.ofString "cell" = Str.ofString "not") = False := eq_false (by decide +kernel)
@[simp] theorem ne_cell_both : (Str.ofString "cell" = Str.ofString "both") = False := eq_false (by decide +kernel)
@[simp] theorem ne_cell_either : (Str.ofString "cell" = Str.ofString "either") = False := eq_false (by decide +kernel)
@[simp] theorem ne_cell_none : (Str.ofString "cell" = Str.ofString "none") = False := eq_false (by decide +kernel)
@[simp] theorem ne_cell_TooGreat : (Str.ofString "cell" = Str.ofString "TooGreat") = False := eq_false (by decide +kernel)
@[simp] theorem ne_old_cell : (Str.ofString "old" = Str.ofString "cell") = False := eq_false (by decide +kernel)
@[simp] theorem ne_old_new : (Str.ofString "old" = Str.ofString "new") = False := eq_false (by decide +kernel)
@[simp] theorem ne_old_choose : (Str.ofString "old" = Str.ofString "choose") = False := eq_false (by decide +kernel)
@[simp] theorem ne_old_plus : (Str.ofString "old" = Str.ofString "plus") = False := eq_false (by decide +kernel)
@[simp] theorem ne_old_minus : (Str.ofString "old" = Str.ofString "minus") = False := eq_false (by decide +kernel)
@[simp] theorem ne_old_times : (Str.ofString "old" = Str.ofString "times") = False := eq_false (by decide +kernel)
@[simp] theorem ne_old_least : (Str.ofString "old" = Str.ofString "least") = False := eq_false (by decide +kernel)
@[simp] theorem ne_old_most : (Str.ofString "old" = Str.ofString "most") = False := eq_false (by decide +kernel)
@[simp] theorem ne_old_yes : (Str.ofString "old" = Str.ofString "yes") = False := eq_false (by decide +kernel)
@[simp] theorem ne_old_lacks : (Str.ofString "old" = Str.ofString "lacks") = False := eq_false (by decide +kernel)
@[simp] theorem ne_old_is : (Str.ofString "old" = Str.ofString "is") = False := eq_false (by decide +kernel)
@[simp] theorem ne_old_below : (Str.ofString "old" = Str.ofString "below") = False := eq_false (by decide +kernel)
@[simp] theorem ne_old_not : (Str.ofString "old" = Str.ofString "not") = False := eq_false (by decide +kernel)
@[simp] theorem ne_old_both : (Str.ofString "old" = Str.ofString "both") = False := eq_false (by decide +kernel)
@[simp] theorem ne_old_either : (Str.ofString "old" = Str.ofString "either") = False := eq_false (by decide +kernel)
@[simp] theorem ne_old_none : (Str.ofString "old" = Str.ofString "none") = False := eq_false (by decide +kernel)
@[simp] theorem ne_old_TooGreat : (Str.ofString "old" = Str.ofString "TooGreat") = False := eq_false (by decide +kernel)
@[simp] theorem ne_new_cell : (Str.ofString "new" = Str.ofString "cell") = False := eq_false (by decide +kernel)
@[simp] theorem ne_new_old : (Str.ofString "new" = Str.ofString "old") = False := eq_false (by decide +kernel)
@[simp] theorem ne_new_choose : (Str.ofString "new" = Str.ofString "choose") = False := eq_false (by decide +kernel)
@[simp] theorem ne_new_plus : (Str.ofString "new" = Str.ofString "plus") = False := eq_false (by decide +kernel)
@[simp] theorem ne_new_minus : (Str.ofString "new" = Str.ofString "minus") = False := eq_false (by decide +kernel)
@[simp] theorem ne_new_times : (Str.ofString "new" = Str.ofString "times") = False := eq_false (by decide +kernel)
@[simp] theorem ne_new_least : (Str.ofString "new" = Str.ofString "least") = False := eq_false (by decide +kernel)
@[simp] theorem ne_new_most : (Str.ofString "new" = Str.ofString "most") = False := eq_false (by decide +kernel)
@[simp] theorem ne_new_yes : (Str.ofString "new" = Str.ofString "yes") = False := eq_false (by decide +kernel)
@[simp] theorem ne_new_lacks : (Str.ofString "new" = Str.ofString "lacks") = False := eq_false (by decide +kernel)
@[simp] theorem ne_new_is : (Str.ofString "new" = Str.ofString "is") = False := eq_false (by decide +kernel)
@[simp] theorem ne_new_below : (Str.ofString "new" = Str.ofString "below") = False := eq_false (by decide +kernel)
@[simp] theorem ne_new_not : (Str.ofString "new" = Str.ofString "not") = False := eq_false (by decide +kernel)
@[simp] theorem ne_new_both : (Str.ofString "new" = Str.ofString "both") = False := eq_false (by decide +kernel)
@[simp] theorem ne_new_either : (Str.ofString "new" = Str.ofString "either") = False := eq_false (by decide +kernel)
@[simp] theorem ne_new_none : (Str.ofString "new" = Str.ofString "none") = False := eq_false (by decide +kernel)
@[simp] theorem ne_new_TooGreat : (Str.ofString "new" = Str.ofString "TooGreat") = False := eq_false (by decide +kernel)
@[simp] theorem ne_choose_cell : (Str.ofString "choose" = Str.ofString "cell") = False := eq_false (by decide +kernel)
@[simp] theorem ne_choose_old : (Str.ofString "choose" = Str.ofString "old") = False := eq_false (by decide +kernel)
@[simp] theorem ne_choose_new : (Str.ofString "choose" = Str.ofString "new") = False := eq_false (by decide +kernel)
@[simp] theorem ne_choose_plus : (Str.ofString "choose" = Str.ofString "plus") = False := eq_false (by decide +kernel)
@[simp] theorem ne_choose_minus : (Str.ofString "choose" = Str.ofString "minus") = False := eq_false (by decide +kernel)
@[simp] theorem ne_choose_times : (Str.ofString "choose" = Str.ofString "times") = False := eq_false (by decide +kernel)
@[simp] theorem ne_choose_least : (Str.ofString "choose" = Str.ofString "least") = False := eq_false (by decide +kernel)
@[simp] theorem ne_choose_most : (Str.ofString "choose" = Str.ofString "most") = False := eq_false (by decide +kernel)
@[simp] theorem ne_choose_yes : (Str.ofString "choose" = Str.ofString "yes") = False := eq_false (by decide +kernel)
@[simp] theorem ne_choose_lacks : (Str.ofString "choose" = Str.ofString "lacks") = False := eq_false (by decide +kernel)
@[simp] theorem ne_choose_is : (Str.ofString "choose" = Str.ofString "is") = False := eq_false (by decide +kernel)
@[simp] theorem ne_choose_below : (Str.ofString "choose" = Str.ofString "below") = False := eq_false (by decide +kernel)
@[simp] theorem ne_choose_not : (Str.ofString "choose" = Str.ofString "not") = False := eq_false (by decide +kernel)
@[simp] theorem ne_choose_both : (Str.ofString "choose" = Str.ofString "both") = False := eq_false (by decide +kernel)
@[simp] theorem ne_choose_either : (Str.ofString "choose" = Str.ofString "either") = False := eq_false (by decide +kernel)
@[simp] theorem ne_choose_none : (Str.ofString "choose" = Str.ofString "none") = False := eq_false (by decide +kernel)
@[simp] theorem ne_choose_TooGreat : (Str.ofString "choose" = Str.ofString "TooGreat") = False := eq_false (by decide +kernel)
@[simp] theorem ne_plus_cell : (Str.ofString "plus" = Str.ofString "cell") = False := eq_false (by decide +kernel)
@[simp] theorem ne_plus_old : (Str.ofString "plus" = Str.ofString "old") = False := eq_false (by decide +kernel)
@[simp] theorem ne_plus_new : (Str.ofString "plus" = Str.ofString "new") = False := eq_false (by decide +kernel)
@[simp] theorem ne_plus_choose : (Str.ofString "plus" = Str.ofString "choose") = False := eq_false (by decide +kernel)
@[simp] theorem ne_plus_minus : (Str.ofString "plus" = Str.ofString "minus") = False := eq_false (by decide +kernel)
@[simp] theorem ne_plus_times : (Str.ofString "plus" = Str.ofString "times") = False := eq_false (by decide +kernel)
@[simp] theorem ne_plus_least : (Str.ofString "plus" = Str.ofString "least") = False := eq_false (by decide +kernel)
@[simp] theorem ne_plus_most : (Str.ofString "plus" = Str.ofString "most") = False := eq_false (by decide +kernel)
@[simp] theorem ne_plus_yes : (Str.ofString "plus" = Str.ofString "yes") = False := eq_false (by decide +kernel)
@[simp] theorem ne_plus_lacks : (Str.ofString "plus" = Str.ofString "lacks") = False := eq_false (by decide +kernel)
@[simp] theorem ne_plus_is : (Str.ofString "plus" = Str.ofString "is") = False := eq_false (by decide +kernel)
@[simp] theorem ne_plus_below : (Str.ofString "plus" = Str.ofString "below") = False := eq_false (by decide +kernel)
@[simp] theorem ne_plus_not : (Str.ofString "plus" = Str.ofString "not") = False := eq_false (by decide +kernel)
@[simp] theorem ne_plus_both : (Str.ofString "plus" = Str.ofString "both") = False := eq_false (by decide +kernel)
@[simp] theorem ne_plus_either : (Str.ofString "plus" = Str.ofString "either") = False := eq_false (by decide +kernel)
@[simp] theorem ne_plus_none : (Str.ofString "plus" = Str.ofString "none") = False := eq_false (by decide +kernel)
@[simp] theorem ne_plus_TooGreat : (Str.ofString "plus" = Str.ofString "TooGreat") = False := eq_false (by decide +kernel)
@[simp] theorem ne_minus_cell : (Str.ofString "minus" = Str.ofString "cell") = False := eq_false (by decide +kernel)
@[simp] theorem ne_minus_old : (Str.ofString "minus" = Str.ofString "old") = False := eq_false (by decide +kernel)
@[simp] theorem ne_minus_new : (Str.ofString "minus" = Str.ofString "new") = False := eq_false (by decide +kernel)
@[simp] theorem ne_minus_choose : (Str.ofString "minus" = Str.ofString "choose") = False := eq_false (by decide +kernel)
@[simp] theorem ne_minus_plus : (Str.ofString "minus" = Str.ofString "plus") = False := eq_false (by decide +kernel)
@[simp] theorem ne_minus_times : (Str.ofString "minus" = Str.ofString "times") = False := eq_false (by decide +kernel)
@[simp] theorem ne_minus_least : (Str.ofString "minus" = Str.ofString "least") = False := eq_false (by decide +kernel)
@[simp] theorem ne_minus_most : (Str.ofString "minus" = Str.ofString "most") = False := eq_false (by decide +kernel)
@[simp] theorem ne_minus_yes : (Str.ofString "minus" = Str.ofString "yes") = False := eq_false (by decide +kernel)
@[simp] theorem ne_minus_lacks : (Str.ofString "minus" = Str.ofString "lacks") = False := eq_false (by decide +kernel)
@[simp] theorem ne_minus_is : (Str.ofString "minus" = Str.ofString "is") = False := eq_false (by decide +kernel)
@[simp] theorem ne_minus_below : (Str.ofString "minus" = Str.ofString "below") = False := eq_false (by decide +kernel)
@[simp] theorem ne_minus_not : (Str.ofString "minus" = Str.ofString "not") = False := eq_false (by decide +kernel)
@[simp] theorem ne_minus_both : (Str.ofString "minus" = Str.ofString "both") = False := eq_false (by decide +kernel)
@[simp] theorem ne_minus_either : (Str.ofString "minus" = Str.ofString "either") = False := eq_false (by decide +kernel)
@[simp] theorem ne_minus_none : (Str.ofString "minus" = Str.ofString "none") = False := eq_false (by decide +kernel)
@[simp] theorem ne_minus_TooGreat : (Str.ofString "minus" = Str.ofString "TooGreat") = False := eq_false (by decide +kernel)
@[simp] theorem ne_times_cell : (Str.ofString "times" = Str.ofString "cell") = False := eq_false (by decide +kernel)
@[simp] theorem ne_times_old : (Str.ofString "times" = Str.ofString "old") = False := eq_false (by decide +kernel)
@[simp] theorem ne_times_new : (Str.ofString "times" = Str.ofString "new") = False := eq_false (by decide +kernel)
@[simp] theorem ne_times_choose : (Str.ofString "times" = Str.ofString "choose") = False := eq_false (by decide +kernel)
@[simp] theorem ne_times_plus : (Str.ofString "times" = Str.ofString "plus") = False := eq_false (by decide +kernel)
@[simp] theorem ne_times_minus : (Str.ofString "times" = Str.ofString "minus") = False := eq_false (by decide +kernel)
@[simp] theorem ne_times_least : (Str.ofString "times" = Str.ofString "least") = False := eq_false (by decide +kernel)
@[simp] theorem ne_times_most : (Str.ofString "times" = Str.ofString "most") = False := eq_false (by decide +kernel)
@[simp] theorem ne_times_yes : (Str.ofString "times" = Str.ofString "yes") = False := eq_false (by decide +kernel)
@[simp] theorem ne_times_lacks : (Str.ofString "times" = Str.ofString "lacks") = False := eq_false (by decide +kernel)
@[simp] theorem ne_times_is : (Str.ofString "times" = Str.ofString "is") = False := eq_false (by decide +kernel)
@[simp] theorem ne_times_below : (Str.ofString "times" = Str.ofString "below") = False := eq_false (by decide +kernel)
@[simp] theorem ne_times_not : (Str.ofString "times" = Str.ofString "not") = False := eq_false (by decide +kernel)
@[simp] theorem ne_times_both : (Str.ofString "times" = Str.ofString "both") = False := eq_false (by decide +kernel)
@[simp] theorem ne_times_either : (Str.ofString "times" = Str.ofString "either") = False := eq_false (by decide +kernel)
@[simp] theorem ne_times_none : (Str.ofString "times" = Str.ofString "none") = False := eq_false (by decide +kernel)
@[simp] theorem ne_times_TooGreat : (Str.ofString "times" = Str.ofString "TooGreat") = False := eq_false (by decide +kernel)
@[simp] theorem ne_least_cell : (Str.ofString "least" = Str.ofString "cell") = False := eq_false (by decide +kernel)
@[simp] theorem ne_least_old : (Str.ofString "least" = Str.ofString "old") = False := eq_false (by decide +kernel)
@[simp] theorem ne_least_new : (Str.ofString "least" = Str.ofString "new") = False := eq_false (by decide +kernel)
@[simp] theorem ne_least_choose : (Str.ofString "least" = Str.ofString "choose") = False := eq_false (by decide +kernel)
@[simp] theorem ne_least_plus : (Str.ofString "least" = Str.ofString "plus") = False := eq_false (by decide +kernel)
@[simp] theorem ne_least_minus : (Str.ofString "least" = Str.ofString "minus") = False := eq_false (by decide +kernel)
@[simp] theorem ne_least_times : (Str.ofString "least" = Str.ofString "times") = False := eq_false (by decide +kernel)
@[simp] theorem ne_least_most : (Str.ofString "least" = Str.ofString "most") = False := eq_false (by decide +kernel)
@[simp] theorem ne_least_yes : (Str.ofString "least" = Str.ofString "yes") = False := eq_false (by decide +kernel)
@[simp] theorem ne_least_lacks : (Str.ofString "least" = Str.ofString "lacks") = False := eq_false (by decide +kernel)
@[simp] theorem ne_least_is : (Str.ofString "least" = Str.ofString "is") = False := eq_false (by decide +kernel)
@[simp] theorem ne_least_below : (Str.ofString "least" = Str.ofString "below") = False := eq_false (by decide +kernel)
@[simp] theorem ne_least_not : (Str.ofString "least" = Str.ofString "not") = False := eq_false (by decide +kernel)
@[simp] theorem ne_least_both : (Str.ofString "least" = Str.ofString "both") = False := eq_false (by decide +kernel)
@[simp] theorem ne_least_either : (Str.ofString "least" = Str.ofString "either") = False := eq_false (by decide +kernel)
@[simp] theorem ne_least_none : (Str.ofString "least" = Str.ofString "none") = False := eq_false (by decide +kernel)
@[simp] theorem ne_least_TooGreat : (Str.ofString "least" = Str.ofString "TooGreat") = False := eq_false (by decide +kernel)
@[simp] theorem ne_most_cell : (Str.ofString "most" = Str.ofString "cell") = False := eq_false (by decide +kernel)
@[simp] theorem ne_most_old : (Str.ofString "most" = Str.ofString "old") = False := eq_false (by decide +kernel)
@[simp] theorem ne_most_new : (Str.ofString "most" = Str.ofString "new") = False := eq_false (by decide +kernel)
@[simp] theorem ne_most_choose : (Str.ofString "most" = Str.ofString "choose") = False := eq_false (by decide +kernel)
@[simp] theorem ne_most_plus : (Str.ofString "most" = Str.ofString "plus") = False := eq_false (by decide +kernel)
@[simp] theorem ne_most_minus : (Str.ofString "most" = Str.ofString "minus") = False := eq_false (by decide +kernel)
@[simp] theorem ne_most_times : (Str.ofString "most" = Str.ofString "times") = False := eq_false (by decide +kernel)
@[simp] theorem ne_most_least : (Str.ofString "most" = Str.ofString "least") = False := eq_false (by decide +kernel)
@[simp] theorem ne_most_yes : (Str.ofString "most" = Str.ofString "yes") = False := eq_false (by decide +kernel)
@[simp] theorem ne_most_lacks : (Str.ofString "most" = Str.ofString "lacks") = False := eq_false (by decide +kernel)
@[simp] theorem ne_most_is : (Str.ofString "most" = Str.ofString "is") = False := eq_false (by decide +kernel)
@[simp] theorem ne_most_below : (Str.ofString "most" = Str.ofString "below") = False := eq_false (by decide +kernel)
@[simp] theorem ne_most_not : (Str.ofString "most" = Str.ofString "not") = False := eq_false (by decide +kernel)
@[simp] theorem ne_most_both : (Str.ofString "most" = Str.ofString "both") = False := eq_false (by decide +kernel)
@[simp] theorem ne_most_either : (Str.ofString "most" = Str.ofString "either") = False := eq_false (by decide +kernel)
@[simp] theorem ne_most_none : (Str.ofString "most" = Str.ofString "none") = False := eq_false (by decide +kernel)
@[simp] theorem ne_most_TooGreat : (Str.ofString "most" = Str.ofString "TooGreat") = False := eq_false (by decide +kernel)
@[simp] theorem ne_yes_cell : (Str.ofString "yes" = Str.ofString "cell") = False := eq_false (by decide +kernel)
@[simp] theorem ne_yes_old : (Str.ofString "yes" = Str.ofString "old") = False := eq_false (by decide +kernel)
@[simp] theorem ne_yes_new : (Str.ofString "yes" = Str.ofString "new") = False := eq_false (by decide +kernel)
@[simp] theorem ne_yes_choose : (Str.ofString "yes" = Str.ofString "choose") = False := eq_false (by decide +kernel)
@[simp] theorem ne_yes_plus : (Str.ofString "yes" = Str.ofString "plus") = False := eq_false (by decide +kernel)
@[simp] theorem ne_yes_minus : (Str.ofString "yes" = Str.ofString "minus") = False := eq_false (by decide +kernel)
@[simp] theorem ne_yes_times : (Str.ofString "yes" = Str.ofString "times") = False := eq_false (by decide +kernel)
@[simp] theorem ne_yes_least : (Str.ofString "yes" = Str.ofString "least") = False := eq_false (by decide +kernel)
@[simp] theorem ne_yes_most : (Str.ofString "yes" = Str.ofString "most") = False := eq_false (by decide +kernel)
@[simp] theorem ne_yes_lacks : (Str.ofString "yes" = Str.ofString "lacks") = False := eq_false (by decide +kernel)
@[simp] theorem ne_yes_is : (Str.ofString "yes" = Str.ofString "is") = False := eq_false (by decide +kernel)
@[simp] theorem ne_yes_below : (Str.ofString "yes" = Str.ofString "below") = False := eq_false (by decide +kernel)
@[simp] theorem ne_yes_not : (Str.ofString "yes" = Str.ofString "not") = False := eq_false (by decide +kernel)
@[simp] theorem ne_yes_both : (Str.ofString "yes" = Str.ofString "both") = False := eq_false (by decide +kernel)
@[simp] theorem ne_yes_either : (Str.ofString "yes" = Str.ofString "either") = False := eq_false (by decide +kernel)
@[simp] theorem ne_yes_none : (Str.ofString "yes" = Str.ofString "none") = False := eq_false (by decide +kernel)
@[simp] theorem ne_yes_TooGreat : (Str.ofString "yes" = Str.ofString "TooGreat") = False := eq_false (by decide +kernel)
@[simp] theorem ne_lacks_cell : (Str.ofString "lacks" = Str.ofString "cell") = False := eq_false (by decide +kernel)
@[simp] theorem ne_lacks_old : (Str.ofString "lacks" = Str.ofString "old") = False := eq_false (by decide +kernel)
@[simp] theorem ne_lacks_new : (Str.ofString "lacks" = Str.ofString "new") = False := eq_false (by decide +kernel)
@[simp] theorem ne_lacks_choose : (Str.ofString "lacks" = Str.ofString "choose") = False := eq_false (by decide +kernel)
@[simp] theorem ne_lacks_plus : (Str.ofString "lacks" = Str.ofString "plus") = False := eq_false (by decide +kernel)
@[simp] theorem ne_lacks_minus : (Str.ofString "lacks" = Str.ofString "minus") = False := eq_false (by decide +kernel)
@[simp] theorem ne_lacks_times : (Str.ofString "lacks" = Str.ofString "times") = False := eq_false (by decide +kernel)
@[simp] theorem ne_lacks_least : (Str.ofString "lacks" = Str.ofString "least") = False := eq_false (by decide +kernel)
@[simp] theorem ne_lacks_most : (Str.ofString "lacks" = Str.ofString "most") = False := eq_false (by decide +kernel)
@[simp] theorem ne_lacks_yes : (Str.ofString "lacks" = Str.ofString "yes") = False := eq_false (by decide +kernel)
@[simp] theorem ne_lacks_is : (Str.ofString "lacks" = Str.ofString "is") = False := eq_false (by decide +kernel)
@[simp] theorem ne_lacks_below : (Str.ofString "lacks" = Str.ofString "below") = False := eq_false (by decide +kernel)
@[simp] theorem ne_lacks_not : (Str.ofString "lacks" = Str.ofString "not") = False := eq_false (by decide +kernel)
@[simp] theorem ne_lacks_both : (Str.ofString "lacks" = Str.ofString "both") = False := eq_false (by decide +kernel)
@[simp] theorem ne_lacks_either : (Str.ofString "lacks" = Str.ofString "either") = False := eq_false (by decide +kernel)
@[simp] theorem ne_lacks_none : (Str.ofString "lacks" = Str.ofString "none") = False := eq_false (by decide +kernel)
@[simp] theorem ne_lacks_TooGreat : (Str.ofString "lacks" = Str.ofString "TooGreat") = False := eq_false (by decide +kernel)
@[simp] theorem ne_is_cell : (Str.ofString "is" = Str.ofString "cell") = False := eq_false (by decide +kernel)
@[simp] theorem ne_is_old : (Str.ofString "is" = Str.ofString "old") = False := eq_false (by decide +kernel)
@[simp] theorem ne_is_new : (Str.ofString "is" = Str.ofString "new") = False := eq_false (by decide +kernel)
@[simp] theorem ne_is_choose : (Str.ofString "is" = Str.ofString "choose") = False := eq_false (by decide +kernel)
@[simp] theorem ne_is_plus : (Str.ofString "is" = Str.ofString "plus") = False := eq_false (by decide +kernel)
@[simp] theorem ne_is_minus : (Str.ofString "is" = Str.ofString "minus") = False := eq_false (by decide +kernel)
@[simp] theorem ne_is_times : (Str.ofString "is" = Str.ofString "times") = False := eq_false (by decide +kernel)
@[simp] theorem ne_is_least : (Str.ofString "is" = Str.ofString "least") = False := eq_false (by decide +kernel)
@[simp] theorem ne_is_most : (Str.ofString "is" = Str.ofString "most") = False := eq_false (by decide +kernel)
@[simp] theorem ne_is_yes : (Str.ofString "is" = Str.ofString "yes") = False := eq_false (by decide +kernel)
@[simp] theorem ne_is_lacks : (Str.ofString "is" = Str.ofString "lacks") = False := eq_false (by decide +kernel)
@[simp] theorem ne_is_below : (Str.ofString "is" = Str.ofString "below") = False := eq_false (by decide +kernel)
@[simp] theorem ne_is_not : (Str.ofString "is" = Str.ofString "not") = False := eq_false (by decide +kernel)
@[simp] theorem ne_is_both : (Str.ofString "is" = Str.ofString "both") = False := eq_false (by decide +kernel)
@[simp] theorem ne_is_either : (Str.ofString "is" = Str.ofString "either") = False := eq_false (by decide +kernel)
@[simp] theorem ne_is_none : (Str.ofString "is" = Str.ofString "none") = False := eq_false (by decide +kernel)
@[simp] theorem ne_is_TooGreat : (Str.ofString "is" = Str.ofString "TooGreat") = False := eq_false (by decide +kernel)
@[simp] theorem ne_below_cell : (Str.ofString "below" = Str.ofString "cell") = False := eq_false (by decide +kernel)
@[simp] theorem ne_below_old : (Str.ofString "below" = Str.ofString "old") = False := eq_false (by decide +kernel)
@[simp] theorem ne_below_new : (Str.ofString "below" = Str.ofString "new") = False := eq_false (by decide +kernel)
@[simp] theorem ne_below_choose : (Str.ofString "below" = Str.ofString "choose") = False := eq_false (by decide +kernel)
@[simp] theorem ne_below_plus : (Str.ofString "below" = Str.ofString "plus") = False := eq_false (by decide +kernel)
@[simp] theorem ne_below_minus : (Str.ofString "below" = Str.ofString "minus") = False := eq_false (by decide +kernel)
@[simp] theorem ne_below_times : (Str.ofString "below" = Str.ofString "times") = False := eq_false (by decide +kernel)
@[simp] theorem ne_below_least : (Str.ofString "below" = Str.ofString "least") = False := eq_false (by decide +kernel)
@[simp] theorem ne_below_most : (Str.ofString "below" = Str.ofString "most") = False := eq_false (by decide +kernel)
@[simp] theorem ne_below_yes : (Str.ofString "below" = Str.ofString "yes") = False := eq_false (by decide +kernel)
@[simp] theorem ne_below_lacks : (Str.ofString "below" = Str.ofString "lacks") = False := eq_false (by decide +kernel)
@[simp] theorem ne_below_is : (Str.ofString "below" = Str.ofString "is") = False := eq_false (by decide +kernel)
@[simp] theorem ne_below_not : (Str.ofString "below" = Str.ofString "not") = False := eq_false (by decide +kernel)
@[simp] theorem ne_below_both : (Str.ofString "below" = Str.ofString "both") = False := eq_false (by decide +kernel)
@[simp] theorem ne_below_either : (Str.ofString "below" = Str.ofString "either") = False := eq_false (by decide +kernel)
@[simp] theorem ne_below_none : (Str.ofString "below" = Str.ofString "none") = False := eq_false (by decide +kernel)
@[simp] theorem ne_below_TooGreat : (Str.ofString "below" = Str.ofString "TooGreat") = False := eq_false (by decide +kernel)
@[simp] theorem ne_not_cell : (Str.ofString "not" = Str.ofString "cell") = False := eq_false (by decide +kernel)
@[simp] theorem ne_not_old : (Str.ofString "not" = Str.ofString "old") = False := eq_false (by decide +kernel)
@[simp] theorem ne_not_new : (Str.ofString "not" = Str.ofString "new") = False := eq_false (by decide +kernel)
@[simp] theorem ne_not_choose : (Str.ofString "not" = Str.ofString "choose") = False := eq_false (by decide +kernel)
@[simp] theorem ne_not_plus : (Str.ofString "not" = Str.ofString "plus") = False := eq_false (by decide +kernel)
@[simp] theorem ne_not_minus : (Str.ofString "not" = Str.ofString "minus") = False := eq_false (by decide +kernel)
@[simp] theorem ne_not_times : (Str.ofString "not" = Str.ofString "times") = False := eq_false (by decide +kernel)
@[simp] theorem ne_not_least : (Str.ofString "not" = Str.ofString "least") = False := eq_false (by decide +kernel)
@[simp] theorem ne_not_most : (Str.ofString "not" = Str.ofString "most") = False := eq_false (by decide +kernel)
@[simp] theorem ne_not_yes : (Str.ofString "not" = Str.ofString "yes") = False := eq_false (by decide +kernel)
@[simp] theorem ne_not_lacks : (Str.ofString "not" = Str.ofString "lacks") = False := eq_false (by decide +kernel)
@[simp] theorem ne_not_is : (Str.ofString "not" = Str.ofString "is") = False := eq_false (by decide +kernel)
@[simp] theorem ne_not_below : (Str.ofString "not" = Str.ofString "below") = False := eq_false (by decide +kernel)
@[simp] theorem ne_not_both : (Str.ofString "not" = Str.ofString "both") = False := eq_false (by decide +kernel)
@[simp] theorem ne_not_either : (Str.ofString "not" = Str.ofString "either") = False := eq_false (by decide +kernel)
@[simp] theorem ne_not_none : (Str.ofString "not" = Str.ofString "none") = False := eq_false (by decide +kernel)
@[simp] theorem ne_not_TooGreat : (Str.ofString "not" = Str.ofString "TooGreat") = False := eq_false (by decide +kernel)
@[simp] theorem ne_both_cell : (Str.ofString "both" = Str.ofString "cell") = False := eq_false (by decide +kernel)
@[simp] theorem ne_both_old : (Str.ofString "both" = Str.ofString "old") = False := eq_false (by decide +kernel)
@[simp] theorem ne_both_new : (Str.ofString "both" = Str.ofString "new") = False := eq_false (by decide +kernel)
@[simp] theorem ne_both_choose : (Str.ofString "both" = Str.ofString "choose") = False := eq_false (by decide +kernel)
@[simp] theorem ne_both_plus : (Str.ofString "both" = Str.ofString "plus") = False := eq_false (by decide +kernel)
@[simp] theorem ne_both_minus : (Str.ofString "both" = Str.ofString "minus") = False := eq_false (by decide +kernel)
@[simp] theorem ne_both_times : (Str.ofString "both" = Str.ofString "times") = False := eq_false (by decide +kernel)
@[simp] theorem ne_both_least : (Str.ofString "both" = Str.ofString "least") = False := eq_false (by decide +kernel)
@[simp] theorem ne_both_most : (Str.ofString "both" = Str.ofString "most") = False := eq_false (by decide +kernel)
@[simp] theorem ne_both_yes : (Str.ofString "both" = Str.ofString "yes") = False := eq_false (by decide +kernel)
@[simp] theorem ne_both_lacks : (Str.ofString "both" = Str.ofString "lacks") = False := eq_false (by decide +kernel)
@[simp] theorem ne_both_is : (Str.ofString "both" = Str.ofString "is") = False := eq_false (by decide +kernel)
@[simp] theorem ne_both_below : (Str.ofString "both" = Str.ofString "below") = False := eq_false (by decide +kernel)
@[simp] theorem ne_both_not : (Str.ofString "both" = Str.ofString "not") = False := eq_false (by decide +kernel)
@[simp] theorem ne_both_either : (Str.ofString "both" = Str.ofString "either") = False := eq_false (by decide +kernel)
@[simp] theorem ne_both_none : (Str.ofString "both" = Str.ofString "none") = False := eq_false (by decide +kernel)
@[simp] theorem ne_both_TooGreat : (Str.ofString "both" = Str.ofString "TooGreat") = False := eq_false (by decide +kernel)
@[simp] theorem ne_either_cell : (Str.ofString "either" = Str.ofString "cell") = False := eq_false (by decide +kernel)
@[simp] theorem ne_either_old : (Str.ofString "either" = Str.ofString "old") = False := eq_false (by decide +kernel)
@[simp] theorem ne_either_new : (Str.ofString "either" = Str.ofString "new") = False := eq_false (by decide +kernel)
@[simp] theorem ne_either_choose : (Str.ofString "either" = Str.ofString "choose") = False := eq_false (by decide +kernel)
@[simp] theorem ne_either_plus : (Str.ofString "either" = Str.ofString "plus") = False := eq_false (by decide +kernel)
@[simp] theorem ne_either_minus : (Str.ofString "either" = Str.ofString "minus") = False := eq_false (by decide +kernel)
@[simp] theorem ne_either_times : (Str.ofString "either" = Str.ofString "times") = False := eq_false (by decide +kernel)
@[simp] theorem ne_either_least : (Str.ofString "either" = Str.ofString "least") = False := eq_false (by decide +kernel)
@[simp] theorem ne_either_most : (Str.ofString "either" = Str.ofString "most") = False := eq_false (by decide +kernel)
@[simp] theorem ne_either_yes : (Str.ofString "either" = Str.ofString "yes") = False := eq_false (by decide +kernel)
@[simp] theorem ne_either_lacks : (Str.ofString "either" = Str.ofString "lacks") = False := eq_false (by decide +kernel)
@[simp] theorem ne_either_is : (Str.ofString "either" = Str.ofString "is") = False := eq_false (by decide +kernel)
@[simp] theorem ne_either_below : (Str.ofString "either" = Str.ofString "below") = False := eq_false (by decide +kernel)
@[simp] theorem ne_either_not : (Str.ofString "either" = Str.ofString "not") = False := eq_false (by decide +kernel)
@[simp] theorem ne_either_both : (Str.ofString "either" = Str.ofString "both") = False := eq_false (by decide +kernel)
@[simp] theorem ne_either_none : (Str.ofString "either" = Str.ofString "none") = False := eq_false (by decide +kernel)
@[simp] theorem ne_either_TooGreat : (Str.ofString "either" = Str.ofString "TooGreat") = False := eq_false (by decide +kernel)
@[simp] theorem ne_none_cell : (Str.ofString "none" = Str.ofString "cell") = False := eq_false (by decide +kernel)
@[simp] theorem ne_none_old : (Str.ofString "none" = Str.ofString "old") = False := eq_false (by decide +kernel)
@[simp] theorem ne_none_new : (Str.ofString "none" = Str.ofString "new") = False := eq_false (by decide +kernel)
@[simp] theorem ne_none_choose : (Str.ofString "none" = Str.ofString "choose") = False := eq_false (by decide +kernel)
@[simp] theorem ne_none_plus : (Str.ofString "none" = Str.ofString "plus") = False := eq_false (by decide +kernel)
@[simp] theorem ne_none_minus : (Str.ofString "none" = Str.ofString "minus") = False := eq_false (by decide +kernel)
@[simp] theorem ne_none_times : (Str.ofString "none" = Str.ofString "times") = False := eq_false (by decide +kernel)
@[simp] theorem ne_none_least : (Str.ofString "none" = Str.ofString "least") = False := eq_false (by decide +kernel)
@[simp] theorem ne_none_most : (Str.ofString "none" = Str.ofString "most") = False := eq_false (by decide +kernel)
@[simp] theorem ne_none_yes : (Str.ofString "none" = Str.ofString "yes") = False := eq_false (by decide +kernel)
@[simp] theorem ne_none_lacks : (Str.ofString "none" = Str.ofString "lacks") = False := eq_false (by decide +kernel)
@[simp] theorem ne_none_is : (Str.ofString "none" = Str.ofString "is") = False := eq_false (by decide +kernel)
@[simp] theorem ne_none_below : (Str.ofString "none" = Str.ofString "below") = False := eq_false (by decide +kernel)
@[simp] theorem ne_none_not : (Str.ofString "none" = Str.ofString "not") = False := eq_false (by decide +kernel)
@[simp] theorem ne_none_both : (Str.ofString "none" = Str.ofString "both") = False := eq_false (by decide +kernel)
@[simp] theorem ne_none_either : (Str.ofString "none" = Str.ofString "either") = False := eq_false (by decide +kernel)
@[simp] theorem ne_none_TooGreat : (Str.ofString "none" = Str.ofString "TooGreat") = False := eq_false (by decide +kernel)
@[simp] theorem ne_TooGreat_cell : (Str.ofString "TooGreat" = Str.ofString "cell") = False := eq_false (by decide +kernel)
@[simp] theorem ne_TooGreat_old : (Str.ofString "TooGreat" = Str.ofString "old") = False := eq_false (by decide +kernel)
@[simp] theorem ne_TooGreat_new : (Str.ofString "TooGreat" = Str.ofString "new") = False := eq_false (by decide +kernel)
@[simp] theorem ne_TooGreat_choose : (Str.ofString "TooGreat" = Str.ofString "choose") = False := eq_false (by decide +kernel)
@[simp] theorem ne_TooGreat_plus : (Str.ofString "TooGreat" = Str.ofString "plus") = False := eq_false (by decide +kernel)
@[simp] theorem ne_TooGreat_minus : (Str.ofString "TooGreat" = Str.ofString "minus") = False := eq_false (by decide +kernel)
@[simp] theorem ne_TooGreat_times : (Str.ofString "TooGreat" = Str.ofString "times") = False := eq_false (by decide +kernel)
@[simp] theorem ne_TooGreat_least : (Str.ofString "TooGreat" = Str.ofString "least") = False := eq_false (by decide +kernel)
@[simp] theorem ne_TooGreat_most : (Str.ofString "TooGreat" = Str.ofString "most") = False := eq_false (by decide +kernel)
@[simp] theorem ne_TooGreat_yes : (Str.ofString "TooGreat" = Str.ofString "yes") = False := eq_false (by decide +kernel)
@[simp] theorem ne_TooGreat_lacks : (Str.ofString "TooGreat" = Str.ofString "lacks") = False := eq_false (by decide +kernel)
@[simp] theorem ne_TooGreat_is : (Str.ofString "TooGreat" = Str.ofString "is") = False := eq_false (by decide +kernel)
@[simp] theorem ne_TooGreat_below : (Str.ofString "TooGreat" = Str.ofString "below") = False := eq_false (by decide +kernel)
@[simp] theorem ne_TooGreat_not : (Str.ofString "TooGreat" = Str.ofString "not") = False := eq_false (by decide +kernel)
@[simp] theorem ne_TooGreat_both : (Str.ofString "TooGreat" = Str.ofString "both") = False := eq_false (by decide +kernel)
@[simp] theorem ne_TooGreat_either : (Str.ofString "TooGreat" = Str.ofString "either") = False := eq_false (by decide +kernel)
@[simp] theorem ne_TooGreat_none : (Str.ofString "TooGreat" = Str.ofString "none") = False := eq_false (by decide +kernel)
@[simp] theorem be_cell_plus : (Str.ofString "cell" == Str.ofString "plus") = false := by decide +kernel
@[simp] theorem be_cell_minus : (Str.ofString "cell" == Str.ofString "minus") = false := by decide +kernel
@[simp] theorem be_cell_times : (Str.ofString "cell" == Str.ofString "times") = false := by decide +kernel
@[simp] theorem be_cell_least : (Str.ofString "cell" == Str.ofString "least") = false := by decide +kernel
@[simp] theorem be_cell_most : (Str.ofString "cell" == Str.ofString "most") = false := by decide +kernel
@[simp] theorem be_cell_is : (Str.ofString "cell" == Str.ofString "is") = false := by decide +kernel
@[simp] theorem be_cell_below : (Str.ofString "cell" == Str.ofString "below") = false := by decide +kernel
@[simp] theorem be_cell_both : (Str.ofString "cell" == Str.ofString "both") = false := by decide +kernel
@[simp] theorem be_cell_either : (Str.ofString "cell" == Str.ofString "either") = false := by decide +kernel
@[simp] theorem be_old_plus : (Str.ofString "old" == Str.ofString "plus") = false := by decide +kernel
@[simp] theorem be_old_minus : (Str.ofString "old" == Str.ofString "minus") = false := by decide +kernel
@[simp] theorem be_old_times : (Str.ofString "old" == Str.ofString "times") = false := by decide +kernel
@[simp] theorem be_old_least : (Str.ofString "old" == Str.ofString "least") = false := by decide +kernel
@[simp] theorem be_old_most : (Str.ofString "old" == Str.ofString "most") = false := by decide +kernel
@[simp] theorem be_old_is : (Str.ofString "old" == Str.ofString "is") = false := by decide +kernel
@[simp] theorem be_old_below : (Str.ofString "old" == Str.ofString "below") = false := by decide +kernel
@[simp] theorem be_old_both : (Str.ofString "old" == Str.ofString "both") = false := by decide +kernel
@[simp] theorem be_old_either : (Str.ofString "old" == Str.ofString "either") = false := by decide +kernel
@[simp] theorem be_new_plus : (Str.ofString "new" == Str.ofString "plus") = false := by decide +kernel
@[simp] theorem be_new_minus : (Str.ofString "new" == Str.ofString "minus") = false := by decide +kernel
@[simp] theorem be_new_times : (Str.ofString "new" == Str.ofString "times") = false := by decide +kernel
@[simp] theorem be_new_least : (Str.ofString "new" == Str.ofString "least") = false := by decide +kernel
@[simp] theorem be_new_most : (Str.ofString "new" == Str.ofString "most") = false := by decide +kernel
@[simp] theorem be_new_is : (Str.ofString "new" == Str.ofString "is") = false := by decide +kernel
@[simp] theorem be_new_below : (Str.ofString "new" == Str.ofString "below") = false := by decide +kernel
@[simp] theorem be_new_both : (Str.ofString "new" == Str.ofString "both") = false := by decide +kernel
@[simp] theorem be_new_either : (Str.ofString "new" == Str.ofString "either") = false := by decide +kernel
@[simp] theorem be_choose_plus : (Str.ofString "choose" == Str.ofString "plus") = false := by decide +kernel
@[simp] theorem be_choose_minus : (Str.ofString "choose" == Str.ofString "minus") = false := by decide +kernel
@[simp] theorem be_choose_times : (Str.ofString "choose" == Str.ofString "times") = false := by decide +kernel
@[simp] theorem be_choose_least : (Str.ofString "choose" == Str.ofString "least") = false := by decide +kernel
@[simp] theorem be_choose_most : (Str.ofString "choose" == Str.ofString "most") = false := by decide +kernel
@[simp] theorem be_choose_is : (Str.ofString "choose" == Str.ofString "is") = false := by decide +kernel
@[simp] theorem be_choose_below : (Str.ofString "choose" == Str.ofString "below") = false := by decide +kernel
@[simp] theorem be_choose_both : (Str.ofString "choose" == Str.ofString "both") = false := by decide +kernel
@[simp] theorem be_choose_either : (Str.ofString "choose" == Str.ofString "either") = false := by decide +kernel
@[simp] theorem be_plus_plus : (Str.ofString "plus" == Str.ofString "plus") = true := by decide +kernel
@[simp] theorem be_plus_minus : (Str.ofString "plus" == Str.ofString "minus") = false := by decide +kernel
@[simp] theorem be_plus_times : (Str.ofString "plus" == Str.ofString "times") = false := by decide +kernel
@[simp] theorem be_plus_least : (Str.ofString "plus" == Str.ofString "least") = false := by decide +kernel
@[simp] theorem be_plus_most : (Str.ofString "plus" == Str.ofString "most") = false := by decide +kernel
@[simp] theorem be_plus_is : (Str.ofString "plus" == Str.ofString "is") = false := by decide +kernel
@[simp] theorem be_plus_below : (Str.ofString "plus" == Str.ofString "below") = false := by decide +kernel
@[simp] theorem be_plus_both : (Str.ofString "plus" == Str.ofString "both") = false := by decide +kernel
@[simp] theorem be_plus_either : (Str.ofString "plus" == Str.ofString "either") = false := by decide +kernel
@[simp] theorem be_minus_plus : (Str.ofString "minus" == Str.ofString "plus") = false := by decide +kernel
@[simp] theorem be_minus_minus : (Str.ofString "minus" == Str.ofString "minus") = true := by decide +kernel
@[simp] theorem be_minus_times : (Str.ofString "minus" == Str.ofString "times") = false := by decide +kernel
@[simp] theorem be_minus_least : (Str.ofString "minus" == Str.ofString "least") = false := by decide +kernel
@[simp] theorem be_minus_most : (Str.ofString "minus" == Str.ofString "most") = false := by decide +kernel
@[simp] theorem be_minus_is : (Str.ofString "minus" == Str.ofString "is") = false := by decide +kernel
@[simp] theorem be_minus_below : (Str.ofString "minus" == Str.ofString "below") = false := by decide +kernel
@[simp] theorem be_minus_both : (Str.ofString "minus" == Str.ofString "both") = false := by decide +kernel
@[simp] theorem be_minus_either : (Str.ofString "minus" == Str.ofString "either") = false := by decide +kernel
@[simp] theorem be_times_plus : (Str.ofString "times" == Str.ofString "plus") = false := by decide +kernel
@[simp] theorem be_times_minus : (Str.ofString "times" == Str.ofString "minus") = false := by decide +kernel
@[simp] theorem be_times_times : (Str.ofString "times" == Str.ofString "times") = true := by decide +kernel
@[simp] theorem be_times_least : (Str.ofString "times" == Str.ofString "least") = false := by decide +kernel
@[simp] theorem be_times_most : (Str.ofString "times" == Str.ofString "most") = false := by decide +kernel
@[simp] theorem be_times_is : (Str.ofString "times" == Str.ofString "is") = false := by decide +kernel
@[simp] theorem be_times_below : (Str.ofString "times" == Str.ofString "below") = false := by decide +kernel
@[simp] theorem be_times_both : (Str.ofString "times" == Str.ofString "both") = false := by decide +kernel
@[simp] theorem be_times_either : (Str.ofString "times" == Str.ofString "either") = false := by decide +kernel
@[simp] theorem be_least_plus : (Str.ofString "least" == Str.ofString "plus") = false := by decide +kernel
@[simp] theorem be_least_minus : (Str.ofString "least" == Str.ofString "minus") = false := by decide +kernel
@[simp] theorem be_least_times : (Str.ofString "least" == Str.ofString "times") = false := by decide +kernel
@[simp] theorem be_least_least : (Str.ofString "least" == Str.ofString "least") = true := by decide +kernel
@[simp] theorem be_least_most : (Str.ofString "least" == Str.ofString "most") = false := by decide +kernel
@[simp] theorem be_least_is : (Str.ofString "least" == Str.ofString "is") = false := by decide +kernel
@[simp] theorem be_least_below : (Str.ofString "least" == Str.ofString "below") = false := by decide +kernel
@[simp] theorem be_least_both : (Str.ofString "least" == Str.ofString "both") = false := by decide +kernel
@[simp] theorem be_least_either : (Str.ofString "least" == Str.ofString "either") = false := by decide +kernel
@[simp] theorem be_most_plus : (Str.ofString "most" == Str.ofString "plus") = false := by decide +kernel
@[simp] theorem be_most_minus : (Str.ofString "most" == Str.ofString "minus") = false := by decide +kernel
@[simp] theorem be_most_times : (Str.ofString "most" == Str.ofString "times") = false := by decide +kernel
@[simp] theorem be_most_least : (Str.ofString "most" == Str.ofString "least") = false := by decide +kernel
@[simp] theorem be_most_most : (Str.ofString "most" == Str.ofString "most") = true := by decide +kernel
@[simp] theorem be_most_is : (Str.ofString "most" == Str.ofString "is") = false := by decide +kernel
@[simp] theorem be_most_below : (Str.ofString "most" == Str.ofString "below") = false := by decide +kernel
@[simp] theorem be_most_both : (Str.ofString "most" == Str.ofString "both") = false := by decide +kernel
@[simp] theorem be_most_either : (Str.ofString "most" == Str.ofString "either") = false := by decide +kernel
@[simp] theorem be_yes_plus : (Str.ofString "yes" == Str.ofString "plus") = false := by decide +kernel
@[simp] theorem be_yes_minus : (Str.ofString "yes" == Str.ofString "minus") = false := by decide +kernel
@[simp] theorem be_yes_times : (Str.ofString "yes" == Str.ofString "times") = false := by decide +kernel
@[simp] theorem be_yes_least : (Str.ofString "yes" == Str.ofString "least") = false := by decide +kernel
@[simp] theorem be_yes_most : (Str.ofString "yes" == Str.ofString "most") = false := by decide +kernel
@[simp] theorem be_yes_is : (Str.ofString "yes" == Str.ofString "is") = false := by decide +kernel
@[simp] theorem be_yes_below : (Str.ofString "yes" == Str.ofString "below") = false := by decide +kernel
@[simp] theorem be_yes_both : (Str.ofString "yes" == Str.ofString "both") = false := by decide +kernel
@[simp] theorem be_yes_either : (Str.ofString "yes" == Str.ofString "either") = false := by decide +kernel
@[simp] theorem be_lacks_plus : (Str.ofString "lacks" == Str.ofString "plus") = false := by decide +kernel
@[simp] theorem be_lacks_minus : (Str.ofString "lacks" == Str.ofString "minus") = false := by decide +kernel
@[simp] theorem be_lacks_times : (Str.ofString "lacks" == Str.ofString "times") = false := by decide +kernel
@[simp] theorem be_lacks_least : (Str.ofString "lacks" == Str.ofString "least") = false := by decide +kernel
@[simp] theorem be_lacks_most : (Str.ofString "lacks" == Str.ofString "most") = false := by decide +kernel
@[simp] theorem be_lacks_is : (Str.ofString "lacks" == Str.ofString "is") = false := by decide +kernel
@[simp] theorem be_lacks_below : (Str.ofString "lacks" == Str.ofString "below") = false := by decide +kernel
@[simp] theorem be_lacks_both : (Str.ofString "lacks" == Str.ofString "both") = false := by decide +kernel
@[simp] theorem be_lacks_either : (Str.ofString "lacks" == Str.ofString "either") = false := by decide +kernel
@[simp] theorem be_is_plus : (Str.ofString "is" == Str.ofString "plus") = false := by decide +kernel
@[simp] theorem be_is_minus : (Str.ofString "is" == Str.ofString "minus") = false := by decide +kernel
@[simp] theorem be_is_times : (Str.ofString "is" == Str.ofString "times") = false := by decide +kernel
@[simp] theorem be_is_least : (Str.ofString "is" == Str.ofString "least") = false := by decide +kernel
@[simp] theorem be_is_most : (Str.ofString "is" == Str.ofString "most") = false := by decide +kernel
@[simp] theorem be_is_is : (Str.ofString "is" == Str.ofString "is") = true := by decide +kernel
@[simp] theorem be_is_below : (Str.ofString "is" == Str.ofString "below") = false := by decide +kernel
@[simp] theorem be_is_both : (Str.ofString "is" == Str.ofString "both") = false := by decide +kernel
@[simp] theorem be_is_either : (Str.ofString "is" == Str.ofString "either") = false := by decide +kernel
@[simp] theorem be_below_plus : (Str.ofString "below" == Str.ofString "plus") = false := by decide +kernel
@[simp] theorem be_below_minus : (Str.ofString "below" == Str.ofString "minus") = false := by decide +kernel
@[simp] theorem be_below_times : (Str.ofString "below" == Str.ofString "times") = false := by decide +kernel
@[simp] theorem be_below_least : (Str.ofString "below" == Str.ofString "least") = false := by decide +kernel
@[simp] theorem be_below_most : (Str.ofString "below" == Str.ofString "most") = false := by decide +kernel
@[simp] theorem be_below_is : (Str.ofString "below" == Str.ofString "is") = false := by decide +kernel
@[simp] theorem be_below_below : (Str.ofString "below" == Str.ofString "below") = true := by decide +kernel
@[simp] theorem be_below_both : (Str.ofString "below" == Str.ofString "both") = false := by decide +kernel
@[simp] theorem be_below_either : (Str.ofString "below" == Str.ofString "either") = false := by decide +kernel
@[simp] theorem be_not_plus : (Str.ofString "not" == Str.ofString "plus") = false := by decide +kernel
@[simp] theorem be_not_minus : (Str.ofString "not" == Str.ofString "minus") = false := by decide +kernel
@[simp] theorem be_not_times : (Str.ofString "not" == Str.ofString "times") = false := by decide +kernel
@[simp] theorem be_not_least : (Str.ofString "not" == Str.ofString "least") = false := by decide +kernel
@[simp] theorem be_not_most : (Str.ofString "not" == Str.ofString "most") = false := by decide +kernel
@[simp] theorem be_not_is : (Str.ofString "not" == Str.ofString "is") = false := by decide +kernel
@[simp] theorem be_not_below : (Str.ofString "not" == Str.ofString "below") = false := by decide +kernel
@[simp] theorem be_not_both : (Str.ofString "not" == Str.ofString "both") = false := by decide +kernel
@[simp] theorem be_not_either : (Str.ofString "not" == Str.ofString "either") = false := by decide +kernel
@[simp] theorem be_both_plus : (Str.ofString "both" == Str.ofString "plus") = false := by decide +kernel
@[simp] theorem be_both_minus : (Str.ofString "both" == Str.ofString "minus") = false := by decide +kernel
@[simp] theorem be_both_times : (Str.ofString "both" == Str.ofString "times") = false := by decide +kernel
@[simp] theorem be_both_least : (Str.ofString "both" == Str.ofString "least") = false := by decide +kernel
@[simp] theorem be_both_most : (Str.ofString "both" == Str.ofString "most") = false := by decide +kernel
@[simp] theorem be_both_is : (Str.ofString "both" == Str.ofString "is") = false := by decide +kernel
@[simp] theorem be_both_below : (Str.ofString "both" == Str.ofString "below") = false := by decide +kernel
@[simp] theorem be_both_both : (Str.ofString "both" == Str.ofString "both") = true := by decide +kernel
@[simp] theorem be_both_either : (Str.ofString "both" == Str.ofString "either") = false := by decide +kernel
@[simp] theorem be_either_plus : (Str.ofString "either" == Str.ofString "plus") = false := by decide +kernel
@[simp] theorem be_either_minus : (Str.ofString "either" == Str.ofString "minus") = false := by decide +kernel
@[simp] theorem be_either_times : (Str.ofString "either" == Str.ofString "times") = false := by decide +kernel
@[simp] theorem be_either_least : (Str.ofString "either" == Str.ofString "least") = false := by decide +kernel
@[simp] theorem be_either_most : (Str.ofString "either" == Str.ofString "most") = false := by decide +kernel
@[simp] theorem be_either_is : (Str.ofString "either" == Str.ofString "is") = false := by decide +kernel
@[simp] theorem be_either_below : (Str.ofString "either" == Str.ofString "below") = false := by decide +kernel
@[simp] theorem be_either_both : (Str.ofString "either" == Str.ofString "both") = false := by decide +kernel
@[simp] theorem be_either_either : (Str.ofString "either" == Str.ofString "either") = true := by decide +kernel
@[simp] theorem be_none_plus : (Str.ofString "none" == Str.ofString "plus") = false := by decide +kernel
@[simp] theorem be_none_minus : (Str.ofString "none" == Str.ofString "minus") = false := by decide +kernel
@[simp] theorem be_none_times : (Str.ofString "none" == Str.ofString "times") = false := by decide +kernel
@[simp] theorem be_none_least : (Str.ofString "none" == Str.ofString "least") = false := by decide +kernel
@[simp] theorem be_none_most : (Str.ofString "none" == Str.ofString "most") = false := by decide +kernel
@[simp] theorem be_none_is : (Str.ofString "none" == Str.ofString "is") = false := by decide +kernel
@[simp] theorem be_none_below : (Str.ofString "none" == Str.ofString "below") = false := by decide +kernel
@[simp] theorem be_none_both : (Str.ofString "none" == Str.ofString "both") = false := by decide +kernel
@[simp] theorem be_none_either : (Str.ofString "none" == Str.ofString "either") = false := by decide +kernel
@[simp] theorem be_TooGreat_plus : (Str.ofString "TooGreat" == Str.ofString "plus") = false := by decide +kernel
@[simp] theorem be_TooGreat_minus : (Str.ofString "TooGreat" == Str.ofString "minus") = false := by decide +kernel
@[simp] theorem be_TooGreat_times : (Str.ofString "TooGreat" == Str.ofString "times") = false := by decide +kernel
@[simp] theorem be_TooGreat_least : (Str.ofString "TooGreat" == Str.ofString "least") = false := by decide +kernel
@[simp] theorem be_TooGreat_most : (Str.ofString "TooGreat" == Str.ofString "most") = false := by decide +kernel
@[simp] theorem be_TooGreat_is : (Str.ofString "TooGreat" == Str.ofString "is") = false := by decide +kernel
@[simp] theorem be_TooGreat_below : (Str.ofString "TooGreat" == Str.ofString "below") = false := by decide +kernel
@[simp] theorem be_TooGreat_both : (Str.ofString "TooGreat" == Str.ofString "both") = false := by decide +kernel
@[simp] theorem be_TooGreat_either : (Str.ofString "TooGreat" == Str.ofString "either") = false := by decide +kernel
/-! ### words and what they tell -/
inductive Sop | plus | minus | times | least | most
inductive Wd : Bool → Type
  | cell (c : Option Int) : Wd false
  | col (s : Bool) (x : Str) : Wd false
  | ch (t : Wd true) (a b : Wd false) : Wd false
  | sum (o : Sop) (a b : Wd false) : Wd false
  | yes : Wd true
  | lacks (a : Wd false) : Wd true
  | cmp (lt : Bool) (a b : Wd false) : Wd true
  | no (a : Wd true) : Wd true
  | jn (e : Bool) (a b : Wd true) : Wd true
def Sop.nm : Sop → Str
  | .plus => "plus" | .minus => "minus" | .times => "times" | .least => "least" | .most => "most"
def Wd.tr : {b : Bool} → Wd b → T
  | _, .cell c => .tup [.str "cell", ofC c]
  | _, .col s x => .tup [.str (if s then "new" else "old"), .str x]
  | _, .ch t a b => .tup [.str "choose", t.tr, a.tr, b.tr]
  | _, .sum o a b => .tup [.str o.nm, a.tr, b.tr]
  | _, .yes => .tup [.str "yes"]
  | _, .lacks a => .tup [.str "lacks", a.tr]
  | _, .cmp lt a b => .tup [.str (if lt then "below" else "is"), a.tr, b.tr]
  | _, .no a => .tup [.str "not", a.tr]
  | _, .jn e a b => .tup [.str (if e then "either" else "both"), a.tr, b.tr]
def Wd.dp : {b : Bool} → Wd b → Nat
  | _, .cell _ => 1
  | _, .col _ _ => 1
  | _, .ch t a b => max t.dp (max a.dp b.dp) + 1
  | _, .sum _ a b => max a.dp b.dp + 1
  | _, .yes => 1
  | _, .lacks a => a.dp + 1
  | _, .cmp _ a b => max a.dp b.dp + 1
  | _, .no a => a.dp + 1
  | _, .jn _ a b => max a.dp b.dp + 1
def bnd (c : Option Int) : Prop := ∀ i, c = some i → -MOSTi ≤ i ∧ i ≤ MOSTi
def Wd.ok (os ns : List Str) : {b : Bool} → Wd b → Prop
  | _, .cell c => bnd c
  | _, .col s x => x ∈ (if s then ns else os)
  | _, .ch t a b => t.ok os ns ∧ a.ok os ns ∧ b.ok os ns
  | _, .sum _ a b => a.ok os ns ∧ b.ok os ns
  | _, .yes => True
  | _, .lacks a => a.ok os ns
  | _, .cmp _ a b => a.ok os ns ∧ b.ok os ns
  | _, .no a => a.ok os ns
  | _, .jn _ a b => a.ok os ns ∧ b.ok os ns
def arC (g : Int → Int → Int) : Option Int → Option Int → Option (Option Int)
  | some x, some y => if -MOSTi ≤ g x y ∧ g x y ≤ MOSTi then some (some (g x y)) else none
  | _, _ => some none
def Sop.ev : Sop → Option Int → Option Int → Option (Option Int)
  | .plus, a, b => arC (fun i j => i + j) a b
  | .minus, a, b => arC (fun i j => i - j) a b
  | .times, a, b => arC (fun i j => i * j) a b
  | .least, a, b => some (leastC a b)
  | .most, a, b => some (mostC a b)
def cmpC (lt : Bool) : Option Int → Option Int → Option Int
  | some x, some y => some (if (if lt then decide (x < y) else decide (x = y)) = true then 1 else 0)
  | _, _ => none
def ctrC (a : Option Int) : Option Int := a.map fun i => 1 - i
def bothC (a b : Option Int) : Option Int := if a = some 0 ∨ b = some 0 then some 0 else if a = none ∨ b = none then none else some 1
def eithC (a b : Option Int) : Option Int := if a = some 1 ∨ b = some 1 then some 1 else if a = none ∨ b = none then none else some 0
def Wd.ev (o n : Str → Option Int) : {b : Bool} → Wd b → Option (Option Int)
  | _, .cell c => some c
  | _, .col s x => some ((if s then n else o) x)
  | _, .ch t a b => (t.ev o n).bind fun r => if r = some 1 then a.ev o n else b.ev o n
  | _, .sum p a b => (a.ev o n).bind fun x => (b.ev o n).bind fun y => p.ev x y
  | _, .yes => some (some 1)
  | _, .lacks a => (a.ev o n).bind fun x => some (some (if x = none then 1 else 0))
  | _, .cmp lt a b => (a.ev o n).bind fun x => (b.ev o n).bind fun y => some (cmpC lt x y)
  | _, .no a => (a.ev o n).bind fun x => some (ctrC x)
  | _, .jn e a b => (a.ev o n).bind fun x => (b.ev o n).bind fun y => some (if e then eithC x y else bothC x y)
/-- what a truth is -/
def fit : Bool → Option Int → Prop
  | false, c => bnd c
  | true, c => c = none ∨ c = some 0 ∨ c = some 1
theorem arC_bnd {g : Int → Int → Int} {a b c : Option Int} (h : arC g a b = some c) : bnd c := by
  unfold arC at h
  split at h
  · split at h
    · injection h with e
      subst e
      intro i e
      injection e with e
      subst e
      assumption
    · cases h
  · injection h with e
    subst e
    intro i e
    cases e
theorem sop_bnd {o : Sop} {a b c : Option Int} (ha : bnd a) (hb : bnd b) (h : o.ev a b = some c) : bnd c := by
  cases o
  · exact arC_bnd h
  · exact arC_bnd h
  · exact arC_bnd h
  · simp only [Sop.ev, Option.some.injEq] at h
    subst h
    cases a <;> cases b <;> simp [leastC, bnd] at ha hb ⊢
    split <;> assumption
  · simp only [Sop.ev, Option.some.injEq] at h
    subst h
    cases a <;> cases b <;> simp [mostC, bnd] at ha hb ⊢
    split <;> assumption
theorem bind_some' {α β : Type} {a : Option α} {f : α → Option β} {c : β} (h : a.bind f = some c) : ∃ x, a = some x ∧ f x = some c := by
  cases a with
  | none => cases h
  | some x => exact ⟨x, rfl, h⟩
theorem ev_fit {o n : Str → Option Int} {os ns : List Str} (ho : ∀ s ∈ os, bnd (o s)) (hn : ∀ s ∈ ns, bnd (n s)) : ∀ {b : Bool} (w : Wd b) (c : Option Int), w.ok os ns → w.ev o n = some c → fit b c := by
  intro b w
  induction w with
  | cell c => intro c' h e; simp only [Wd.ev, Option.some.injEq] at e; subst e; exact h
  | col s x =>
    intro c' h e
    simp only [Wd.ev, Option.some.injEq] at e
    subst e
    cases s
    · exact ho x h
    · exact hn x h
  | ch t a b it ia ib =>
    intro c' h e
    obtain ⟨r, e1, e2⟩ := bind_some' e
    split at e2
    · exact ia _ h.2.1 e2
    · exact ib _ h.2.2 e2
  | sum p a b ia ib =>
    intro c' h e
    obtain ⟨r, e1, e2⟩ := bind_some' e
    obtain ⟨r', e3, e4⟩ := bind_some' e2
    exact sop_bnd (ia _ h.1 e1) (ib _ h.2 e3) e4
  | yes => intro c' h e; simp only [Wd.ev, Option.some.injEq] at e; subst e; exact .inr (.inr rfl)
  | lacks a ia =>
    intro c' h e
    obtain ⟨r, e1, e2⟩ := bind_some' e
    injection e2 with e2
    subst e2
    split
    · exact .inr (.inr rfl)
    · exact .inr (.inl rfl)
  | cmp lt a b ia ib =>
    intro c' h e
    obtain ⟨r, e1, e2⟩ := bind_some' e
    obtain ⟨r', e3, e4⟩ := bind_some' e2
    injection e4 with e4
    subst e4
    cases r <;> cases r' <;> simp only [cmpC, fit, true_or]
    rename_i x y
    generalize (if lt = true then decide (x < y) else decide (x = y)) = z
    cases z <;> simp
  | no a ia =>
    intro c' h e
    obtain ⟨r, e1, e2⟩ := bind_some' e
    injection e2 with e2
    subst e2
    rcases ia _ h e1 with rfl | rfl | rfl <;> simp [ctrC, fit]
  | jn e a b ia ib =>
    intro c' h e
    obtain ⟨r, e1, e2⟩ := bind_some' e
    obtain ⟨r', e3, e4⟩ := bind_some' e2
    injection e4 with e4
    subst e4
    simp only [fit, eithC, bothC]
    split <;> (split <;> (try split) <;> simp)
theorem dp_pos {b : Bool} (w : Wd b) : 1 ≤ w.dp := by cases w <;> simp [Wd.dp]
end Law

set_option maxHeartbeats 400000
namespace Law
open PySem L2 M3
theorem sl8 : 8 ≤ sizeLine := by decide
abbrev abc : Str := "abcdefghijklmnopqrstuvwxyz"
theorem sl_small {n : Nat} (h : n ≤ 100000) : n ≤ sizeLine := Nat.le_trans h (by decide)
theorem sl6 : 6 ≤ sizeLine := by decide
theorem sl26 : 26 ≤ sizeLine := by decide
theorem abc_len : (Str.length "abcdefghijklmnopqrstuvwxyz") = 26 := by decide
def nm (b : Str) (a c d : Int) (k : Int) : Str := cutS b none (some a) ++ ⟨#[97 + ((c + d * k) % 26).toNat]⟩ ++ cutS b (some a) none
def strides : List Int := [1, 3, 5, 7, 9, 11]
theorem nm_inj {b : Str} {a c d k k' : Int} (hd : d ∈ strides) (h0 : 0 ≤ k) (h1 : k < 8) (h2 : 0 ≤ k') (h3 : k' < 8) (h : nm b a c d k = nm b a c d k') : k = k' := by
  have e := congrArg (fun s : Str => s.cps.toList) h
  have ap : ∀ x y : Str, (x ++ y).cps.toList = x.cps.toList ++ y.cps.toList := fun x y => Array.toList_append
  simp only [nm, ap, List.append_assoc, List.append_cancel_left_eq, List.append_cancel_right_eq, List.cons.injEq, and_true] at e
  have e2 : 97 + ((c + d * k) % 26).toNat = 97 + ((c + d * k') % 26).toNat := by
    simpa using e
  have z0 : 0 ≤ (c + d * k) % 26 := Int.emod_nonneg _ (by decide)
  have z1 : 0 ≤ (c + d * k') % 26 := Int.emod_nonneg _ (by decide)
  have e3 : (c + d * k) % 26 = (c + d * k') % 26 := by omega
  simp only [strides, List.mem_cons, List.not_mem_nil, or_false] at hd
  clear e e2 h ap
  rcases hd with rfl | rfl | rfl | rfl | rfl | rfl <;> omega
theorem at_abc {r : Int} (h0 : 0 ≤ r) (h1 : r < 26) : atI (Str.cps "abcdefghijklmnopqrstuvwxyz").toList r = some (97 + r.toNat) := by
  obtain ⟨j, rfl⟩ : ∃ j : Nat, r = j := ⟨r.toNat, by omega⟩
  have hj : j < 26 := by omega
  have : ∀ i : Fin 26, atI (Str.cps "abcdefghijklmnopqrstuvwxyz").toList ((i.val : Nat) : Int) = some (97 + ((i.val : Nat) : Int).toNat) := by decide +kernel
  exact this ⟨j, hj⟩
theorem names_ok (C : Cs) (p : Addr) (Q : T → Prop) (X : X3) (h : ∀ (b : Str) (a c d : Int), b.length ≤ 7 → sg b → d ∈ strides → Q (.lst ([0, 1, 2, 3, 4].map fun k => T.str (nm b a c d k)))) : Lnames C [.ref p, .int 5] Q X := by
  rw [Lnames_def]
  show LnamesB C p _ [.val (.ref p), .val (.int 5), .no, .no, .no, .no, .no, .no]
  unfold LnamesB
  refine seq_by (fun σ' => σ' = [.val (.ref p), .val (.int 5), .val (.str abc), .no, .no, .no, .no, .no]) (fun nx hn => hn _ rfl) ?_
  rintro σ' rfl
  refine seq_by (fun σ' => ∃ b : Str, (b.length ≤ 7 ∧ sg b) ∧ σ' = [.val (.ref p), .val (.int 5), .val (.str abc), .val (.str b), .no, .no, .no, .no]) (fun nx hn => ?_) ?_
  · simp [seq3, next3, ret3, retN3, ifs3, drop3, asg3, name3, tst3, and3, or3, not3, andV3, orV3, notV3, if3, v3, k3, op3, un3, nil3, cons3, call3, tup3, lst3, chain3, fn30, fn3, fnN30, fnN3, fnP30, i2, i2c, i1, isN3, notN3, eqS3, neS3, ixL3, ixT3, len3, all3, any3, abs3, max23, min23, isi3, isB3, truth3, start3, slot, flatT, scal, tyn, M3.isNon, lenT, truT, isiB, Option.bind, take3, kb_non_bool, kb_non_int, kb_non_str, kb_non_list, kb_non_tuple, kb_bool_bool, kb_bool_int, kb_bool_str, kb_bool_list, kb_bool_tuple, kb_int_bool, kb_int_int, kb_int_str, kb_int_list, kb_int_tuple, kb_str_bool, kb_str_int, kb_str_str, kb_str_list, kb_str_tuple, kb_list_bool, kb_list_int, kb_list_str, kb_list_list, kb_list_tuple, kb_tuple_bool, kb_tuple_int, kb_tuple_str, kb_tuple_list, kb_tuple_tuple, addP, mulP, ixP, slP, eqP, neP, isSeq, iterP, itemsP, no3, part3, sl3, raise3, brk3, cont3, M3.ltP, M3.leP, M3.gtP, M3.geP, sl8]
    refine draw_all (by rfl) ?_
    intro x hx
    simp at hx
    rcases hx with rfl | rfl | rfl | rfl | rfl | rfl | rfl | rfl
    all_goals exact hn _ ⟨_, by decide +kernel, rfl⟩
  rintro σ' ⟨b, ⟨hb, gb⟩, rfl⟩
  have hb' : b.length ≤ sizeLine := sl_small (by omega)
  refine seq_by (fun σ' => ∃ a : Int, σ' = [.val (.ref p), .val (.int 5), .val (.str abc), .val (.str b), .val (.int a), .no, .no, .no]) (fun nx hn => ?_) ?_
  · simp [seq3, next3, ret3, retN3, ifs3, drop3, asg3, name3, tst3, and3, or3, not3, andV3, orV3, notV3, if3, v3, k3, op3, un3, nil3, cons3, call3, tup3, lst3, chain3, fn30, fn3, fnN30, fnN3, fnP30, i2, i2c, i1, isN3, notN3, eqS3, neS3, ixL3, ixT3, len3, all3, any3, abs3, max23, min23, isi3, isB3, truth3, start3, slot, flatT, scal, tyn, M3.isNon, lenT, truT, isiB, Option.bind, take3, kb_non_bool, kb_non_int, kb_non_str, kb_non_list, kb_non_tuple, kb_bool_bool, kb_bool_int, kb_bool_str, kb_bool_list, kb_bool_tuple, kb_int_bool, kb_int_int, kb_int_str, kb_int_list, kb_int_tuple, kb_str_bool, kb_str_int, kb_str_str, kb_str_list, kb_str_tuple, kb_list_bool, kb_list_int, kb_list_str, kb_list_list, kb_list_tuple, kb_tuple_bool, kb_tuple_int, kb_tuple_str, kb_tuple_list, kb_tuple_tuple, addP, mulP, ixP, slP, eqP, neP, isSeq, iterP, itemsP, no3, part3, sl3, raise3, brk3, cont3, M3.ltP, M3.leP, M3.gtP, M3.geP, hb']
    refine ⟨by omega, ?_⟩
    first | exact fun r _ _ => hn _ ⟨_, rfl⟩ | exact ⟨by omega, fun r _ _ => hn _ ⟨_, rfl⟩⟩
  rintro σ' ⟨a, rfl⟩
  refine seq_by (fun σ' => ∃ c : Int, σ' = [.val (.ref p), .val (.int 5), .val (.str abc), .val (.str b), .val (.int a), .val (.int c), .no, .no]) (fun nx hn => ?_) ?_
  · simp [seq3, next3, ret3, retN3, ifs3, drop3, asg3, name3, tst3, and3, or3, not3, andV3, orV3, notV3, if3, v3, k3, op3, un3, nil3, cons3, call3, tup3, lst3, chain3, fn30, fn3, fnN30, fnN3, fnP30, i2, i2c, i1, isN3, notN3, eqS3, neS3, ixL3, ixT3, len3, all3, any3, abs3, max23, min23, isi3, isB3, truth3, start3, slot, flatT, scal, tyn, M3.isNon, lenT, truT, isiB, Option.bind, take3, kb_non_bool, kb_non_int, kb_non_str, kb_non_list, kb_non_tuple, kb_bool_bool, kb_bool_int, kb_bool_str, kb_bool_list, kb_bool_tuple, kb_int_bool, kb_int_int, kb_int_str, kb_int_list, kb_int_tuple, kb_str_bool, kb_str_int, kb_str_str, kb_str_list, kb_str_tuple, kb_list_bool, kb_list_int, kb_list_str, kb_list_list, kb_list_tuple, kb_tuple_bool, kb_tuple_int, kb_tuple_str, kb_tuple_list, kb_tuple_tuple, addP, mulP, ixP, slP, eqP, neP, isSeq, iterP, itemsP, no3, part3, sl3, raise3, brk3, cont3, M3.ltP, M3.leP, M3.gtP, M3.geP]
    exact fun r _ _ => hn _ ⟨_, rfl⟩
  rintro σ' ⟨c, rfl⟩
  refine seq_by (fun σ' => ∃ d : Int, d ∈ strides ∧ σ' = [.val (.ref p), .val (.int 5), .val (.str abc), .val (.str b), .val (.int a), .val (.int c), .val (.int d), .no]) (fun nx hn => ?_) ?_
  · simp [seq3, next3, ret3, retN3, ifs3, drop3, asg3, name3, tst3, and3, or3, not3, andV3, orV3, notV3, if3, v3, k3, op3, un3, nil3, cons3, call3, tup3, lst3, chain3, fn30, fn3, fnN30, fnN3, fnP30, i2, i2c, i1, isN3, notN3, eqS3, neS3, ixL3, ixT3, len3, all3, any3, abs3, max23, min23, isi3, isB3, truth3, start3, slot, flatT, scal, tyn, M3.isNon, lenT, truT, isiB, Option.bind, take3, kb_non_bool, kb_non_int, kb_non_str, kb_non_list, kb_non_tuple, kb_bool_bool, kb_bool_int, kb_bool_str, kb_bool_list, kb_bool_tuple, kb_int_bool, kb_int_int, kb_int_str, kb_int_list, kb_int_tuple, kb_str_bool, kb_str_int, kb_str_str, kb_str_list, kb_str_tuple, kb_list_bool, kb_list_int, kb_list_str, kb_list_list, kb_list_tuple, kb_tuple_bool, kb_tuple_int, kb_tuple_str, kb_tuple_list, kb_tuple_tuple, addP, mulP, ixP, slP, eqP, neP, isSeq, iterP, itemsP, no3, part3, sl3, raise3, brk3, cont3, M3.ltP, M3.leP, M3.gtP, M3.geP, sl6]
    refine draw_all (by rfl) ?_
    intro x hx
    simp at hx
    rcases hx with rfl | rfl | rfl | rfl | rfl | rfl
    all_goals exact hn _ ⟨_, by decide, rfl⟩
  rintro σ' ⟨d, hd, rfl⟩
  have hd' : 0 ≤ d ∧ d ≤ 11 := by
    simp only [strides, List.mem_cons, List.not_mem_nil, or_false] at hd
    omega
  refine ⟨by simp [noOwn], by decide, by decide, ?_⟩
  show comp3 _ _ _ [.val (.ref p), .val (.int 5), .val (.str abc), .val (.str b), .val (.int a), .val (.int c), .val (.int d), .no] _ _ (rangeT 0 5) []
  rw [comp_map (h := fun y => match y with | .int k => .str (nm b a c d k) | _ => .non) (rangeT 0 5) []]
  · exact h b a c d hb gb hd
  · intro y hy Q'
    obtain ⟨k, hk, k0, k6⟩ : ∃ k : Int, y = .int k ∧ 0 ≤ k ∧ k < 5 := by
      simp [rangeT] at hy
      obtain ⟨k, hk6, rfl⟩ := hy
      exact ⟨_, rfl, by omega, by omega⟩
    subst hk
    have l1 := cutS_length b none (some a)
    have l2 := cutS_length b (some a) none
    have z0 : 0 ≤ (c + d * k) % 26 := Int.emod_nonneg _ (by decide)
    have z1 : (c + d * k) % 26 < 26 := Int.emod_lt_of_pos _ (by decide)
    have z2 : ∀ c : Nat, (Str.length ⟨#[c]⟩) = 1 := fun _ => rfl
    have cm : CMulW d k := by
      unfold CMulW
      have z1 := Nat.log2_le_self d.natAbs
      have z2 := Nat.log2_le_self k.natAbs
      omega
    simp [seq3, next3, ret3, retN3, ifs3, drop3, asg3, name3, tst3, and3, or3, not3, andV3, orV3, notV3, if3, v3, k3, op3, un3, nil3, cons3, call3, tup3, lst3, chain3, fn30, fn3, fnN30, fnN3, fnP30, i2, i2c, i1, isN3, notN3, eqS3, neS3, ixL3, ixT3, len3, all3, any3, abs3, max23, min23, isi3, isB3, truth3, start3, slot, flatT, scal, tyn, M3.isNon, lenT, truT, isiB, Option.bind, take3, kb_non_bool, kb_non_int, kb_non_str, kb_non_list, kb_non_tuple, kb_bool_bool, kb_bool_int, kb_bool_str, kb_bool_list, kb_bool_tuple, kb_int_bool, kb_int_int, kb_int_str, kb_int_list, kb_int_tuple, kb_str_bool, kb_str_int, kb_str_str, kb_str_list, kb_str_tuple, kb_list_bool, kb_list_int, kb_list_str, kb_list_list, kb_list_tuple, kb_tuple_bool, kb_tuple_int, kb_tuple_str, kb_tuple_list, kb_tuple_tuple, addP, mulP, ixP, slP, eqP, neP, isSeq, iterP, itemsP, no3, part3, sl3, raise3, brk3, cont3, M3.ltP, M3.leP, M3.gtP, M3.geP, hb', at_abc z0 z1, cm]
    have q1 : (cutS b none (some a)).length + (Str.length ⟨#[97 + ((c + d * k) % 26).toNat]⟩) ≤ sizeLine := by
      refine sl_small ?_
      simp only [z2]; omega
    have q2 : (cutS b none (some a) ++ ⟨#[97 + ((c + d * k) % 26).toNat]⟩ : Str).length + (cutS b (some a) none).length ≤ sizeLine := by
      refine sl_small ?_
      simp only [Str.length_append, z2]; omega
    exact ⟨fun h => h.2.2.2, fun h => ⟨by decide, q1, q2, h⟩⟩
  · simp [rangeT]
theorem sl1 : 1 ≤ sizeLine := by decide
theorem sl2 : 2 ≤ sizeLine := by decide
theorem sl_big {n : Nat} (h : n ≤ 100000) : n ≤ sizeLine := Nat.le_trans h (by decide)
theorem eqP_seqL {xs : List T} {y : T} {Q : T → Prop} : eqP (.lst xs) y Q = eqD3 (.lst xs) y Q := by simp [eqP, isSeq]
/-! ### the law's own words -/
abbrev VD (C : Cs) (p : Addr) (olds news : List Str) (f n : Nat) : Prop := ∀ (room : Int) (Q : T → Prop) (X : X3), room ≤ (n : Int) → (∀ w : Wd false, w.ok olds news → w.dp ≤ n → Q w.tr) → Lvalue C f [.ref p, .int room, .lst (texts olds), .lst (texts news)] Q X
abbrev TD (C : Cs) (p : Addr) (olds news : List Str) (f n : Nat) : Prop := ∀ (room : Int) (Q : T → Prop) (X : X3), room ≤ (n : Int) → (∀ w : Wd true, w.ok olds news → w.dp ≤ n → Q w.tr) → Ltruth C f [.ref p, .int room, .lst (texts olds), .lst (texts news)] Q X
def nms (xs : List Str) : Prop := xs.length ≤ 10 ∧ ∀ x ∈ xs, x.length ≤ 1000 ∧ sg x
def somes (s : Str) (xs : List Str) : List T := xs.map fun x => .tup [.str s, .str x]
theorem somes_ok {s : Str} {xs : List Str} (hs : sg s ∧ s.length ≤ 1000) (hx : nms xs) : ∀ t ∈ somes s xs, gd 4 t = true ∧ dep t = 1 := by
  intro t ht
  obtain ⟨x, hm, rfl⟩ := List.mem_map.mp ht
  have := hx.2 x hm
  refine ⟨?_, by simp⟩
  simp only [gd_tup, gdL_cons, gd_str, gdL_nil, List.length_cons, List.length_nil, Bool.and_eq_true, decide_eq_true_eq]
  exact ⟨by decide, ⟨hs.1, hs.2⟩, ⟨this.2, this.1⟩, trivial⟩
theorem some_comp {i : Nat} {s : Str} {σ : List Sl} {X : X3} {Q : List T → Prop} {xs : List Str} (hx : xs.length ≤ 10) (hi : i < σ.length) : comp3 (name3 i) yes3 (tup3 (cons3 (k3 (.str s)) (cons3 (v3 i) nil3))) σ X Q (texts xs) [] = Q (somes s xs) := by
  rw [comp_map (h := fun d => .tup [.str s, d]) (texts xs) []]
  · simp [texts, somes, List.map_map, Function.comp_def]
  · intro d hd Q'
    simp [tup3, cons3, k3, v3, nil3, slot, List.getElem?_set_self hi, sl2]
  · simp only [texts, List.length_nil, List.length_map]; omega
theorem gd_cell {t : T} (h : isCellTree t) : gd 4 (.tup [.str "cell", t]) = true ∧ dep (.tup [.str "cell", t]) = 1 := by
  rcases h with rfl | ⟨i, rfl, _⟩
  · exact ⟨by decide +kernel, by simp⟩
  · refine ⟨?_, by simp⟩
    have : sg "cell" := by decide +kernel
    simp only [gd_tup, gdL_cons, gd_str, gdL_nil, gd_int, List.length_cons, List.length_nil, Bool.and_eq_true, decide_eq_true_eq]
    exact ⟨by decide, ⟨this, by decide⟩, trivial, trivial⟩
theorem gd_w {s : Str} {xs : List T} (hs : sg s ∧ s.length ≤ 1000) (hl : xs.length ≤ 3) (hx : ∀ x ∈ xs, gd 4 x = true) : gd 4 (.tup (.str s :: xs)) = true := by
  simp only [gd_tup, gdL_cons, gd_str, List.length_cons, Bool.and_eq_true, decide_eq_true_eq]
  exact ⟨by omega, ⟨hs.1, hs.2⟩, gdL_of hx⟩
theorem szl3 : 3 ≤ sizeLine := by decide
theorem sl4 : 4 ≤ sizeLine := by decide
theorem sl5 : 5 ≤ sizeLine := by decide
theorem value_step {C : Cs} {p : Addr} {olds news : List Str} (ho : nms olds) (hn : nms news) {f n : Nat} (h : 1 ≤ n → VD C p olds news f n ∧ TD C p olds news f n) : VD C p olds news (f + 1) (n + 1) := by
  intro room Q X hr hq
  rw [Lvalue_succ]
  show LvalueB C p _ _ _ [.val (.ref p), .val (.int room), .val (.lst (texts olds)), .val (.lst (texts news)), .no, .no, .no, .no, .no]
  unfold VD TD at h
  generalize Lvalue C f = r1 at h ⊢
  generalize Ltruth C f = r2 at h ⊢
  unfold LvalueB
  refine seq_by (fun σ' => ∃ k : Int, 0 ≤ k ∧ k < 10 ∧ σ' = [.val (.ref p), .val (.int room), .val (.lst (texts olds)), .val (.lst (texts news)), .val (.int k), .no, .no, .no, .no]) (fun nx hx => ?_) ?_
  · simp [seq3, next3, ret3, retN3, ifs3, drop3, asg3, name3, tst3, and3, or3, not3, andV3, orV3, notV3, if3, v3, k3, op3, un3, nil3, cons3, call3, tup3, lst3, chain3, fn30, fn3, fnN30, fnN3, fnP30, i2, i2c, i1, isN3, notN3, eqS3, neS3, ixL3, ixT3, len3, all3, any3, abs3, max23, min23, isi3, isB3, truth3, start3, slot, flatT, scal, tyn, M3.isNon, lenT, truT, isiB, Option.bind, take3, kb_non_bool, kb_non_int, kb_non_str, kb_non_list, kb_non_tuple, kb_bool_bool, kb_bool_int, kb_bool_str, kb_bool_list, kb_bool_tuple, kb_int_bool, kb_int_int, kb_int_str, kb_int_list, kb_int_tuple, kb_str_bool, kb_str_int, kb_str_str, kb_str_list, kb_str_tuple, kb_list_bool, kb_list_int, kb_list_str, kb_list_list, kb_list_tuple, kb_tuple_bool, kb_tuple_int, kb_tuple_str, kb_tuple_list, kb_tuple_tuple, addP, mulP, ixP, slP, eqP, neP, isSeq, iterP, itemsP, no3, part3, sl3, raise3, brk3, cont3, M3.ltP, M3.leP, M3.gtP, M3.geP]
    exact fun r h0 h1 => hx _ ⟨r, h0, h1, rfl⟩
  rintro σ' ⟨k, k0, k1, rfl⟩
  refine seq_by (fun σ' => 2 ≤ room ∧ 5 ≤ k ∧ σ' = [.val (.ref p), .val (.int room), .val (.lst (texts olds)), .val (.lst (texts news)), .val (.int k), .no, .no, .no, .no]) (fun nx hx => ?_) ?_
  · by_cases c : room < 2 ∨ k < 5
    · have go : ∀ N : N3, N.rt = Q → seq3 (asg3 (op3 addP (lc3 (iterP (v3 2)) (name3 8) yes3 (tup3 (cons3 (k3 (.str "old")) (cons3 (v3 8) nil3))) [8]) (lc3 (iterP (v3 3)) (name3 8) yes3 (tup3 (cons3 (k3 (.str "new")) (cons3 (v3 8) nil3))) [8])) (name3 5)) (seq3 (ifs3 (or3 (tst3 (op3 eqP (v3 5) (lst3 nil3))) (tst3 (op3 eqP (fnP30 p 2 take3 (cons3 (v3 0) (cons3 (k3 (.int 4)) nil3)) []) (k3 (.int 0))))) (ret3 (tup3 (cons3 (k3 (.str "cell")) (cons3 (fnP3 p 1 (Lcell C) (cons3 (v3 0) nil3) []) nil3)))) next3) (ret3 (op3 ixP (v3 5) (fnP30 p 2 take3 (cons3 (v3 0) (cons3 (call3 len3 (cons3 (v3 5) nil3)) nil3)) [])))) N [.val (.ref p), .val (.int room), .val (.lst (texts olds)), .val (.lst (texts news)), .val (.int k), .no, .no, .no, .no] := by
        intro N hN
        have s1 := somes_ok (s := "old") (by exact ⟨by decide +kernel, by decide⟩) ho
        have s2 := somes_ok (s := "new") (by exact ⟨by decide +kernel, by decide⟩) hn
        have cs := fun (s : Str) (X : X3) (Q : List T → Prop) (xs : List Str) hl => some_comp (i := 8) (s := s) (σ := [.val (.ref p), .val (.int room), .val (.lst (texts olds)), .val (.lst (texts news)), .val (.int k), .no, .no, .no, .no]) (X := X) (Q := Q) (xs := xs) hl (by simp)
        refine seq_by (fun σ' => σ' = [.val (.ref p), .val (.int room), .val (.lst (texts olds)), .val (.lst (texts news)), .val (.int k), .val (.lst (somes "old" olds ++ somes "new" news)), .no, .no, .no]) (fun nx hx => ?_) ?_
        · have l1 : (somes "old" olds).length + (somes "new" news).length ≤ sizeLine := by
            apply sl_big
            have := ho.1
            have := hn.1
            simp only [somes, List.length_map]; omega
          have := hx _ rfl
          simpa [seq3, next3, ret3, retN3, ifs3, drop3, asg3, name3, tst3, and3, or3, not3, andV3, orV3, notV3, if3, v3, k3, op3, un3, nil3, cons3, call3, tup3, lst3, chain3, fn30, fn3, fnN30, fnN3, fnP30, i2, i2c, i1, isN3, notN3, eqS3, neS3, ixL3, ixT3, len3, all3, any3, abs3, max23, min23, isi3, isB3, truth3, start3, slot, flatT, scal, tyn, M3.isNon, lenT, truT, isiB, Option.bind, take3, kb_non_bool, kb_non_int, kb_non_str, kb_non_list, kb_non_tuple, kb_bool_bool, kb_bool_int, kb_bool_str, kb_bool_list, kb_bool_tuple, kb_int_bool, kb_int_int, kb_int_str, kb_int_list, kb_int_tuple, kb_str_bool, kb_str_int, kb_str_str, kb_str_list, kb_str_tuple, kb_list_bool, kb_list_int, kb_list_str, kb_list_list, kb_list_tuple, kb_tuple_bool, kb_tuple_int, kb_tuple_str, kb_tuple_list, kb_tuple_tuple, addP, mulP, ixP, slP, eqP, neP, isSeq, iterP, itemsP, no3, part3, sl3, raise3, brk3, cont3, M3.ltP, M3.leP, M3.gtP, M3.geP, lc3, noOwn, wipe3, cs _ _ _ _ ho.1, cs _ _ _ _ hn.1, l1] using this
        rintro σ' rfl
        have sm : ∀ t ∈ somes "old" olds ++ somes "new" news, gd 4 t = true ∧ dep t = 1 := fun t ht => (List.mem_append.mp ht).elim (s1 t) (s2 t)
        have sw : ∀ t ∈ somes "old" olds ++ somes "new" news, ∃ w : Wd false, t = w.tr ∧ w.ok olds news ∧ w.dp = 1 := fun t ht => by
          rcases List.mem_append.mp ht with ht | ht
          · obtain ⟨x, hm, rfl⟩ := List.mem_map.mp ht
            exact ⟨.col false x, rfl, hm, rfl⟩
          · obtain ⟨x, hm, rfl⟩ := List.mem_map.mp ht
            exact ⟨.col true x, rfl, hm, rfl⟩
        have l20 : (somes "old" olds ++ somes "new" news).length ≤ 20 := by
          have := ho.1
          have := hn.1
          simp only [somes, List.length_map, List.length_append]; omega
        generalize somes "old" olds ++ somes "new" news = sm0 at sm sw l20 ⊢
        have en := fun (Q : T → Prop) => (eqP_seqL (Q := Q)).symm.trans (eq_nilL (gdL_of fun t ht => (sm t ht).1) (Nat.lt_of_le_of_lt (depL_of (k := 1) fun t ht => Nat.le_of_eq (sm t ht).2) (by decide)) Q)
        have hc : ∀ t, isCellTree t → N.rt (.tup [.str "cell", t]) := fun t ht => by
          obtain ⟨a, rfl, ha⟩ := cell_ofC ht
          rw [hN]
          exact hq (.cell a) ha (by simp [Wd.dp])
        refine seq_by (fun σ' => sm0 ≠ [] ∧ σ' = [.val (.ref p), .val (.int room), .val (.lst (texts olds)), .val (.lst (texts news)), .val (.int k), .val (.lst sm0), .no, .no, .no]) (fun nx hx => ?_) ?_
        · cases sm0 with
          | nil =>
            simp [seq3, next3, ret3, retN3, ifs3, drop3, asg3, name3, tst3, and3, or3, not3, andV3, orV3, notV3, if3, v3, k3, op3, un3, nil3, cons3, call3, tup3, lst3, chain3, fn30, fn3, fnN30, fnN3, fnP30, i2, i2c, i1, isN3, notN3, eqS3, neS3, ixL3, ixT3, len3, all3, any3, abs3, max23, min23, isi3, isB3, truth3, start3, slot, flatT, scal, tyn, M3.isNon, lenT, truT, isiB, Option.bind, take3, kb_non_bool, kb_non_int, kb_non_str, kb_non_list, kb_non_tuple, kb_bool_bool, kb_bool_int, kb_bool_str, kb_bool_list, kb_bool_tuple, kb_int_bool, kb_int_int, kb_int_str, kb_int_list, kb_int_tuple, kb_str_bool, kb_str_int, kb_str_str, kb_str_list, kb_str_tuple, kb_list_bool, kb_list_int, kb_list_str, kb_list_list, kb_list_tuple, kb_tuple_bool, kb_tuple_int, kb_tuple_str, kb_tuple_list, kb_tuple_tuple, addP, mulP, ixP, slP, eqP, neP, isSeq, iterP, itemsP, no3, part3, sl3, raise3, brk3, cont3, M3.ltP, M3.leP, M3.gtP, M3.geP, en, fnP3]
            exact cell_of C fun t ht => ⟨sl2, hc t ht⟩
          | cons a sm0 =>
            have := hx _ ⟨by simp, rfl⟩
            simp [seq3, next3, ret3, retN3, ifs3, drop3, asg3, name3, tst3, and3, or3, not3, andV3, orV3, notV3, if3, v3, k3, op3, un3, nil3, cons3, call3, tup3, lst3, chain3, fn30, fn3, fnN30, fnN3, fnP30, i2, i2c, i1, isN3, notN3, eqS3, neS3, ixL3, ixT3, len3, all3, any3, abs3, max23, min23, isi3, isB3, truth3, start3, slot, flatT, scal, tyn, M3.isNon, lenT, truT, isiB, Option.bind, take3, kb_non_bool, kb_non_int, kb_non_str, kb_non_list, kb_non_tuple, kb_bool_bool, kb_bool_int, kb_bool_str, kb_bool_list, kb_bool_tuple, kb_int_bool, kb_int_int, kb_int_str, kb_int_list, kb_int_tuple, kb_str_bool, kb_str_int, kb_str_str, kb_str_list, kb_str_tuple, kb_list_bool, kb_list_int, kb_list_str, kb_list_list, kb_list_tuple, kb_tuple_bool, kb_tuple_int, kb_tuple_str, kb_tuple_list, kb_tuple_tuple, addP, mulP, ixP, slP, eqP, neP, isSeq, iterP, itemsP, no3, part3, sl3, raise3, brk3, cont3, M3.ltP, M3.leP, M3.gtP, M3.geP, en, fnP3]
            intro r r0 r1
            by_cases z : r = 0
            · simp [z]
              exact cell_of C fun t ht => ⟨sl2, hc t ht⟩
            · simpa [z] using this
        rintro σ' ⟨ne, rfl⟩
        have l1 : 1 ≤ sm0.length := by cases sm0 with | nil => exact absurd rfl ne | cons a b => simp
        simp [seq3, next3, ret3, retN3, ifs3, drop3, asg3, name3, tst3, and3, or3, not3, andV3, orV3, notV3, if3, v3, k3, op3, un3, nil3, cons3, call3, tup3, lst3, chain3, fn30, fn3, fnN30, fnN3, fnP30, i2, i2c, i1, isN3, notN3, eqS3, neS3, ixL3, ixT3, len3, all3, any3, abs3, max23, min23, isi3, isB3, truth3, start3, slot, flatT, scal, tyn, M3.isNon, lenT, truT, isiB, Option.bind, take3, kb_non_bool, kb_non_int, kb_non_str, kb_non_list, kb_non_tuple, kb_bool_bool, kb_bool_int, kb_bool_str, kb_bool_list, kb_bool_tuple, kb_int_bool, kb_int_int, kb_int_str, kb_int_list, kb_int_tuple, kb_str_bool, kb_str_int, kb_str_str, kb_str_list, kb_str_tuple, kb_list_bool, kb_list_int, kb_list_str, kb_list_list, kb_list_tuple, kb_tuple_bool, kb_tuple_int, kb_tuple_str, kb_tuple_list, kb_tuple_tuple, addP, mulP, ixP, slP, eqP, neP, isSeq, iterP, itemsP, no3, part3, sl3, raise3, brk3, cont3, M3.ltP, M3.leP, M3.gtP, M3.geP]
        refine ⟨by omega, ?_⟩
        first
          | exact fun r r0 r1 => ob_atI r0 (by omega) fun t ht => by
              rw [hN]
              obtain ⟨w, rfl, w1, w2⟩ := sw t ht
              exact hq w w1 (by omega)
          | exact ⟨by omega, fun r r0 r1 => ob_atI r0 (by omega) fun t ht => by
              rw [hN]
              obtain ⟨w, rfl, w1, w2⟩ := sw t ht
              exact hq w w1 (by omega)⟩
      have g1 := go { nx := nx, rt := Q, xn := fun _ => X } rfl
      by_cases c1 : room < 2
      · simpa [ifs3, or3, tst3, op3, v3, k3, slot, M3.ltP, c1] using g1
      · have c2 := c.resolve_left c1
        simpa [ifs3, or3, tst3, op3, v3, k3, slot, M3.ltP, c1, c2] using g1
    · have := hx _ ⟨by omega, by omega, rfl⟩
      have c1 : ¬ room < 2 := fun z => c (.inl z)
      have c2 : ¬ k < 5 := fun z => c (.inr z)
      simpa [seq3, next3, ret3, retN3, ifs3, drop3, asg3, name3, tst3, and3, or3, not3, andV3, orV3, notV3, if3, v3, k3, op3, un3, nil3, cons3, call3, tup3, lst3, chain3, fn30, fn3, fnN30, fnN3, fnP30, i2, i2c, i1, isN3, notN3, eqS3, neS3, ixL3, ixT3, len3, all3, any3, abs3, max23, min23, isi3, isB3, truth3, start3, slot, flatT, scal, tyn, M3.isNon, lenT, truT, isiB, Option.bind, take3, kb_non_bool, kb_non_int, kb_non_str, kb_non_list, kb_non_tuple, kb_bool_bool, kb_bool_int, kb_bool_str, kb_bool_list, kb_bool_tuple, kb_int_bool, kb_int_int, kb_int_str, kb_int_list, kb_int_tuple, kb_str_bool, kb_str_int, kb_str_str, kb_str_list, kb_str_tuple, kb_list_bool, kb_list_int, kb_list_str, kb_list_list, kb_list_tuple, kb_tuple_bool, kb_tuple_int, kb_tuple_str, kb_tuple_list, kb_tuple_tuple, addP, mulP, ixP, slP, eqP, neP, isSeq, iterP, itemsP, no3, part3, sl3, raise3, brk3, cont3, M3.ltP, M3.leP, M3.gtP, M3.geP, c1, c2] using this
  rintro σ' ⟨r2', k5, rfl⟩
  have h := h (by omega)
  refine seq_by (fun σ' => σ' = [.val (.ref p), .val (.int room), .val (.lst (texts olds)), .val (.lst (texts news)), .val (.int k), .no, .no, .no, .no]) (fun nx hx => ?_) ?_
  · by_cases c : k = 9
    · subst c
      simp [seq3, next3, ret3, retN3, ifs3, drop3, asg3, name3, tst3, and3, or3, not3, andV3, orV3, notV3, if3, v3, k3, op3, un3, nil3, cons3, call3, tup3, lst3, chain3, fn30, fn3, fnN30, fnN3, fnP30, i2, i2c, i1, isN3, notN3, eqS3, neS3, ixL3, ixT3, len3, all3, any3, abs3, max23, min23, isi3, isB3, truth3, start3, slot, flatT, scal, tyn, M3.isNon, lenT, truT, isiB, Option.bind, take3, kb_non_bool, kb_non_int, kb_non_str, kb_non_list, kb_non_tuple, kb_bool_bool, kb_bool_int, kb_bool_str, kb_bool_list, kb_bool_tuple, kb_int_bool, kb_int_int, kb_int_str, kb_int_list, kb_int_tuple, kb_str_bool, kb_str_int, kb_str_str, kb_str_list, kb_str_tuple, kb_list_bool, kb_list_int, kb_list_str, kb_list_list, kb_list_tuple, kb_tuple_bool, kb_tuple_int, kb_tuple_str, kb_tuple_list, kb_tuple_tuple, addP, mulP, ixP, slP, eqP, neP, isSeq, iterP, itemsP, no3, part3, sl3, raise3, brk3, cont3, M3.ltP, M3.leP, M3.gtP, M3.geP, fnP3]
      refine h.2 _ _ _ (by omega) fun t1 g1 d1 => ?_
      refine h.1 _ _ _ (by omega) fun t2 g2 d2 => ?_
      refine h.1 _ _ _ (by omega) fun t3 g3 d3 => ?_
      exact ⟨sl4, hq (.ch t1 t2 t3) ⟨g1, g2, g3⟩ (by simp only [Wd.dp]; omega)⟩
    · simpa [seq3, next3, ret3, retN3, ifs3, drop3, asg3, name3, tst3, and3, or3, not3, andV3, orV3, notV3, if3, v3, k3, op3, un3, nil3, cons3, call3, tup3, lst3, chain3, fn30, fn3, fnN30, fnN3, fnP30, i2, i2c, i1, isN3, notN3, eqS3, neS3, ixL3, ixT3, len3, all3, any3, abs3, max23, min23, isi3, isB3, truth3, start3, slot, flatT, scal, tyn, M3.isNon, lenT, truT, isiB, Option.bind, take3, kb_non_bool, kb_non_int, kb_non_str, kb_non_list, kb_non_tuple, kb_bool_bool, kb_bool_int, kb_bool_str, kb_bool_list, kb_bool_tuple, kb_int_bool, kb_int_int, kb_int_str, kb_int_list, kb_int_tuple, kb_str_bool, kb_str_int, kb_str_str, kb_str_list, kb_str_tuple, kb_list_bool, kb_list_int, kb_list_str, kb_list_list, kb_list_tuple, kb_tuple_bool, kb_tuple_int, kb_tuple_str, kb_tuple_list, kb_tuple_tuple, addP, mulP, ixP, slP, eqP, neP, isSeq, iterP, itemsP, no3, part3, sl3, raise3, brk3, cont3, M3.ltP, M3.leP, M3.gtP, M3.geP, c] using hx _ rfl
  rintro σ' rfl
  refine seq_by (fun σ' => ∃ s : Sop, σ' = [.val (.ref p), .val (.int room), .val (.lst (texts olds)), .val (.lst (texts news)), .val (.int k), .no, .no, .val (.str s.nm), .no]) (fun nx hx => ?_) ?_
  · simp [seq3, next3, ret3, retN3, ifs3, drop3, asg3, name3, tst3, and3, or3, not3, andV3, orV3, notV3, if3, v3, k3, op3, un3, nil3, cons3, call3, tup3, lst3, chain3, fn30, fn3, fnN30, fnN3, fnP30, i2, i2c, i1, isN3, notN3, eqS3, neS3, ixL3, ixT3, len3, all3, any3, abs3, max23, min23, isi3, isB3, truth3, start3, slot, flatT, scal, tyn, M3.isNon, lenT, truT, isiB, Option.bind, take3, kb_non_bool, kb_non_int, kb_non_str, kb_non_list, kb_non_tuple, kb_bool_bool, kb_bool_int, kb_bool_str, kb_bool_list, kb_bool_tuple, kb_int_bool, kb_int_int, kb_int_str, kb_int_list, kb_int_tuple, kb_str_bool, kb_str_int, kb_str_str, kb_str_list, kb_str_tuple, kb_list_bool, kb_list_int, kb_list_str, kb_list_list, kb_list_tuple, kb_tuple_bool, kb_tuple_int, kb_tuple_str, kb_tuple_list, kb_tuple_tuple, addP, mulP, ixP, slP, eqP, neP, isSeq, iterP, itemsP, no3, part3, sl3, raise3, brk3, cont3, M3.ltP, M3.leP, M3.gtP, M3.geP, sl5]
    intro r r0 r1
    refine ob_atI (Int.emod_nonneg _ (by decide)) (Int.lt_of_lt_of_le (Int.emod_lt_of_pos _ (by decide)) (by decide)) fun t ht => ?_
    simp at ht
    rcases ht with rfl | rfl | rfl | rfl | rfl
    · exact hx _ ⟨.plus, rfl⟩
    · exact hx _ ⟨.minus, rfl⟩
    · exact hx _ ⟨.times, rfl⟩
    · exact hx _ ⟨.least, rfl⟩
    · exact hx _ ⟨.most, rfl⟩
  rintro σ' ⟨s, rfl⟩
  simp [seq3, next3, ret3, retN3, ifs3, drop3, asg3, name3, tst3, and3, or3, not3, andV3, orV3, notV3, if3, v3, k3, op3, un3, nil3, cons3, call3, tup3, lst3, chain3, fn30, fn3, fnN30, fnN3, fnP30, i2, i2c, i1, isN3, notN3, eqS3, neS3, ixL3, ixT3, len3, all3, any3, abs3, max23, min23, isi3, isB3, truth3, start3, slot, flatT, scal, tyn, M3.isNon, lenT, truT, isiB, Option.bind, take3, kb_non_bool, kb_non_int, kb_non_str, kb_non_list, kb_non_tuple, kb_bool_bool, kb_bool_int, kb_bool_str, kb_bool_list, kb_bool_tuple, kb_int_bool, kb_int_int, kb_int_str, kb_int_list, kb_int_tuple, kb_str_bool, kb_str_int, kb_str_str, kb_str_list, kb_str_tuple, kb_list_bool, kb_list_int, kb_list_str, kb_list_list, kb_list_tuple, kb_tuple_bool, kb_tuple_int, kb_tuple_str, kb_tuple_list, kb_tuple_tuple, addP, mulP, ixP, slP, eqP, neP, isSeq, iterP, itemsP, no3, part3, sl3, raise3, brk3, cont3, M3.ltP, M3.leP, M3.gtP, M3.geP, fnP3]
  refine h.1 _ _ _ (by omega) fun t2 g2 d2 => ?_
  refine h.1 _ _ _ (by omega) fun t3 g3 d3 => ?_
  exact ⟨szl3, hq (.sum s t2 t3) ⟨g2, g3⟩ (by simp only [Wd.dp]; omega)⟩
theorem truth_step {C : Cs} {p : Addr} {olds news : List Str} {f n : Nat} (h : 1 ≤ n → VD C p olds news f n ∧ TD C p olds news f n) : TD C p olds news (f + 1) (n + 1) := by
  intro room Q X hr hq
  rw [Ltruth_succ]
  show LtruthB C p _ _ _ [.val (.ref p), .val (.int room), .val (.lst (texts olds)), .val (.lst (texts news)), .no, .no, .no]
  unfold VD TD at h
  generalize Lvalue C f = r1 at h ⊢
  generalize Ltruth C f = r2 at h ⊢
  unfold LtruthB
  refine seq_by (fun σ' => ∃ k : Int, 0 ≤ k ∧ k < 10 ∧ σ' = [.val (.ref p), .val (.int room), .val (.lst (texts olds)), .val (.lst (texts news)), .val (.int k), .no, .no]) (fun nx hx => ?_) ?_
  · simp [seq3, next3, ret3, retN3, ifs3, drop3, asg3, name3, tst3, and3, or3, not3, andV3, orV3, notV3, if3, v3, k3, op3, un3, nil3, cons3, call3, tup3, lst3, chain3, fn30, fn3, fnN30, fnN3, fnP30, i2, i2c, i1, isN3, notN3, eqS3, neS3, ixL3, ixT3, len3, all3, any3, abs3, max23, min23, isi3, isB3, truth3, start3, slot, flatT, scal, tyn, M3.isNon, lenT, truT, isiB, Option.bind, take3, kb_non_bool, kb_non_int, kb_non_str, kb_non_list, kb_non_tuple, kb_bool_bool, kb_bool_int, kb_bool_str, kb_bool_list, kb_bool_tuple, kb_int_bool, kb_int_int, kb_int_str, kb_int_list, kb_int_tuple, kb_str_bool, kb_str_int, kb_str_str, kb_str_list, kb_str_tuple, kb_list_bool, kb_list_int, kb_list_str, kb_list_list, kb_list_tuple, kb_tuple_bool, kb_tuple_int, kb_tuple_str, kb_tuple_list, kb_tuple_tuple, addP, mulP, ixP, slP, eqP, neP, isSeq, iterP, itemsP, no3, part3, sl3, raise3, brk3, cont3, M3.ltP, M3.leP, M3.gtP, M3.geP]
    exact fun r h0 h1 => hx _ ⟨r, h0, h1, rfl⟩
  rintro σ' ⟨k, k0, k1, rfl⟩
  refine seq_by (fun σ' => 2 ≤ room ∧ 1 ≤ k ∧ σ' = [.val (.ref p), .val (.int room), .val (.lst (texts olds)), .val (.lst (texts news)), .val (.int k), .no, .no]) (fun nx hx => ?_) ?_
  · have y : Q (.tup [.str "yes"]) := hq .yes trivial (by simp [Wd.dp])
    by_cases c1 : room < 2
    · simpa [seq3, next3, ret3, retN3, ifs3, drop3, asg3, name3, tst3, and3, or3, not3, andV3, orV3, notV3, if3, v3, k3, op3, un3, nil3, cons3, call3, tup3, lst3, chain3, fn30, fn3, fnN30, fnN3, fnP30, i2, i2c, i1, isN3, notN3, eqS3, neS3, ixL3, ixT3, len3, all3, any3, abs3, max23, min23, isi3, isB3, truth3, start3, slot, flatT, scal, tyn, M3.isNon, lenT, truT, isiB, Option.bind, take3, kb_non_bool, kb_non_int, kb_non_str, kb_non_list, kb_non_tuple, kb_bool_bool, kb_bool_int, kb_bool_str, kb_bool_list, kb_bool_tuple, kb_int_bool, kb_int_int, kb_int_str, kb_int_list, kb_int_tuple, kb_str_bool, kb_str_int, kb_str_str, kb_str_list, kb_str_tuple, kb_list_bool, kb_list_int, kb_list_str, kb_list_list, kb_list_tuple, kb_tuple_bool, kb_tuple_int, kb_tuple_str, kb_tuple_list, kb_tuple_tuple, addP, mulP, ixP, slP, eqP, neP, isSeq, iterP, itemsP, no3, part3, sl3, raise3, brk3, cont3, M3.ltP, M3.leP, M3.gtP, M3.geP, sl1, c1] using y
    · by_cases c2 : k = 0
      · simpa [seq3, next3, ret3, retN3, ifs3, drop3, asg3, name3, tst3, and3, or3, not3, andV3, orV3, notV3, if3, v3, k3, op3, un3, nil3, cons3, call3, tup3, lst3, chain3, fn30, fn3, fnN30, fnN3, fnP30, i2, i2c, i1, isN3, notN3, eqS3, neS3, ixL3, ixT3, len3, all3, any3, abs3, max23, min23, isi3, isB3, truth3, start3, slot, flatT, scal, tyn, M3.isNon, lenT, truT, isiB, Option.bind, take3, kb_non_bool, kb_non_int, kb_non_str, kb_non_list, kb_non_tuple, kb_bool_bool, kb_bool_int, kb_bool_str, kb_bool_list, kb_bool_tuple, kb_int_bool, kb_int_int, kb_int_str, kb_int_list, kb_int_tuple, kb_str_bool, kb_str_int, kb_str_str, kb_str_list, kb_str_tuple, kb_list_bool, kb_list_int, kb_list_str, kb_list_list, kb_list_tuple, kb_tuple_bool, kb_tuple_int, kb_tuple_str, kb_tuple_list, kb_tuple_tuple, addP, mulP, ixP, slP, eqP, neP, isSeq, iterP, itemsP, no3, part3, sl3, raise3, brk3, cont3, M3.ltP, M3.leP, M3.gtP, M3.geP, sl1, c1, c2] using y
      · simpa [seq3, next3, ret3, retN3, ifs3, drop3, asg3, name3, tst3, and3, or3, not3, andV3, orV3, notV3, if3, v3, k3, op3, un3, nil3, cons3, call3, tup3, lst3, chain3, fn30, fn3, fnN30, fnN3, fnP30, i2, i2c, i1, isN3, notN3, eqS3, neS3, ixL3, ixT3, len3, all3, any3, abs3, max23, min23, isi3, isB3, truth3, start3, slot, flatT, scal, tyn, M3.isNon, lenT, truT, isiB, Option.bind, take3, kb_non_bool, kb_non_int, kb_non_str, kb_non_list, kb_non_tuple, kb_bool_bool, kb_bool_int, kb_bool_str, kb_bool_list, kb_bool_tuple, kb_int_bool, kb_int_int, kb_int_str, kb_int_list, kb_int_tuple, kb_str_bool, kb_str_int, kb_str_str, kb_str_list, kb_str_tuple, kb_list_bool, kb_list_int, kb_list_str, kb_list_list, kb_list_tuple, kb_tuple_bool, kb_tuple_int, kb_tuple_str, kb_tuple_list, kb_tuple_tuple, addP, mulP, ixP, slP, eqP, neP, isSeq, iterP, itemsP, no3, part3, sl3, raise3, brk3, cont3, M3.ltP, M3.leP, M3.gtP, M3.geP, sl1, c1, c2] using hx _ ⟨by omega, by omega, rfl⟩
  rintro σ' ⟨r2', k1', rfl⟩
  have h := h (by omega)
  refine seq_by (fun σ' => σ' = [.val (.ref p), .val (.int room), .val (.lst (texts olds)), .val (.lst (texts news)), .val (.int k), .no, .no]) (fun nx hx => ?_) ?_
  · by_cases c : k < 6
    · simp [seq3, next3, ret3, retN3, ifs3, drop3, asg3, name3, tst3, and3, or3, not3, andV3, orV3, notV3, if3, v3, k3, op3, un3, nil3, cons3, call3, tup3, lst3, chain3, fn30, fn3, fnN30, fnN3, fnP30, i2, i2c, i1, isN3, notN3, eqS3, neS3, ixL3, ixT3, len3, all3, any3, abs3, max23, min23, isi3, isB3, truth3, start3, slot, flatT, scal, tyn, M3.isNon, lenT, truT, isiB, Option.bind, take3, kb_non_bool, kb_non_int, kb_non_str, kb_non_list, kb_non_tuple, kb_bool_bool, kb_bool_int, kb_bool_str, kb_bool_list, kb_bool_tuple, kb_int_bool, kb_int_int, kb_int_str, kb_int_list, kb_int_tuple, kb_str_bool, kb_str_int, kb_str_str, kb_str_list, kb_str_tuple, kb_list_bool, kb_list_int, kb_list_str, kb_list_list, kb_list_tuple, kb_tuple_bool, kb_tuple_int, kb_tuple_str, kb_tuple_list, kb_tuple_tuple, addP, mulP, ixP, slP, eqP, neP, isSeq, iterP, itemsP, no3, part3, sl3, raise3, brk3, cont3, M3.ltP, M3.leP, M3.gtP, M3.geP, fnP3, c]
      refine h.1 _ _ _ (by split <;> omega) fun t1 g1 d1 => ?_
      by_cases c5 : k = 5
      · subst c5
        simp [sl2]
        exact hq (.lacks t1) g1 (by simp only [Wd.dp]; omega)
      · simp [c5, sl2]
        have q0 : 0 ≤ k / 4 := by omega
        have q1 : k / 4 < 2 := by omega
        refine ⟨?_, ob_atI (r := k / 4) q0 (Int.lt_of_lt_of_le q1 (by decide)) fun t ht => ?_⟩
        · exact ⟨by decide, by decide⟩
        have gt : ∃ lt : Bool, t = .str (if lt then "below" else "is") := by
          simp at ht
          rcases ht with rfl | rfl
          · exact ⟨false, rfl⟩
          · exact ⟨true, rfl⟩
        obtain ⟨lt, rfl⟩ := gt
        refine h.1 _ _ _ (by split <;> omega) fun t2 g2 d2 => ?_
        exact ⟨szl3, hq (.cmp lt t1 t2) ⟨g1, g2⟩ (by simp only [Wd.dp]; omega)⟩
    · simpa [seq3, next3, ret3, retN3, ifs3, drop3, asg3, name3, tst3, and3, or3, not3, andV3, orV3, notV3, if3, v3, k3, op3, un3, nil3, cons3, call3, tup3, lst3, chain3, fn30, fn3, fnN30, fnN3, fnP30, i2, i2c, i1, isN3, notN3, eqS3, neS3, ixL3, ixT3, len3, all3, any3, abs3, max23, min23, isi3, isB3, truth3, start3, slot, flatT, scal, tyn, M3.isNon, lenT, truT, isiB, Option.bind, take3, kb_non_bool, kb_non_int, kb_non_str, kb_non_list, kb_non_tuple, kb_bool_bool, kb_bool_int, kb_bool_str, kb_bool_list, kb_bool_tuple, kb_int_bool, kb_int_int, kb_int_str, kb_int_list, kb_int_tuple, kb_str_bool, kb_str_int, kb_str_str, kb_str_list, kb_str_tuple, kb_list_bool, kb_list_int, kb_list_str, kb_list_list, kb_list_tuple, kb_tuple_bool, kb_tuple_int, kb_tuple_str, kb_tuple_list, kb_tuple_tuple, addP, mulP, ixP, slP, eqP, neP, isSeq, iterP, itemsP, no3, part3, sl3, raise3, brk3, cont3, M3.ltP, M3.leP, M3.gtP, M3.geP, c] using hx _ rfl
  rintro σ' rfl
  refine seq_by (fun σ' => σ' = [.val (.ref p), .val (.int room), .val (.lst (texts olds)), .val (.lst (texts news)), .val (.int k), .no, .no]) (fun nx hx => ?_) ?_
  · by_cases c : k = 6
    · subst c
      simp [seq3, next3, ret3, retN3, ifs3, drop3, asg3, name3, tst3, and3, or3, not3, andV3, orV3, notV3, if3, v3, k3, op3, un3, nil3, cons3, call3, tup3, lst3, chain3, fn30, fn3, fnN30, fnN3, fnP30, i2, i2c, i1, isN3, notN3, eqS3, neS3, ixL3, ixT3, len3, all3, any3, abs3, max23, min23, isi3, isB3, truth3, start3, slot, flatT, scal, tyn, M3.isNon, lenT, truT, isiB, Option.bind, take3, kb_non_bool, kb_non_int, kb_non_str, kb_non_list, kb_non_tuple, kb_bool_bool, kb_bool_int, kb_bool_str, kb_bool_list, kb_bool_tuple, kb_int_bool, kb_int_int, kb_int_str, kb_int_list, kb_int_tuple, kb_str_bool, kb_str_int, kb_str_str, kb_str_list, kb_str_tuple, kb_list_bool, kb_list_int, kb_list_str, kb_list_list, kb_list_tuple, kb_tuple_bool, kb_tuple_int, kb_tuple_str, kb_tuple_list, kb_tuple_tuple, addP, mulP, ixP, slP, eqP, neP, isSeq, iterP, itemsP, no3, part3, sl3, raise3, brk3, cont3, M3.ltP, M3.leP, M3.gtP, M3.geP, fnP3]
      refine h.2 _ _ _ (by omega) fun t1 g1 d1 => ?_
      exact ⟨sl2, hq (.no t1) g1 (by simp only [Wd.dp]; omega)⟩
    · simpa [seq3, next3, ret3, retN3, ifs3, drop3, asg3, name3, tst3, and3, or3, not3, andV3, orV3, notV3, if3, v3, k3, op3, un3, nil3, cons3, call3, tup3, lst3, chain3, fn30, fn3, fnN30, fnN3, fnP30, i2, i2c, i1, isN3, notN3, eqS3, neS3, ixL3, ixT3, len3, all3, any3, abs3, max23, min23, isi3, isB3, truth3, start3, slot, flatT, scal, tyn, M3.isNon, lenT, truT, isiB, Option.bind, take3, kb_non_bool, kb_non_int, kb_non_str, kb_non_list, kb_non_tuple, kb_bool_bool, kb_bool_int, kb_bool_str, kb_bool_list, kb_bool_tuple, kb_int_bool, kb_int_int, kb_int_str, kb_int_list, kb_int_tuple, kb_str_bool, kb_str_int, kb_str_str, kb_str_list, kb_str_tuple, kb_list_bool, kb_list_int, kb_list_str, kb_list_list, kb_list_tuple, kb_tuple_bool, kb_tuple_int, kb_tuple_str, kb_tuple_list, kb_tuple_tuple, addP, mulP, ixP, slP, eqP, neP, isSeq, iterP, itemsP, no3, part3, sl3, raise3, brk3, cont3, M3.ltP, M3.leP, M3.gtP, M3.geP, c] using hx _ rfl
  rintro σ' rfl
  refine seq_by (fun σ' => ∃ e : Bool, σ' = [.val (.ref p), .val (.int room), .val (.lst (texts olds)), .val (.lst (texts news)), .val (.int k), .no, .val (.str (if e then "either" else "both"))]) (fun nx hx => ?_) ?_
  · simp [seq3, next3, ret3, retN3, ifs3, drop3, asg3, name3, tst3, and3, or3, not3, andV3, orV3, notV3, if3, v3, k3, op3, un3, nil3, cons3, call3, tup3, lst3, chain3, fn30, fn3, fnN30, fnN3, fnP30, i2, i2c, i1, isN3, notN3, eqS3, neS3, ixL3, ixT3, len3, all3, any3, abs3, max23, min23, isi3, isB3, truth3, start3, slot, flatT, scal, tyn, M3.isNon, lenT, truT, isiB, Option.bind, take3, kb_non_bool, kb_non_int, kb_non_str, kb_non_list, kb_non_tuple, kb_bool_bool, kb_bool_int, kb_bool_str, kb_bool_list, kb_bool_tuple, kb_int_bool, kb_int_int, kb_int_str, kb_int_list, kb_int_tuple, kb_str_bool, kb_str_int, kb_str_str, kb_str_list, kb_str_tuple, kb_list_bool, kb_list_int, kb_list_str, kb_list_list, kb_list_tuple, kb_tuple_bool, kb_tuple_int, kb_tuple_str, kb_tuple_list, kb_tuple_tuple, addP, mulP, ixP, slP, eqP, neP, isSeq, iterP, itemsP, no3, part3, sl3, raise3, brk3, cont3, M3.ltP, M3.leP, M3.gtP, M3.geP, sl2]
    refine ob_atI (Int.emod_nonneg _ (by decide)) (Int.lt_of_lt_of_le (Int.emod_lt_of_pos _ (by decide)) (by decide)) fun t ht => ?_
    simp at ht
    rcases ht with rfl | rfl
    · exact hx _ ⟨false, rfl⟩
    · exact hx _ ⟨true, rfl⟩
  rintro σ' ⟨e, rfl⟩
  simp [seq3, next3, ret3, retN3, ifs3, drop3, asg3, name3, tst3, and3, or3, not3, andV3, orV3, notV3, if3, v3, k3, op3, un3, nil3, cons3, call3, tup3, lst3, chain3, fn30, fn3, fnN30, fnN3, fnP30, i2, i2c, i1, isN3, notN3, eqS3, neS3, ixL3, ixT3, len3, all3, any3, abs3, max23, min23, isi3, isB3, truth3, start3, slot, flatT, scal, tyn, M3.isNon, lenT, truT, isiB, Option.bind, take3, kb_non_bool, kb_non_int, kb_non_str, kb_non_list, kb_non_tuple, kb_bool_bool, kb_bool_int, kb_bool_str, kb_bool_list, kb_bool_tuple, kb_int_bool, kb_int_int, kb_int_str, kb_int_list, kb_int_tuple, kb_str_bool, kb_str_int, kb_str_str, kb_str_list, kb_str_tuple, kb_list_bool, kb_list_int, kb_list_str, kb_list_list, kb_list_tuple, kb_tuple_bool, kb_tuple_int, kb_tuple_str, kb_tuple_list, kb_tuple_tuple, addP, mulP, ixP, slP, eqP, neP, isSeq, iterP, itemsP, no3, part3, sl3, raise3, brk3, cont3, M3.ltP, M3.leP, M3.gtP, M3.geP, fnP3]
  refine h.2 _ _ _ (by omega) fun t2 g2 d2 => ?_
  refine h.2 _ _ _ (by omega) fun t3 g3 d3 => ?_
  exact ⟨szl3, hq (.jn e t2 t3) ⟨g2, g3⟩ (by simp only [Wd.dp]; omega)⟩
theorem draws_ok {C : Cs} {p : Addr} {olds news : List Str} (ho : nms olds) (hn : nms news) : ∀ n f : Nat, n + 1 ≤ f → VD C p olds news f (n + 1) ∧ TD C p olds news f (n + 1)
  | 0, f, h => by
    obtain ⟨g, rfl⟩ : ∃ g, f = g + 1 := ⟨f - 1, by omega⟩
    exact ⟨value_step ho hn fun z => absurd z (by decide), truth_step fun z => absurd z (by decide)⟩
  | n + 1, f, h => by
    obtain ⟨g, rfl⟩ : ∃ g, f = g + 1 := ⟨f - 1, by omega⟩
    have ih := draws_ok (C := C) (p := p) ho hn n g (by omega)
    exact ⟨value_step ho hn fun _ => ih, truth_step fun _ => ih⟩
end Law

set_option maxHeartbeats 400000
namespace Law
open PySem L2 M3
/-! ### the parts of a word -/
abbrev KW := Σ b, Wd b
def Wd.kids : {b : Bool} → Wd b → List KW
  | _, .cell _ => []
  | _, .col _ _ => []
  | _, .yes => []
  | _, .ch t a b => [⟨_, t⟩, ⟨_, a⟩, ⟨_, b⟩]
  | _, .sum _ a b => [⟨_, a⟩, ⟨_, b⟩]
  | _, .lacks a => [⟨_, a⟩]
  | _, .cmp _ a b => [⟨_, a⟩, ⟨_, b⟩]
  | _, .no a => [⟨_, a⟩]
  | _, .jn _ a b => [⟨_, a⟩, ⟨_, b⟩]
def Wd.sides : {b : Bool} → Wd b → List (Bool × Str)
  | _, .cell _ => []
  | _, .col s x => [(s, x)]
  | _, .yes => []
  | _, .ch t a b => t.sides ++ (a.sides ++ b.sides)
  | _, .sum _ a b => a.sides ++ b.sides
  | _, .lacks a => a.sides
  | _, .cmp _ a b => a.sides ++ b.sides
  | _, .no a => a.sides
  | _, .jn _ a b => a.sides ++ b.sides
def sideS (s : Bool) : Str := if s then "new" else "old"
def ktr (k : KW) : T := k.2.tr
structure Node {b : Bool} (w : Wd b) (hd : Str) : Prop where
  tr : w.tr = .tup (.str hd :: w.kids.map ktr)
  h1 : hd ≠ "cell"
  h2 : hd ≠ "old"
  h3 : hd ≠ "new"
  len : w.kids.length ≤ 3
  sd : w.sides = w.kids.flatMap fun k => k.2.sides
  dp : (w.kids.map fun k => k.2.dp).foldl max 0 + 1 = w.dp
  lt : ∀ k ∈ w.kids, k.2.dp < w.dp
  ok : ∀ os ns, w.ok os ns → ∀ k ∈ w.kids, k.2.ok os ns
inductive View {b : Bool} (w : Wd b) : Prop
  | cell (c : Option Int) (tr : w.tr = .tup [.str "cell", ofC c]) (sd : w.sides = []) (dp : w.dp = 1)
  | col (s : Bool) (x : Str) (tr : w.tr = .tup [.str (sideS s), .str x]) (sd : w.sides = [(s, x)]) (dp : w.dp = 1) (ok : ∀ os ns, w.ok os ns → x ∈ if s then ns else os)
  | node (hd : Str) (n : Node w hd)
theorem mx0 (a : Nat) : max 0 a = a := by omega
theorem view {b : Bool} (w : Wd b) : View w := by
  cases w with
  | cell c => exact .cell c rfl rfl rfl
  | col s x => exact .col s x rfl rfl rfl (fun os ns h => h)
  | ch t a b => exact .node "choose" ⟨rfl, by decide +kernel, by decide +kernel, by decide +kernel, by simp [Wd.kids], by simp [Wd.kids, Wd.sides], by simp [Wd.kids, Wd.dp, List.foldl, mx0] <;> omega, by simp [Wd.kids, Wd.dp] <;> omega, fun os ns h => by simpa [Wd.kids, Wd.ok] using h⟩
  | sum o a b => exact .node o.nm ⟨rfl, by cases o <;> decide +kernel, by cases o <;> decide +kernel, by cases o <;> decide +kernel, by simp [Wd.kids], by simp [Wd.kids, Wd.sides], by simp [Wd.kids, Wd.dp, List.foldl, mx0], by simp [Wd.kids, Wd.dp] <;> omega, fun os ns h => by simpa [Wd.kids, Wd.ok] using h⟩
  | yes => exact .node "yes" ⟨rfl, by decide +kernel, by decide +kernel, by decide +kernel, by simp [Wd.kids], by simp [Wd.kids, Wd.sides], by simp [Wd.kids, Wd.dp, List.foldl], by simp [Wd.kids], fun os ns h => by simp [Wd.kids]⟩
  | lacks a => exact .node "lacks" ⟨rfl, by decide +kernel, by decide +kernel, by decide +kernel, by simp [Wd.kids], by simp [Wd.kids, Wd.sides], by simp [Wd.kids, Wd.dp, List.foldl, mx0], by simp [Wd.kids, Wd.dp], fun os ns h => by simpa [Wd.kids, Wd.ok] using h⟩
  | cmp lt a b => exact .node (if lt then "below" else "is") ⟨rfl, by cases lt <;> decide +kernel, by cases lt <;> decide +kernel, by cases lt <;> decide +kernel, by simp [Wd.kids], by simp [Wd.kids, Wd.sides], by simp [Wd.kids, Wd.dp, List.foldl, mx0], by simp [Wd.kids, Wd.dp] <;> omega, fun os ns h => by simpa [Wd.kids, Wd.ok] using h⟩
  | no a => exact .node "not" ⟨rfl, by decide +kernel, by decide +kernel, by decide +kernel, by simp [Wd.kids], by simp [Wd.kids, Wd.sides], by simp [Wd.kids, Wd.dp, List.foldl, mx0], by simp [Wd.kids, Wd.dp], fun os ns h => by simpa [Wd.kids, Wd.ok] using h⟩
  | jn e a b => exact .node (if e then "either" else "both") ⟨rfl, by cases e <;> decide +kernel, by cases e <;> decide +kernel, by cases e <;> decide +kernel, by simp [Wd.kids], by simp [Wd.kids, Wd.sides], by simp [Wd.kids, Wd.dp, List.foldl, mx0], by simp [Wd.kids, Wd.dp] <;> omega, fun os ns h => by simpa [Wd.kids, Wd.ok] using h⟩
theorem dp_pos' {b : Bool} (w : Wd b) : 1 ≤ w.dp := dp_pos w
theorem flat_le {α β : Type} {f : α → List β} {k : Nat} : ∀ {xs : List α}, (∀ x ∈ xs, (f x).length ≤ k) → (xs.flatMap f).length ≤ xs.length * k
  | [], _ => by simp
  | x :: xs, h => by
    have h1 := h x (List.mem_cons_self ..)
    have h2 := flat_le (f := f) (xs := xs) fun y hy => h y (List.mem_cons_of_mem _ hy)
    simp only [List.flatMap_cons, List.length_append, List.length_cons]
    rw [Nat.add_mul]
    omega
theorem sides_len : ∀ (n : Nat) {b : Bool} (w : Wd b), w.dp ≤ n → w.sides.length ≤ 3 ^ n
  | 0, _, w, h => by have := dp_pos w; omega
  | n + 1, _, w, h => by
    have p : 1 ≤ 3 ^ (n + 1) := Nat.one_le_pow _ _ (by decide)
    cases view w with
    | cell c tr sd dp => rw [sd]; simp
    | col s x tr sd dp ok => rw [sd]; simpa using p
    | node hd z =>
      rw [z.sd]
      have := flat_le (f := fun k : KW => k.2.sides) (k := 3 ^ n) (xs := w.kids) fun k hk => sides_len n k.2 (by have := z.lt k hk; omega)
      have l := z.len
      have : w.kids.length * 3 ^ n ≤ 3 * 3 ^ n := Nat.mul_le_mul_right _ l
      rw [Nat.pow_succ]
      omega
theorem sides_ok : ∀ {b : Bool} (w : Wd b) {os ns : List Str}, w.ok os ns → ∀ p ∈ w.sides, p.2 ∈ if p.1 then ns else os
  | _, .cell c, _, _, _, p, hp => by simp [Wd.sides] at hp
  | _, .col s x, _, _, h, p, hp => by simp [Wd.sides] at hp; subst hp; exact h
  | _, .yes, _, _, _, p, hp => by simp [Wd.sides] at hp
  | _, .ch t a b, _, _, h, p, hp => by
    simp only [Wd.sides, List.mem_append] at hp
    rcases hp with hp | hp | hp
    · exact sides_ok t h.1 p hp
    · exact sides_ok a h.2.1 p hp
    · exact sides_ok b h.2.2 p hp
  | _, .sum _ a b, _, _, h, p, hp => by
    simp only [Wd.sides, List.mem_append] at hp
    exact hp.elim (sides_ok a h.1 p) (sides_ok b h.2 p)
  | _, .lacks a, _, _, h, p, hp => sides_ok a h p hp
  | _, .cmp _ a b, _, _, h, p, hp => by
    simp only [Wd.sides, List.mem_append] at hp
    exact hp.elim (sides_ok a h.1 p) (sides_ok b h.2 p)
  | _, .no a, _, _, h, p, hp => sides_ok a h p hp
  | _, .jn _ a b, _, _, h, p, hp => by
    simp only [Wd.sides, List.mem_append] at hp
    exact hp.elim (sides_ok a h.1 p) (sides_ok b h.2 p)
theorem comp_kids {α : Type} {i : Nat} {te : E3} {σ : List Sl} {X : X3} {f g : α → T} {Q : List T → Prop} : ∀ (ks : List α) (acc : List T), (∀ k ∈ ks, ∀ Q' : T → Prop, te (σ.set i (.val (f k))) Q' X = Q' (g k)) → acc.length + ks.length ≤ 100000 → comp3 (name3 i) yes3 te σ X Q (ks.map f) acc = Q (acc ++ ks.map g)
  | [], acc, _, _ => by simp [comp3]
  | d :: ds, acc, hd, hl => by
    have e1 := hd d (List.mem_cons_self ..)
    have e2 := comp_kids (i := i) (te := te) (σ := σ) (X := X) (f := f) (g := g) (Q := Q) ds (acc ++ [g d]) (fun x hx => hd x (List.mem_cons_of_mem _ hx)) (by simp at hl ⊢; omega)
    have e3 : acc.length < sizeLine := by
      have : sizeLine = 16777216 := by decide
      simp at hl; omega
    show (te (σ.set i (.val (f d))) (fun y => acc.length < sizeLine ∧ comp3 (name3 i) yes3 te σ X Q (ds.map f) (acc ++ [y])) X) = _
    rw [e1, e2]
    simp [e3]
/-! ### texts in order -/
theorem ltC_irr : ∀ a : List Nat, Spec.ltCps a a = false
  | [] => rfl
  | x :: a => by simp [Spec.ltCps, ltC_irr a]
theorem ltC_tri : ∀ a b : List Nat, Spec.ltCps a b = false → Spec.ltCps b a = false → a = b
  | [], [], _, _ => rfl
  | [], y :: b, h, _ => by simp [Spec.ltCps] at h
  | x :: a, [], _, h => by simp [Spec.ltCps] at h
  | x :: a, y :: b, h1, h2 => by
    simp only [Spec.ltCps, Bool.or_eq_false_iff, decide_eq_false_iff_not, Bool.and_eq_false_imp, beq_iff_eq] at h1 h2
    obtain rfl : x = y := by omega
    rw [ltC_tri a b (h1.2 rfl) (h2.2 rfl)]
theorem ltC_trans : ∀ a b c : List Nat, Spec.ltCps b a = false → Spec.ltCps c b = false → Spec.ltCps c a = false
  | [], _, [], _, _ => rfl
  | [], _, z :: c, _, _ => by simp [Spec.ltCps]
  | x :: a, [], c, h, _ => by simp [Spec.ltCps] at h
  | x :: a, y :: b, [], _, h => by simp [Spec.ltCps] at h
  | x :: a, y :: b, z :: c, h1, h2 => by
    simp only [Spec.ltCps, Bool.or_eq_false_iff, decide_eq_false_iff_not, Bool.and_eq_false_imp, beq_iff_eq] at h1 h2 ⊢
    refine ⟨by omega, fun e => ?_⟩
    obtain rfl : y = x := by omega
    exact ltC_trans a b c (h1.2 rfl) (h2.2 e)
def leS (a b : Str) : Prop := Spec.ltCps b.cps.toList a.cps.toList = false
theorem rising_pw : ∀ (p : Str) (l : List Str), PyProof.Rows.risingS p l = true → (p :: l).Pairwise leS
  | p, [], _ => by simp
  | p, x :: r, h => by
    simp only [PyProof.Rows.risingS, Bool.and_eq_true, Bool.not_eq_true'] at h
    have ih := rising_pw x r h.2
    refine List.pairwise_cons.mpr ⟨fun y hy => ?_, ih⟩
    rcases List.mem_cons.mp hy with e | hy
    · subst e; exact h.1
    · exact ltC_trans _ _ _ h.1 ((List.pairwise_cons.mp ih).1 y hy)
theorem sorted_pw : ∀ (l : List Str), PyProof.Rows.sortedS l = true → l.Pairwise leS
  | [], _ => .nil
  | x :: r, h => rising_pw x r h
theorem pw_uniq : ∀ (l m : List Str), l.Pairwise leS → m.Pairwise leS → l.Nodup → m.Nodup → (∀ x, x ∈ l ↔ x ∈ m) → l = m
  | [], [], _, _, _, _, _ => rfl
  | [], y :: m, _, _, _, _, h => by have := (h y).mpr (List.mem_cons_self ..); cases this
  | x :: l, [], _, _, _, _, h => by have := (h x).mp (List.mem_cons_self ..); cases this
  | x :: l, y :: m, hl, hm, dl, dm, h => by
    obtain ⟨l1, l2⟩ := List.pairwise_cons.mp hl
    obtain ⟨m1, m2⟩ := List.pairwise_cons.mp hm
    obtain ⟨d1, d2⟩ := List.nodup_cons.mp dl
    obtain ⟨e1, e2⟩ := List.nodup_cons.mp dm
    have exy : x = y := by
      rcases List.mem_cons.mp ((h x).mp (List.mem_cons_self ..)) with e | hx
      · exact e
      rcases List.mem_cons.mp ((h y).mpr (List.mem_cons_self ..)) with e | hy
      · exact e.symm
      have := ltC_tri _ _ (m1 x hx) (l1 y hy)
      have : x.cps = y.cps := Array.toList_inj.mp this
      cases x; cases y; cases this; rfl
    subst exy
    rw [pw_uniq l m l2 m2 d2 e2 fun z => ⟨fun hz => ((List.mem_cons.mp ((h z).mp (List.mem_cons_of_mem _ hz))).resolve_left fun e => d1 (e ▸ hz)), fun hz => ((List.mem_cons.mp ((h z).mpr (List.mem_cons_of_mem _ hz))).resolve_left fun e => e1 (e ▸ hz))⟩]
theorem nodup_le : ∀ (l m : List Str), l.Nodup → (∀ x ∈ l, x ∈ m) → l.length ≤ m.length
  | [], m, _, _ => Nat.zero_le _
  | x :: l, m, d, h => by
    obtain ⟨d1, d2⟩ := List.nodup_cons.mp d
    have hx := h x (List.mem_cons_self ..)
    have ih := nodup_le l (m.erase x) d2 fun y hy => (List.mem_erase_of_ne (fun e => d1 (by rw [← e]; exact hy))).mpr (h y (List.mem_cons_of_mem _ hy))
    rw [List.length_erase_of_mem hx] at ih
    have : 1 ≤ m.length := List.length_pos_of_mem hx
    simp only [List.length_cons]
    omega
theorem putS_mem {l : List Str} {k x : Str} : x ∈ putS l k ↔ x ∈ l ∨ x = k := by
  unfold putS
  split
  · rename_i h
    exact ⟨.inl, fun z => z.elim id fun e => by rw [e]; exact h⟩
  · simp [or_comm]
theorem putS_nd {l : List Str} {k : Str} (h : l.Nodup) : (putS l k).Nodup := by
  unfold putS
  split
  · exact h
  · rename_i n
    exact List.nodup_cons.mpr ⟨n, h⟩
theorem fold_mem : ∀ (xs l : List Str) (x : Str), x ∈ xs.foldl putS l ↔ x ∈ l ∨ x ∈ xs
  | [], l, x => by simp
  | y :: xs, l, x => by
    rw [List.foldl_cons, fold_mem xs, putS_mem, List.mem_cons, or_assoc]
theorem fold_nd : ∀ (xs l : List Str), l.Nodup → (xs.foldl putS l).Nodup
  | [], l, h => h
  | y :: xs, l, h => fold_nd xs _ (putS_nd h)
theorem setOf_mem {xs : List Str} {x : Str} : x ∈ setOf xs ↔ x ∈ xs := by
  unfold setOf
  rw [fold_mem]
  simp
theorem setOf_nd {xs : List Str} : (setOf xs).Nodup := fold_nd xs [] List.nodup_nil
/-- the columns of one side, in order, each once -/
structure Cols {b : Bool} (w : Wd b) (s : Bool) (ys : List Str) : Prop where
  so : PyProof.Rows.sortedS ys = true
  nd : ys.Nodup
  mem : ∀ x, x ∈ ys ↔ (s, x) ∈ w.sides
theorem Cols.eq {b : Bool} {w : Wd b} {s : Bool} {ys zs : List Str} (h : Cols w s ys) (k : Cols w s zs) : ys = zs :=
  pw_uniq _ _ (sorted_pw _ h.so) (sorted_pw _ k.so) h.nd k.nd fun x => (h.mem x).trans (k.mem x).symm
theorem Cols.le {b : Bool} {w : Wd b} {s : Bool} {ys os ns : List Str} (h : Cols w s ys) (hw : w.ok os ns) (mo : nms os) (mn : nms ns) : ys.length ≤ 10 := by
  refine Nat.le_trans (nodup_le ys (if s then ns else os) h.nd fun x hx => sides_ok w hw (s, x) ((h.mem x).mp hx)) ?_
  cases s
  · exact mo.1
  · exact mn.1
end Law

set_option maxHeartbeats 400000
namespace Law
open PySem L2 M3
theorem in_on (s : Str) (Q : T → Prop) : inP false (.str s) (.tup [.str "old", .str "new"]) Q = Q (.bl (decide (s = "old" ∨ s = "new"))) := by
  have := in_texts (neg := false) s ["old", "new"] Q
  simpa [texts] using this
theorem in_con (s : Str) (Q : T → Prop) : inP false (.str s) (.tup [.str "cell", .str "old", .str "new"]) Q = Q (.bl (decide (s = "cell" ∨ s = "old" ∨ s = "new"))) := by
  have := in_texts (neg := false) s ["cell", "old", "new"] Q
  simpa [texts] using this
@[simp] theorem sideS_on (s : Bool) : decide (sideS s = "old" ∨ sideS s = "new") = true := by cases s <;> decide +kernel
@[simp] theorem sideS_con (s : Bool) : decide (sideS s = "cell" ∨ sideS s = "old" ∨ sideS s = "new") = true := by cases s <;> decide +kernel
theorem sideS_cell (s : Bool) : sideS s ≠ "cell" := by cases s <;> decide +kernel
theorem sideS_inj (s r : Bool) : sideS s = sideS r ↔ s = r := by cases s <;> cases r <;> decide +kernel
def prB (p : Bool × Str) : T := .tup [.str (sideS p.1), .str p.2]
theorem flat_kids {r : F3} {a b c d e : Sl} {X : X3} {Q : List T → Prop} : ∀ (ks : List KW) (acc : List T), (∀ k ∈ ks, ∀ (Q : T → Prop) (X : X3), r [ktr k] Q X = Q (.lst (k.2.sides.map prB))) → acc.length + (ks.flatMap fun k => k.2.sides).length ≤ 100000 →
    flatC (iterP (fn30 1 r (cons3 (v3 3) nil3) [])) 3 [a, b, c, d, e] X Q (ks.map ktr) acc = Q (acc ++ (ks.flatMap fun k => k.2.sides).map prB)
  | [], acc, _, _ => by simp [flatC]
  | x :: xs, acc, h, hl => by
    simp only [List.flatMap_cons, List.length_append] at hl
    have e1 := h x (List.mem_cons_self ..)
    have ih := flat_kids (r := r) (a := a) (b := b) (c := c) (d := d) (e := e) (X := X) (Q := Q) xs (acc ++ x.2.sides.map prB) (fun y hy => h y (List.mem_cons_of_mem _ hy)) (by simp only [List.length_append, List.length_map]; omega)
    have hs : acc.length + x.2.sides.length ≤ sizeLine := sl_big (by omega)
    simp only [List.map_cons, flatC, iterP, fn30, cons3, nil3, v3, slot, List.set_cons_succ, List.set_cons_zero, List.getElem?_cons_succ, List.getElem?_cons_zero, ob_some, List.append_nil, List.length_cons, List.length_nil, e1, itemsP, List.length_map, hs, true_and, ih, List.flatMap_cons, List.map_append, List.append_assoc]
theorem sides_in_eq (C : Cs) : ∀ (f : Nat) {b : Bool} (w : Wd b) (Q : T → Prop) (X : X3), w.dp ≤ f → w.dp ≤ 8 → sides_in C f [w.tr] Q X = Q (.lst (w.sides.map prB))
  | 0, _, w, Q, X, h, _ => by have := dp_pos w; omega
  | g + 1, _, w, Q, X, hf, h8 => by
    have sl := sides_len _ w (Nat.le_refl _)
    have ih := fun {b : Bool} (k : Wd b) Q X (h1 : k.dp ≤ g) (h2 : k.dp ≤ 8) => sides_in_eq C g k Q X h1 h2
    rw [sides_in_succ]
    show sides_inB C _ _ [Sl.val w.tr, .no, .no, .no, .no] = _
    generalize sides_in C g = r at ih
    cases view w with
    | cell c tr sd dp =>
      have z : ¬ (("cell" : Str) = "old" ∨ ("cell" : Str) = "new") := by decide
      simp [sides_inB, seq3, next3, ret3, retN3, ifs3, drop3, asg3, name3, tst3, and3, or3, not3, andV3, orV3, notV3, if3, v3, k3, op3, un3, nil3, cons3, call3, tup3, lst3, chain3, fn30, fn3, fnN30, fnN3, fnP30, i2, i2c, i1, isN3, notN3, eqS3, neS3, ixL3, ixT3, len3, all3, any3, abs3, max23, min23, isi3, isB3, truth3, start3, slot, flatT, scal, tyn, M3.isNon, lenT, truT, isiB, Option.bind, take3, kb_non_bool, kb_non_int, kb_non_str, kb_non_list, kb_non_tuple, kb_bool_bool, kb_bool_int, kb_bool_str, kb_bool_list, kb_bool_tuple, kb_int_bool, kb_int_int, kb_int_str, kb_int_list, kb_int_tuple, kb_str_bool, kb_str_int, kb_str_str, kb_str_list, kb_str_tuple, kb_list_bool, kb_list_int, kb_list_str, kb_list_list, kb_list_tuple, kb_tuple_bool, kb_tuple_int, kb_tuple_str, kb_tuple_list, kb_tuple_tuple, addP, mulP, ixP, slP, eqP, neP, isSeq, iterP, itemsP, no3, part3, sl3, raise3, brk3, cont3, M3.ltP, M3.leP, M3.gtP, M3.geP, sl2, gstar3, gcons3, gnil3, asT, in_on, z, sd, tr]
    | col s x tr sd dp ok =>
      cases s <;> simp [sides_inB, seq3, next3, ret3, retN3, ifs3, drop3, asg3, name3, tst3, and3, or3, not3, andV3, orV3, notV3, if3, v3, k3, op3, un3, nil3, cons3, call3, tup3, lst3, chain3, fn30, fn3, fnN30, fnN3, fnP30, i2, i2c, i1, isN3, notN3, eqS3, neS3, ixL3, ixT3, len3, all3, any3, abs3, max23, min23, isi3, isB3, truth3, start3, slot, flatT, scal, tyn, M3.isNon, lenT, truT, isiB, Option.bind, take3, kb_non_bool, kb_non_int, kb_non_str, kb_non_list, kb_non_tuple, kb_bool_bool, kb_bool_int, kb_bool_str, kb_bool_list, kb_bool_tuple, kb_int_bool, kb_int_int, kb_int_str, kb_int_list, kb_int_tuple, kb_str_bool, kb_str_int, kb_str_str, kb_str_list, kb_str_tuple, kb_list_bool, kb_list_int, kb_list_str, kb_list_list, kb_list_tuple, kb_tuple_bool, kb_tuple_int, kb_tuple_str, kb_tuple_list, kb_tuple_tuple, addP, mulP, ixP, slP, eqP, neP, isSeq, iterP, itemsP, no3, part3, sl3, raise3, brk3, cont3, M3.ltP, M3.leP, M3.gtP, M3.geP, sl1, sl2, gstar3, gcons3, gnil3, asT, in_on, sd, tr, prB, sideS]
    | node hd z =>
      have p8 : 3 ^ w.dp ≤ 3 ^ 8 := Nat.pow_le_pow_right (by decide) h8
      have e2 := flat_kids (r := r) (a := .val w.tr) (b := .val (.str hd)) (c := .val (.lst (w.kids.map ktr))) (d := .no) (e := .no) (X := X) (Q := fun ys => Q (.lst ys)) w.kids [] (fun k hk Q X => by
        have := z.lt k hk
        exact ih k.2 Q X (by omega) (by omega)) (by rw [← z.sd]; simp only [List.length_nil]; omega)
      rw [z.tr] at e2 ⊢
      rw [z.sd]
      have h1 := z.h1
      have h2 := z.h2
      have h3 := z.h3
      generalize w.kids.map ktr = xs at e2 ⊢
      simp [sides_inB, seq3, next3, ret3, retN3, ifs3, drop3, asg3, name3, tst3, and3, or3, not3, andV3, orV3, notV3, if3, v3, k3, op3, un3, nil3, cons3, call3, tup3, lst3, chain3, fn30, fn3, fnN30, fnN3, fnP30, i2, i2c, i1, isN3, notN3, eqS3, neS3, ixL3, ixT3, len3, all3, any3, abs3, max23, min23, isi3, isB3, truth3, start3, slot, flatT, scal, tyn, M3.isNon, lenT, truT, isiB, Option.bind, take3, kb_non_bool, kb_non_int, kb_non_str, kb_non_list, kb_non_tuple, kb_bool_bool, kb_bool_int, kb_bool_str, kb_bool_list, kb_bool_tuple, kb_int_bool, kb_int_int, kb_int_str, kb_int_list, kb_int_tuple, kb_str_bool, kb_str_int, kb_str_str, kb_str_list, kb_str_tuple, kb_list_bool, kb_list_int, kb_list_str, kb_list_list, kb_list_tuple, kb_tuple_bool, kb_tuple_int, kb_tuple_str, kb_tuple_list, kb_tuple_tuple, addP, mulP, ixP, slP, eqP, neP, isSeq, iterP, itemsP, no3, part3, sl3, raise3, brk3, cont3, M3.ltP, M3.leP, M3.gtP, M3.geP, sl2, gstar3, gcons3, gnil3, asT, in_on, h1, h2, h3, lcF3, noOwn, wipe3]
      simpa using e2
theorem intsT_map {α : Type} (f : α → Int) : ∀ ks : List α, intsT (ks.map fun k => T.int (f k)) = some (ks.map f)
  | [] => rfl
  | k :: ks => by
    show (intsT (ks.map fun k => T.int (f k))).map (f k :: ·) = _
    rw [intsT_map f ks]
    rfl
theorem fold_int : ∀ (l : List Nat) (a : Nat), (l.map fun n : Nat => (n : Int)).foldl max (a : Int) = ((l.foldl max a : Nat) : Int)
  | [], a => rfl
  | x :: l, a => by
    have e : max (a : Int) (x : Int) = ((max a x : Nat) : Int) := by omega
    show (l.map fun n : Nat => (n : Int)).foldl max (max (a : Int) (x : Int)) = _
    rw [e]
    exact fold_int l (max a x)
theorem max_kids (ks : List KW) (Q : T → Prop) : maxDf3 [.lst (ks.map fun k => .int (k.2.dp : Int))] [.int 0] Q = Q (.int (((ks.map fun k => k.2.dp).foldl max 0 : Nat) : Int)) := by
  have e := intsT_map (fun k : KW => (k.2.dp : Int)) ks
  unfold maxDf3
  simp only [one_1, ob_some, asL_lst, e]
  cases ks with
  | nil => rfl
  | cons k ks =>
    have e2 := fold_int (ks.map fun k => k.2.dp) k.2.dp
    simp only [List.map_map] at e2
    simp only [List.map_cons, List.foldl_cons]
    have e3 : max 0 k.2.dp = k.2.dp := by omega
    rw [e3, ← e2]
    rfl
theorem deep_eq (C : Cs) : ∀ (f : Nat) {b : Bool} (w : Wd b) (Q : T → Prop) (X : X3), w.dp ≤ f → deep C f [w.tr] Q X = Q (.int w.dp)
  | 0, _, w, Q, X, h => by have := dp_pos w; omega
  | g + 1, _, w, Q, X, hf => by
    have ih := fun {b : Bool} (k : Wd b) Q X (h1 : k.dp ≤ g) => deep_eq C g k Q X h1
    rw [deep_succ]
    show deepB C _ _ [Sl.val w.tr, .no, .no, .no] = _
    generalize deep C g = r at ih
    have sl3' : 3 ≤ sizeLine := by decide
    cases view w with
    | cell c tr sd dp => simp [deepB, seq3, next3, ret3, retN3, ifs3, drop3, asg3, name3, tst3, and3, or3, not3, andV3, orV3, notV3, if3, v3, k3, op3, un3, nil3, cons3, call3, tup3, lst3, chain3, fn30, fn3, fnN30, fnN3, fnP30, i2, i2c, i1, isN3, notN3, eqS3, neS3, ixL3, ixT3, len3, all3, any3, abs3, max23, min23, isi3, isB3, truth3, start3, slot, flatT, scal, tyn, M3.isNon, lenT, truT, isiB, Option.bind, take3, kb_non_bool, kb_non_int, kb_non_str, kb_non_list, kb_non_tuple, kb_bool_bool, kb_bool_int, kb_bool_str, kb_bool_list, kb_bool_tuple, kb_int_bool, kb_int_int, kb_int_str, kb_int_list, kb_int_tuple, kb_str_bool, kb_str_int, kb_str_str, kb_str_list, kb_str_tuple, kb_list_bool, kb_list_int, kb_list_str, kb_list_list, kb_list_tuple, kb_tuple_bool, kb_tuple_int, kb_tuple_str, kb_tuple_list, kb_tuple_tuple, addP, mulP, ixP, slP, eqP, neP, isSeq, iterP, itemsP, no3, part3, sl3, raise3, brk3, cont3, M3.ltP, M3.leP, M3.gtP, M3.geP, sl2, sl3', gstar3, gcons3, gnil3, asT, in_con, tr, dp]
    | col s x tr sd dp ok => cases s <;> simp [deepB, seq3, next3, ret3, retN3, ifs3, drop3, asg3, name3, tst3, and3, or3, not3, andV3, orV3, notV3, if3, v3, k3, op3, un3, nil3, cons3, call3, tup3, lst3, chain3, fn30, fn3, fnN30, fnN3, fnP30, i2, i2c, i1, isN3, notN3, eqS3, neS3, ixL3, ixT3, len3, all3, any3, abs3, max23, min23, isi3, isB3, truth3, start3, slot, flatT, scal, tyn, M3.isNon, lenT, truT, isiB, Option.bind, take3, kb_non_bool, kb_non_int, kb_non_str, kb_non_list, kb_non_tuple, kb_bool_bool, kb_bool_int, kb_bool_str, kb_bool_list, kb_bool_tuple, kb_int_bool, kb_int_int, kb_int_str, kb_int_list, kb_int_tuple, kb_str_bool, kb_str_int, kb_str_str, kb_str_list, kb_str_tuple, kb_list_bool, kb_list_int, kb_list_str, kb_list_list, kb_list_tuple, kb_tuple_bool, kb_tuple_int, kb_tuple_str, kb_tuple_list, kb_tuple_tuple, addP, mulP, ixP, slP, eqP, neP, isSeq, iterP, itemsP, no3, part3, sl3, raise3, brk3, cont3, M3.ltP, M3.leP, M3.gtP, M3.geP, sl2, sl3', gstar3, gcons3, gnil3, asT, in_con, tr, dp, sideS]
    | node hd z =>
      have cm := fun (Q : List T → Prop) => comp_kids (i := 3) (te := fn30 1 r (cons3 (v3 3) nil3) []) (σ := [.val w.tr, .val (.str hd), .val (.lst (w.kids.map ktr)), .no]) (X := X) (f := ktr) (g := fun k : KW => T.int (k.2.dp : Int)) (Q := Q) w.kids [] (fun k hk Q' => by
        have := z.lt k hk
        have e := fun Q X => ih k.2 Q X (by omega)
        simp [seq3, next3, ret3, retN3, ifs3, drop3, asg3, name3, tst3, and3, or3, not3, andV3, orV3, notV3, if3, v3, k3, op3, un3, nil3, cons3, call3, tup3, lst3, chain3, fn30, fn3, fnN30, fnN3, fnP30, i2, i2c, i1, isN3, notN3, eqS3, neS3, ixL3, ixT3, len3, all3, any3, abs3, max23, min23, isi3, isB3, truth3, start3, slot, flatT, scal, tyn, M3.isNon, lenT, truT, isiB, Option.bind, take3, kb_non_bool, kb_non_int, kb_non_str, kb_non_list, kb_non_tuple, kb_bool_bool, kb_bool_int, kb_bool_str, kb_bool_list, kb_bool_tuple, kb_int_bool, kb_int_int, kb_int_str, kb_int_list, kb_int_tuple, kb_str_bool, kb_str_int, kb_str_str, kb_str_list, kb_str_tuple, kb_list_bool, kb_list_int, kb_list_str, kb_list_list, kb_list_tuple, kb_tuple_bool, kb_tuple_int, kb_tuple_str, kb_tuple_list, kb_tuple_tuple, addP, mulP, ixP, slP, eqP, neP, isSeq, iterP, itemsP, no3, part3, sl3, raise3, brk3, cont3, M3.ltP, M3.leP, M3.gtP, M3.geP, ktr, e]) (by have := z.len; simp only [List.length_nil]; omega)
      have mk := max_kids w.kids
      rw [z.tr] at cm ⊢
      have h1 := z.h1
      have h2 := z.h2
      have h3 := z.h3
      have dp := z.dp
      generalize w.kids.map ktr = xs at cm ⊢
      simp [deepB, seq3, next3, ret3, retN3, ifs3, drop3, asg3, name3, tst3, and3, or3, not3, andV3, orV3, notV3, if3, v3, k3, op3, un3, nil3, cons3, call3, tup3, lst3, chain3, fn30, fn3, fnN30, fnN3, fnP30, i2, i2c, i1, isN3, notN3, eqS3, neS3, ixL3, ixT3, len3, all3, any3, abs3, max23, min23, isi3, isB3, truth3, start3, slot, flatT, scal, tyn, M3.isNon, lenT, truT, isiB, Option.bind, take3, kb_non_bool, kb_non_int, kb_non_str, kb_non_list, kb_non_tuple, kb_bool_bool, kb_bool_int, kb_bool_str, kb_bool_list, kb_bool_tuple, kb_int_bool, kb_int_int, kb_int_str, kb_int_list, kb_int_tuple, kb_str_bool, kb_str_int, kb_str_str, kb_str_list, kb_str_tuple, kb_list_bool, kb_list_int, kb_list_str, kb_list_list, kb_list_tuple, kb_tuple_bool, kb_tuple_int, kb_tuple_str, kb_tuple_list, kb_tuple_tuple, addP, mulP, ixP, slP, eqP, neP, isSeq, iterP, itemsP, no3, part3, sl3, raise3, brk3, cont3, M3.ltP, M3.leP, M3.gtP, M3.geP, sl2, sl3', gstar3, gcons3, gnil3, asT, in_con, h1, h2, h3, lc3, noOwn, wipe3, callK3, cm, mk]
      rw [← dp]
      have : (1 : Int) + (((w.kids.map fun k => k.2.dp).foldl max 0 : Nat) : Int) = (((w.kids.map fun k => k.2.dp).foldl max 0 + 1 : Nat) : Int) := by omega
      rw [this]
end Law

set_option maxHeartbeats 400000
namespace Law
open PySem L2 M3
theorem cut1 {α : Type} (x : α) (xs : List α) : cut (x :: xs) (some 1) none = xs := by
  unfold cut
  have e1 : HT.sIx (x :: xs).length 0 (some 1) = 1 := by simp [HT.sIx]
  have e2 : HT.sIx (x :: xs).length (x :: xs).length none = (x :: xs).length := rfl
  rw [e1, e2]
  simp
theorem iter_slot {i : Nat} {σ : List Sl} {xs : List T} {Q : List T → Prop} {X : X3} (h : σ[i]? = some (.val (.lst xs))) (q : Q xs) : iterP (v3 i) σ Q X := by
  simp [iterP, v3, slot, h, itemsP]
  exact q
theorem szl3' : 3 ≤ sizeLine := by decide
theorem depth_loop {C : Cs} {r : F3} {N : N3} {w : Sl} : ∀ (ks : List KW) (a : Nat) (s : Sl), (∀ k ∈ ks, ∀ (Q : T → Prop) (X : X3), Q (.int (k.2.dp : Int)) → r [ktr k] Q X) → (∀ s, N.nx [w, .val (.int (((ks.map fun k => k.2.dp).foldl max a : Nat) : Int)), s]) →
    loop3 (name3 2) (Ldepth_3b C r) N (ks.map ktr) [w, .val (.int (a : Int)), s]
  | [], a, s, _, h => h s
  | k :: ks, a, s, hr, h => by
    have ih := depth_loop (C := C) (r := r) (N := N) (w := w) ks (max a k.2.dp) (.val (ktr k)) (fun x hx => hr x (List.mem_cons_of_mem _ hx)) (by simpa using h)
    have e : (if (a : Int) < (k.2.dp : Int) then (k.2.dp : Int) else (a : Int)) = ((max a k.2.dp : Nat) : Int) := by split <;> omega
    have e1 := hr k (List.mem_cons_self ..)
    generalize hn : loop3 (name3 2) (Ldepth_3b C r) N (ks.map ktr) = nx at ih
    show Ldepth_3b C r { nx := loop3 (name3 2) (Ldepth_3b C r) N (ks.map ktr), ct := loop3 (name3 2) (Ldepth_3b C r) N (ks.map ktr), bk := N.nx, rt := N.rt, xn := N.xn } [w, .val (.int (a : Int)), .val (ktr k)]
    rw [hn]
    simp [Ldepth_3b, Ldepth_3b_1, seq3, next3, ret3, retN3, ifs3, drop3, asg3, name3, tst3, and3, or3, not3, andV3, orV3, notV3, if3, v3, k3, op3, un3, nil3, cons3, call3, tup3, lst3, chain3, fn30, fn3, fnN30, fnN3, fnP30, i2, i2c, i1, isN3, notN3, eqS3, neS3, ixL3, ixT3, len3, all3, any3, abs3, max23, min23, isi3, isB3, truth3, start3, slot, flatT, scal, tyn, M3.isNon, lenT, truT, isiB, Option.bind, take3, kb_non_bool, kb_non_int, kb_non_str, kb_non_list, kb_non_tuple, kb_bool_bool, kb_bool_int, kb_bool_str, kb_bool_list, kb_bool_tuple, kb_int_bool, kb_int_int, kb_int_str, kb_int_list, kb_int_tuple, kb_str_bool, kb_str_int, kb_str_str, kb_str_list, kb_str_tuple, kb_list_bool, kb_list_int, kb_list_str, kb_list_list, kb_list_tuple, kb_tuple_bool, kb_tuple_int, kb_tuple_str, kb_tuple_list, kb_tuple_tuple, addP, mulP, ixP, slP, eqP, neP, isSeq, iterP, itemsP, no3, part3, sl3, raise3, brk3, cont3, M3.ltP, M3.leP, M3.gtP, M3.geP]
    refine e1 _ _ ?_
    show nx [w, .val (.int (if (a : Int) < (k.2.dp : Int) then (k.2.dp : Int) else (a : Int))), .val (ktr k)]
    rw [e]
    exact ih
theorem depth_ok (C : Cs) : ∀ (f : Nat) {b : Bool} (w : Wd b) (Q : T → Prop) (X : X3), w.dp ≤ f → Q (.int (w.dp : Int)) → Ldepth C f [w.tr] Q X
  | 0, _, w, Q, X, h, _ => by have := dp_pos w; omega
  | g + 1, _, w, Q, X, hf, hq => by
    have ih := fun {b : Bool} (k : Wd b) Q X (h1 : k.dp ≤ g) => depth_ok C g k Q X h1
    rw [Ldepth_succ]
    show LdepthB C _ _ [Sl.val w.tr, .no, .no]
    generalize Ldepth C g = r at ih
    cases view w with
    | cell c tr sd dp => rw [dp] at hq; simpa [LdepthB, Ldepth_1, Ldepth_1t_1, seq3, next3, ret3, retN3, ifs3, drop3, asg3, name3, tst3, and3, or3, not3, andV3, orV3, notV3, if3, v3, k3, op3, un3, nil3, cons3, call3, tup3, lst3, chain3, fn30, fn3, fnN30, fnN3, fnP30, i2, i2c, i1, isN3, notN3, eqS3, neS3, ixL3, ixT3, len3, all3, any3, abs3, max23, min23, isi3, isB3, truth3, start3, slot, flatT, scal, tyn, M3.isNon, lenT, truT, isiB, Option.bind, take3, kb_non_bool, kb_non_int, kb_non_str, kb_non_list, kb_non_tuple, kb_bool_bool, kb_bool_int, kb_bool_str, kb_bool_list, kb_bool_tuple, kb_int_bool, kb_int_int, kb_int_str, kb_int_list, kb_int_tuple, kb_str_bool, kb_str_int, kb_str_str, kb_str_list, kb_str_tuple, kb_list_bool, kb_list_int, kb_list_str, kb_list_list, kb_list_tuple, kb_tuple_bool, kb_tuple_int, kb_tuple_str, kb_tuple_list, kb_tuple_tuple, addP, mulP, ixP, slP, eqP, neP, isSeq, iterP, itemsP, no3, part3, sl3, raise3, brk3, cont3, M3.ltP, M3.leP, M3.gtP, M3.geP, szl3', in_con, tr] using hq
    | col s x tr sd dp ok => rw [dp] at hq; cases s <;> simpa [LdepthB, Ldepth_1, Ldepth_1t_1, seq3, next3, ret3, retN3, ifs3, drop3, asg3, name3, tst3, and3, or3, not3, andV3, orV3, notV3, if3, v3, k3, op3, un3, nil3, cons3, call3, tup3, lst3, chain3, fn30, fn3, fnN30, fnN3, fnP30, i2, i2c, i1, isN3, notN3, eqS3, neS3, ixL3, ixT3, len3, all3, any3, abs3, max23, min23, isi3, isB3, truth3, start3, slot, flatT, scal, tyn, M3.isNon, lenT, truT, isiB, Option.bind, take3, kb_non_bool, kb_non_int, kb_non_str, kb_non_list, kb_non_tuple, kb_bool_bool, kb_bool_int, kb_bool_str, kb_bool_list, kb_bool_tuple, kb_int_bool, kb_int_int, kb_int_str, kb_int_list, kb_int_tuple, kb_str_bool, kb_str_int, kb_str_str, kb_str_list, kb_str_tuple, kb_list_bool, kb_list_int, kb_list_str, kb_list_list, kb_list_tuple, kb_tuple_bool, kb_tuple_int, kb_tuple_str, kb_tuple_list, kb_tuple_tuple, addP, mulP, ixP, slP, eqP, neP, isSeq, iterP, itemsP, no3, part3, sl3, raise3, brk3, cont3, M3.ltP, M3.leP, M3.gtP, M3.geP, szl3', in_con, tr, sideS] using hq
    | node hd z =>
      have h1 := z.h1
      have h2 := z.h2
      have h3 := z.h3
      unfold LdepthB
      refine seq_by (fun σ' => σ' = [.val w.tr, .no, .no]) (fun nx hx => ?_) ?_
      · have := hx _ rfl
        rw [z.tr] at this ⊢
        generalize w.kids.map ktr = xs at this ⊢
        simpa [Ldepth_1, seq3, next3, ret3, retN3, ifs3, drop3, asg3, name3, tst3, and3, or3, not3, andV3, orV3, notV3, if3, v3, k3, op3, un3, nil3, cons3, call3, tup3, lst3, chain3, fn30, fn3, fnN30, fnN3, fnP30, i2, i2c, i1, isN3, notN3, eqS3, neS3, ixL3, ixT3, len3, all3, any3, abs3, max23, min23, isi3, isB3, truth3, start3, slot, flatT, scal, tyn, M3.isNon, lenT, truT, isiB, Option.bind, take3, kb_non_bool, kb_non_int, kb_non_str, kb_non_list, kb_non_tuple, kb_bool_bool, kb_bool_int, kb_bool_str, kb_bool_list, kb_bool_tuple, kb_int_bool, kb_int_int, kb_int_str, kb_int_list, kb_int_tuple, kb_str_bool, kb_str_int, kb_str_str, kb_str_list, kb_str_tuple, kb_list_bool, kb_list_int, kb_list_str, kb_list_list, kb_list_tuple, kb_tuple_bool, kb_tuple_int, kb_tuple_str, kb_tuple_list, kb_tuple_tuple, addP, mulP, ixP, slP, eqP, neP, isSeq, iterP, itemsP, no3, part3, sl3, raise3, brk3, cont3, M3.ltP, M3.leP, M3.gtP, M3.geP, in_con, szl3', h1, h2, h3] using this
      rintro σ' rfl
      refine seq_by (fun σ' => σ' = [.val w.tr, .val (.int 0), .no]) (fun nx hx => ?_) ?_
      · simpa [Ldepth_2, seq3, next3, ret3, retN3, ifs3, drop3, asg3, name3, tst3, and3, or3, not3, andV3, orV3, notV3, if3, v3, k3, op3, un3, nil3, cons3, call3, tup3, lst3, chain3, fn30, fn3, fnN30, fnN3, fnP30, i2, i2c, i1, isN3, notN3, eqS3, neS3, ixL3, ixT3, len3, all3, any3, abs3, max23, min23, isi3, isB3, truth3, start3, slot, flatT, scal, tyn, M3.isNon, lenT, truT, isiB, Option.bind, take3, kb_non_bool, kb_non_int, kb_non_str, kb_non_list, kb_non_tuple, kb_bool_bool, kb_bool_int, kb_bool_str, kb_bool_list, kb_bool_tuple, kb_int_bool, kb_int_int, kb_int_str, kb_int_list, kb_int_tuple, kb_str_bool, kb_str_int, kb_str_str, kb_str_list, kb_str_tuple, kb_list_bool, kb_list_int, kb_list_str, kb_list_list, kb_list_tuple, kb_tuple_bool, kb_tuple_int, kb_tuple_str, kb_tuple_list, kb_tuple_tuple, addP, mulP, ixP, slP, eqP, neP, isSeq, iterP, itemsP, no3, part3, sl3, raise3, brk3, cont3, M3.ltP, M3.leP, M3.gtP, M3.geP] using hx _ rfl
      rintro σ' rfl
      refine seq_by (fun σ' => ∃ s, σ' = [.val w.tr, .val (.int (((w.kids.map fun k => k.2.dp).foldl max 0 : Nat) : Int)), s]) (fun nx hx => ?_) ?_
      · unfold Ldepth_3
        refine for_by (fun ds => ds = w.kids.map ktr) (fun Q X hd => ?_) ?_
        · have := hd _ rfl
          rw [z.tr]
          generalize w.kids.map ktr = xs at this ⊢
          simpa [seq3, next3, ret3, retN3, ifs3, drop3, asg3, name3, tst3, and3, or3, not3, andV3, orV3, notV3, if3, v3, k3, op3, un3, nil3, cons3, call3, tup3, lst3, chain3, fn30, fn3, fnN30, fnN3, fnP30, i2, i2c, i1, isN3, notN3, eqS3, neS3, ixL3, ixT3, len3, all3, any3, abs3, max23, min23, isi3, isB3, truth3, start3, slot, flatT, scal, tyn, M3.isNon, lenT, truT, isiB, Option.bind, take3, kb_non_bool, kb_non_int, kb_non_str, kb_non_list, kb_non_tuple, kb_bool_bool, kb_bool_int, kb_bool_str, kb_bool_list, kb_bool_tuple, kb_int_bool, kb_int_int, kb_int_str, kb_int_list, kb_int_tuple, kb_str_bool, kb_str_int, kb_str_str, kb_str_list, kb_str_tuple, kb_list_bool, kb_list_int, kb_list_str, kb_list_list, kb_list_tuple, kb_tuple_bool, kb_tuple_int, kb_tuple_str, kb_tuple_list, kb_tuple_tuple, addP, mulP, ixP, slP, eqP, neP, isSeq, iterP, itemsP, no3, part3, sl3, raise3, brk3, cont3, M3.ltP, M3.leP, M3.gtP, M3.geP, cut1] using this
        rintro ds rfl
        exact depth_loop w.kids 0 .no (fun k hk Q X q => ih k.2 Q X (by have := z.lt k hk; omega) q) fun s => hx _ ⟨s, rfl⟩
      rintro σ' ⟨s, rfl⟩
      have e : (((w.kids.map fun k => k.2.dp).foldl max 0 : Nat) : Int) + 1 = (w.dp : Int) := by rw [← z.dp]; omega
      simpa [Ldepth_4, seq3, next3, ret3, retN3, ifs3, drop3, asg3, name3, tst3, and3, or3, not3, andV3, orV3, notV3, if3, v3, k3, op3, un3, nil3, cons3, call3, tup3, lst3, chain3, fn30, fn3, fnN30, fnN3, fnP30, i2, i2c, i1, isN3, notN3, eqS3, neS3, ixL3, ixT3, len3, all3, any3, abs3, max23, min23, isi3, isB3, truth3, start3, slot, flatT, scal, tyn, M3.isNon, lenT, truT, isiB, Option.bind, take3, kb_non_bool, kb_non_int, kb_non_str, kb_non_list, kb_non_tuple, kb_bool_bool, kb_bool_int, kb_bool_str, kb_bool_list, kb_bool_tuple, kb_int_bool, kb_int_int, kb_int_str, kb_int_list, kb_int_tuple, kb_str_bool, kb_str_int, kb_str_str, kb_str_list, kb_str_tuple, kb_list_bool, kb_list_int, kb_list_str, kb_list_list, kb_list_tuple, kb_tuple_bool, kb_tuple_int, kb_tuple_str, kb_tuple_list, kb_tuple_tuple, addP, mulP, ixP, slP, eqP, neP, isSeq, iterP, itemsP, no3, part3, sl3, raise3, brk3, cont3, M3.ltP, M3.leP, M3.gtP, M3.geP, e] using hq
theorem cols_loop {C : Cs} {r : F3} {N : N3} {w : Sl} {s : Bool} : ∀ (ks : List KW) (acc : List Str) (u : Sl), (∀ k ∈ ks, ∀ (Q : T → Prop) (X : X3), (∀ ys, Cols k.2 s ys → ys.length ≤ 10 → Q (.lst (texts ys))) → r [ktr k, .str (sideS s)] Q X) → acc.length + 10 * ks.length ≤ 100000 →
    (∀ found u, (∀ x, x ∈ found ↔ x ∈ acc ∨ ∃ k ∈ ks, (s, x) ∈ k.2.sides) → found.length ≤ acc.length + 10 * ks.length → N.nx [w, .val (.str (sideS s)), .val (.lst (texts found)), u]) →
    loop3 (name3 3) (Lcolumns_3b C r) N (ks.map ktr) [w, .val (.str (sideS s)), .val (.lst (texts acc)), u]
  | [], acc, u, _, _, h => h acc u (by simp) (by simp)
  | k :: ks, acc, u, hr, hl, h => by
    have ih := fun acc' h1 h2 => cols_loop (C := C) (r := r) (N := N) (w := w) (s := s) ks acc' (.val (ktr k)) (fun x hx => hr x (List.mem_cons_of_mem _ hx)) h1 h2
    have e1 := hr k (List.mem_cons_self ..)
    generalize hn : loop3 (name3 3) (Lcolumns_3b C r) N (ks.map ktr) = nx at ih
    show Lcolumns_3b C r { nx := loop3 (name3 3) (Lcolumns_3b C r) N (ks.map ktr), ct := loop3 (name3 3) (Lcolumns_3b C r) N (ks.map ktr), bk := N.nx, rt := N.rt, xn := N.xn } [w, .val (.str (sideS s)), .val (.lst (texts acc)), .val (ktr k)]
    rw [hn]
    simp only [List.length_cons] at hl h
    simp [Lcolumns_3b, Lcolumns_3b_1, seq3, next3, ret3, retN3, ifs3, drop3, asg3, name3, tst3, and3, or3, not3, andV3, orV3, notV3, if3, v3, k3, op3, un3, nil3, cons3, call3, tup3, lst3, chain3, fn30, fn3, fnN30, fnN3, fnP30, i2, i2c, i1, isN3, notN3, eqS3, neS3, ixL3, ixT3, len3, all3, any3, abs3, max23, min23, isi3, isB3, truth3, start3, slot, flatT, scal, tyn, M3.isNon, lenT, truT, isiB, Option.bind, take3, kb_non_bool, kb_non_int, kb_non_str, kb_non_list, kb_non_tuple, kb_bool_bool, kb_bool_int, kb_bool_str, kb_bool_list, kb_bool_tuple, kb_int_bool, kb_int_int, kb_int_str, kb_int_list, kb_int_tuple, kb_str_bool, kb_str_int, kb_str_str, kb_str_list, kb_str_tuple, kb_list_bool, kb_list_int, kb_list_str, kb_list_list, kb_list_tuple, kb_tuple_bool, kb_tuple_int, kb_tuple_str, kb_tuple_list, kb_tuple_tuple, addP, mulP, ixP, slP, eqP, neP, isSeq, iterP, itemsP, no3, part3, sl3, raise3, brk3, cont3, M3.ltP, M3.leP, M3.gtP, M3.geP]
    refine e1 _ _ fun ys cy ly => ?_
    have l1 : (texts acc).length + (texts ys).length ≤ sizeLine := by
      apply sl_big
      simp only [texts, List.length_map]; omega
    refine ⟨l1, ?_⟩
    rw [texts_append]
    refine ih (acc ++ ys) (by simp only [List.length_append]; omega) fun found u hm hlen => h found u (fun x => ?_) (by simp only [List.length_append] at hlen; omega)
    rw [hm x, List.mem_append, cy.mem x]
    constructor
    · rintro ((a | a) | ⟨k', hk, a⟩)
      · exact .inl a
      · exact .inr ⟨k, List.mem_cons_self .., a⟩
      · exact .inr ⟨k', List.mem_cons_of_mem _ hk, a⟩
    · rintro (a | ⟨k', hk, a⟩)
      · exact .inl (.inl a)
      · rcases List.mem_cons.mp hk with e | hk
        · subst e; exact .inl (.inr a)
        · exact .inr ⟨k', hk, a⟩
theorem cols_ok (C : Cs) {os ns : List Str} (mo : nms os) (mn : nms ns) (s : Bool) : ∀ (f : Nat) {b : Bool} (w : Wd b) (Q : T → Prop) (X : X3), w.dp ≤ f → w.ok os ns → (∀ ys, Cols w s ys → ys.length ≤ 10 → Q (.lst (texts ys))) → Lcolumns C f [w.tr, .str (sideS s)] Q X
  | 0, _, w, Q, X, h, _, _ => by have := dp_pos w; omega
  | g + 1, _, w, Q, X, hf, hw, hq => by
    have ih := fun {b : Bool} (k : Wd b) Q X (h1 : k.dp ≤ g) => cols_ok C mo mn s g k Q X h1
    rw [Lcolumns_succ]
    show LcolumnsB C _ _ [Sl.val w.tr, .val (.str (sideS s)), .no, .no]
    generalize Lcolumns C g = r at ih
    have z0 : 0 ≤ sizeLine := Nat.zero_le _
    cases view w with
    | cell c tr sd dp =>
      have := hq [] ⟨rfl, List.nodup_nil, fun x => by rw [sd]; simp⟩ (by simp)
      cases s <;> simpa [LcolumnsB, Lcolumns_1, Lcolumns_1t_1, seq3, next3, ret3, retN3, ifs3, drop3, asg3, name3, tst3, and3, or3, not3, andV3, orV3, notV3, if3, v3, k3, op3, un3, nil3, cons3, call3, tup3, lst3, chain3, fn30, fn3, fnN30, fnN3, fnP30, i2, i2c, i1, isN3, notN3, eqS3, neS3, ixL3, ixT3, len3, all3, any3, abs3, max23, min23, isi3, isB3, truth3, start3, slot, flatT, scal, tyn, M3.isNon, lenT, truT, isiB, Option.bind, take3, kb_non_bool, kb_non_int, kb_non_str, kb_non_list, kb_non_tuple, kb_bool_bool, kb_bool_int, kb_bool_str, kb_bool_list, kb_bool_tuple, kb_int_bool, kb_int_int, kb_int_str, kb_int_list, kb_int_tuple, kb_str_bool, kb_str_int, kb_str_str, kb_str_list, kb_str_tuple, kb_list_bool, kb_list_int, kb_list_str, kb_list_list, kb_list_tuple, kb_tuple_bool, kb_tuple_int, kb_tuple_str, kb_tuple_list, kb_tuple_tuple, addP, mulP, ixP, slP, eqP, neP, isSeq, iterP, itemsP, no3, part3, sl3, raise3, brk3, cont3, M3.ltP, M3.leP, M3.gtP, M3.geP, szl3', in_con, tr, sideS, texts] using this
    | col t x tr sd dp ok =>
      by_cases e : s = t
      · subst e
        have := hq [x] ⟨rfl, by simp, fun y => by rw [sd]; simp⟩ (by simp)
        cases s <;> simpa [LcolumnsB, Lcolumns_1, Lcolumns_1t_1, seq3, next3, ret3, retN3, ifs3, drop3, asg3, name3, tst3, and3, or3, not3, andV3, orV3, notV3, if3, v3, k3, op3, un3, nil3, cons3, call3, tup3, lst3, chain3, fn30, fn3, fnN30, fnN3, fnP30, i2, i2c, i1, isN3, notN3, eqS3, neS3, ixL3, ixT3, len3, all3, any3, abs3, max23, min23, isi3, isB3, truth3, start3, slot, flatT, scal, tyn, M3.isNon, lenT, truT, isiB, Option.bind, take3, kb_non_bool, kb_non_int, kb_non_str, kb_non_list, kb_non_tuple, kb_bool_bool, kb_bool_int, kb_bool_str, kb_bool_list, kb_bool_tuple, kb_int_bool, kb_int_int, kb_int_str, kb_int_list, kb_int_tuple, kb_str_bool, kb_str_int, kb_str_str, kb_str_list, kb_str_tuple, kb_list_bool, kb_list_int, kb_list_str, kb_list_list, kb_list_tuple, kb_tuple_bool, kb_tuple_int, kb_tuple_str, kb_tuple_list, kb_tuple_tuple, addP, mulP, ixP, slP, eqP, neP, isSeq, iterP, itemsP, no3, part3, sl3, raise3, brk3, cont3, M3.ltP, M3.leP, M3.gtP, M3.geP, szl3', sl1, in_con, tr, sideS, texts] using this
      · have := hq [] ⟨rfl, List.nodup_nil, fun y => by rw [sd]; simp [e]⟩ (by simp)
        cases s <;> cases t <;> first | exact absurd rfl e | simpa [LcolumnsB, Lcolumns_1, Lcolumns_1t_1, seq3, next3, ret3, retN3, ifs3, drop3, asg3, name3, tst3, and3, or3, not3, andV3, orV3, notV3, if3, v3, k3, op3, un3, nil3, cons3, call3, tup3, lst3, chain3, fn30, fn3, fnN30, fnN3, fnP30, i2, i2c, i1, isN3, notN3, eqS3, neS3, ixL3, ixT3, len3, all3, any3, abs3, max23, min23, isi3, isB3, truth3, start3, slot, flatT, scal, tyn, M3.isNon, lenT, truT, isiB, Option.bind, take3, kb_non_bool, kb_non_int, kb_non_str, kb_non_list, kb_non_tuple, kb_bool_bool, kb_bool_int, kb_bool_str, kb_bool_list, kb_bool_tuple, kb_int_bool, kb_int_int, kb_int_str, kb_int_list, kb_int_tuple, kb_str_bool, kb_str_int, kb_str_str, kb_str_list, kb_str_tuple, kb_list_bool, kb_list_int, kb_list_str, kb_list_list, kb_list_tuple, kb_tuple_bool, kb_tuple_int, kb_tuple_str, kb_tuple_list, kb_tuple_tuple, addP, mulP, ixP, slP, eqP, neP, isSeq, iterP, itemsP, no3, part3, sl3, raise3, brk3, cont3, M3.ltP, M3.leP, M3.gtP, M3.geP, szl3', sl1, in_con, tr, sideS, texts] using this
    | node hd z =>
      have h1 := z.h1
      have h2 := z.h2
      have h3 := z.h3
      unfold LcolumnsB
      refine seq_by (fun σ' => σ' = [.val w.tr, .val (.str (sideS s)), .no, .no]) (fun nx hx => ?_) ?_
      · have := hx _ rfl
        rw [z.tr] at this ⊢
        generalize w.kids.map ktr = xs at this ⊢
        simpa [Lcolumns_1, seq3, next3, ret3, retN3, ifs3, drop3, asg3, name3, tst3, and3, or3, not3, andV3, orV3, notV3, if3, v3, k3, op3, un3, nil3, cons3, call3, tup3, lst3, chain3, fn30, fn3, fnN30, fnN3, fnP30, i2, i2c, i1, isN3, notN3, eqS3, neS3, ixL3, ixT3, len3, all3, any3, abs3, max23, min23, isi3, isB3, truth3, start3, slot, flatT, scal, tyn, M3.isNon, lenT, truT, isiB, Option.bind, take3, kb_non_bool, kb_non_int, kb_non_str, kb_non_list, kb_non_tuple, kb_bool_bool, kb_bool_int, kb_bool_str, kb_bool_list, kb_bool_tuple, kb_int_bool, kb_int_int, kb_int_str, kb_int_list, kb_int_tuple, kb_str_bool, kb_str_int, kb_str_str, kb_str_list, kb_str_tuple, kb_list_bool, kb_list_int, kb_list_str, kb_list_list, kb_list_tuple, kb_tuple_bool, kb_tuple_int, kb_tuple_str, kb_tuple_list, kb_tuple_tuple, addP, mulP, ixP, slP, eqP, neP, isSeq, iterP, itemsP, no3, part3, sl3, raise3, brk3, cont3, M3.ltP, M3.leP, M3.gtP, M3.geP, in_con, szl3', h1, h2, h3] using this
      rintro σ' rfl
      refine seq_by (fun σ' => σ' = [.val w.tr, .val (.str (sideS s)), .val (.lst (texts [])), .no]) (fun nx hx => ?_) ?_
      · simpa [Lcolumns_2, seq3, next3, ret3, retN3, ifs3, drop3, asg3, name3, tst3, and3, or3, not3, andV3, orV3, notV3, if3, v3, k3, op3, un3, nil3, cons3, call3, tup3, lst3, chain3, fn30, fn3, fnN30, fnN3, fnP30, i2, i2c, i1, isN3, notN3, eqS3, neS3, ixL3, ixT3, len3, all3, any3, abs3, max23, min23, isi3, isB3, truth3, start3, slot, flatT, scal, tyn, M3.isNon, lenT, truT, isiB, Option.bind, take3, kb_non_bool, kb_non_int, kb_non_str, kb_non_list, kb_non_tuple, kb_bool_bool, kb_bool_int, kb_bool_str, kb_bool_list, kb_bool_tuple, kb_int_bool, kb_int_int, kb_int_str, kb_int_list, kb_int_tuple, kb_str_bool, kb_str_int, kb_str_str, kb_str_list, kb_str_tuple, kb_list_bool, kb_list_int, kb_list_str, kb_list_list, kb_list_tuple, kb_tuple_bool, kb_tuple_int, kb_tuple_str, kb_tuple_list, kb_tuple_tuple, addP, mulP, ixP, slP, eqP, neP, isSeq, iterP, itemsP, no3, part3, sl3, raise3, brk3, cont3, M3.ltP, M3.leP, M3.gtP, M3.geP, texts] using hx _ rfl
      rintro σ' rfl
      refine seq_by (fun σ' => ∃ found u, (∀ x, x ∈ found ↔ (s, x) ∈ w.sides) ∧ found.length ≤ 30 ∧ σ' = [.val w.tr, .val (.str (sideS s)), .val (.lst (texts found)), u]) (fun nx hx => ?_) ?_
      · unfold Lcolumns_3
        refine for_by (fun ds => ds = w.kids.map ktr) (fun Q X hd => ?_) ?_
        · have := hd _ rfl
          rw [z.tr]
          generalize w.kids.map ktr = xs at this ⊢
          simpa [seq3, next3, ret3, retN3, ifs3, drop3, asg3, name3, tst3, and3, or3, not3, andV3, orV3, notV3, if3, v3, k3, op3, un3, nil3, cons3, call3, tup3, lst3, chain3, fn30, fn3, fnN30, fnN3, fnP30, i2, i2c, i1, isN3, notN3, eqS3, neS3, ixL3, ixT3, len3, all3, any3, abs3, max23, min23, isi3, isB3, truth3, start3, slot, flatT, scal, tyn, M3.isNon, lenT, truT, isiB, Option.bind, take3, kb_non_bool, kb_non_int, kb_non_str, kb_non_list, kb_non_tuple, kb_bool_bool, kb_bool_int, kb_bool_str, kb_bool_list, kb_bool_tuple, kb_int_bool, kb_int_int, kb_int_str, kb_int_list, kb_int_tuple, kb_str_bool, kb_str_int, kb_str_str, kb_str_list, kb_str_tuple, kb_list_bool, kb_list_int, kb_list_str, kb_list_list, kb_list_tuple, kb_tuple_bool, kb_tuple_int, kb_tuple_str, kb_tuple_list, kb_tuple_tuple, addP, mulP, ixP, slP, eqP, neP, isSeq, iterP, itemsP, no3, part3, sl3, raise3, brk3, cont3, M3.ltP, M3.leP, M3.gtP, M3.geP, cut1] using this
        rintro ds rfl
        have l := z.len
        refine cols_loop w.kids [] .no (fun k hk Q X q => ih k.2 Q X (by have := z.lt k hk; omega) (z.ok _ _ hw k hk) q) (by simp only [List.length_nil]; omega) fun found u hm hl => hx _ ⟨found, u, fun x => ?_, by simp only [List.length_nil] at hl; omega, rfl⟩
        rw [hm x, z.sd, List.mem_flatMap]
        simp
      rintro σ' ⟨found, u, hm, hl, rfl⟩
      have : txs (texts found) = some found := strs_map found
      simp [Lcolumns_4, seq3, next3, ret3, retN3, ifs3, drop3, asg3, name3, tst3, and3, or3, not3, andV3, orV3, notV3, if3, v3, k3, op3, un3, nil3, cons3, call3, tup3, lst3, chain3, fn30, fn3, fnN30, fnN3, fnP30, i2, i2c, i1, isN3, notN3, eqS3, neS3, ixL3, ixT3, len3, all3, any3, abs3, max23, min23, isi3, isB3, truth3, start3, slot, flatT, scal, tyn, M3.isNon, lenT, truT, isiB, Option.bind, take3, kb_non_bool, kb_non_int, kb_non_str, kb_non_list, kb_non_tuple, kb_bool_bool, kb_bool_int, kb_bool_str, kb_bool_list, kb_bool_tuple, kb_int_bool, kb_int_int, kb_int_str, kb_int_list, kb_int_tuple, kb_str_bool, kb_str_int, kb_str_str, kb_str_list, kb_str_tuple, kb_list_bool, kb_list_int, kb_list_str, kb_list_list, kb_list_tuple, kb_tuple_bool, kb_tuple_int, kb_tuple_str, kb_tuple_list, kb_tuple_tuple, addP, mulP, ixP, slP, eqP, neP, isSeq, iterP, itemsP, no3, part3, sl3, raise3, brk3, cont3, M3.ltP, M3.leP, M3.gtP, M3.geP, sortSet3, items, this]
      refine ⟨by omega, fun ys hp hs => ?_⟩
      have c : Cols w s ys := ⟨hs, hp.nodup_iff.mpr setOf_nd, fun x => by rw [hp.mem_iff, setOf_mem, hm x]⟩
      exact hq ys c (c.le hw mo mn)
theorem compS_ok {a b c : Sl} {s : Bool} {os : List Str} {X : X3} {Q : List Str → Prop} (lo : os.length ≤ 10) : ∀ (l : List (Bool × Str)) (acc : List Str), (∀ p ∈ l, p.1 = s → p.2 ∈ os) → acc.Nodup → (∀ x ∈ acc, x ∈ os) → (∀ ys, ys.Nodup → ys.length ≤ 10 → (∀ x, x ∈ ys ↔ x ∈ acc ∨ (s, x) ∈ l) → Q ys) →
    compS (gtup3 2 (gcons3 (name3 3) (gcons3 (name3 4) gnil3))) (tst3 (op3 eqP (v3 3) (k3 (.str (sideS s))))) (v3 4) [a, b, c, .no, .no] X Q (l.map prB) acc
  | [], acc, _, nd, ho, h => h acc nd (Nat.le_trans (nodup_le _ _ nd ho) lo) (by simp)
  | (t, x) :: l, acc, hl, nd, ho, h => by
    have ih := fun acc' h1 h2 h3 => compS_ok (a := a) (b := b) (c := c) (s := s) (X := X) (Q := Q) lo l acc' (fun p hp => hl p (List.mem_cons_of_mem _ hp)) h1 h2 h3
    have la : acc.length ≤ 10 := Nat.le_trans (nodup_le _ _ nd ho) lo
    by_cases e : t = s
    · subst e
      have := ih (putS acc x) (putS_nd nd) (fun y hy => (putS_mem.mp hy).elim (ho y) fun e => by rw [e]; exact hl (t, x) (List.mem_cons_self ..) rfl) (fun ys n1 n2 n3 => h ys n1 n2 fun y => by
        rw [n3 y, putS_mem, List.mem_cons, or_assoc]
        simp)
      simp [compS, prB, gtup3, gcons3, gnil3, asT, seq3, next3, ret3, retN3, ifs3, drop3, asg3, name3, tst3, and3, or3, not3, andV3, orV3, notV3, if3, v3, k3, op3, un3, nil3, cons3, call3, tup3, lst3, chain3, fn30, fn3, fnN30, fnN3, fnP30, i2, i2c, i1, isN3, notN3, eqS3, neS3, ixL3, ixT3, len3, all3, any3, abs3, max23, min23, isi3, isB3, truth3, start3, slot, flatT, scal, tyn, M3.isNon, lenT, truT, isiB, Option.bind, take3, kb_non_bool, kb_non_int, kb_non_str, kb_non_list, kb_non_tuple, kb_bool_bool, kb_bool_int, kb_bool_str, kb_bool_list, kb_bool_tuple, kb_int_bool, kb_int_int, kb_int_str, kb_int_list, kb_int_tuple, kb_str_bool, kb_str_int, kb_str_str, kb_str_list, kb_str_tuple, kb_list_bool, kb_list_int, kb_list_str, kb_list_list, kb_list_tuple, kb_tuple_bool, kb_tuple_int, kb_tuple_str, kb_tuple_list, kb_tuple_tuple, addP, mulP, ixP, slP, eqP, neP, isSeq, iterP, itemsP, no3, part3, sl3, raise3, brk3, cont3, M3.ltP, M3.leP, M3.gtP, M3.geP, asS]
      exact ⟨by omega, this⟩
    · have := ih acc nd ho (fun ys n1 n2 n3 => h ys n1 n2 fun y => by
        rw [n3 y, List.mem_cons]
        have es : ¬ s = t := fun z => e z.symm
        simp [es])
      have e' : ¬ sideS t = sideS s := fun z => e ((sideS_inj _ _).mp z)
      simpa [compS, prB, gtup3, gcons3, gnil3, asT, seq3, next3, ret3, retN3, ifs3, drop3, asg3, name3, tst3, and3, or3, not3, andV3, orV3, notV3, if3, v3, k3, op3, un3, nil3, cons3, call3, tup3, lst3, chain3, fn30, fn3, fnN30, fnN3, fnP30, i2, i2c, i1, isN3, notN3, eqS3, neS3, ixL3, ixT3, len3, all3, any3, abs3, max23, min23, isi3, isB3, truth3, start3, slot, flatT, scal, tyn, M3.isNon, lenT, truT, isiB, Option.bind, take3, kb_non_bool, kb_non_int, kb_non_str, kb_non_list, kb_non_tuple, kb_bool_bool, kb_bool_int, kb_bool_str, kb_bool_list, kb_bool_tuple, kb_int_bool, kb_int_int, kb_int_str, kb_int_list, kb_int_tuple, kb_str_bool, kb_str_int, kb_str_str, kb_str_list, kb_str_tuple, kb_list_bool, kb_list_int, kb_list_str, kb_list_list, kb_list_tuple, kb_tuple_bool, kb_tuple_int, kb_tuple_str, kb_tuple_list, kb_tuple_tuple, addP, mulP, ixP, slP, eqP, neP, isSeq, iterP, itemsP, no3, part3, sl3, raise3, brk3, cont3, M3.ltP, M3.leP, M3.gtP, M3.geP, asS, e'] using this
theorem columns_in_ok (C : Cs) {os ns : List Str} (mo : nms os) (mn : nms ns) {b : Bool} (w : Wd b) (hw : w.ok os ns) (hd : w.dp ≤ 8) {M : Mem} {Q : T → Mem → Prop} {X : XM}
    (h : ∀ (p q : Addr) ys zs, M p = none → q ≠ p → M q = none → Cols w false ys → Cols w true zs → ys.length ≤ 10 → zs.length ≤ 10 → Q (.tup [.ref p, .ref q]) (mset (mset M p (some (.lst (texts ys)))) q (some (.lst (texts zs))))) : columns_in C [w.tr] M Q X := by
  rw [columns_in_def]
  show columns_inB C _ [Sl.val w.tr, .no, .no, .no, .no] M
  unfold columns_inB
  refine seq4_by (fun σ' M' => M = M' ∧ σ' = [.val w.tr, .val (.lst (w.sides.map prB)), .no, .no, .no]) (fun nx hx => ?_) ?_
  · have e := fun Q X => sides_in_eq C 12 w Q X (by omega) hd
    have := hx _ _ ⟨rfl, rfl⟩
    simpa [columns_in_1, asg4, pu, seq3, next3, ret3, retN3, ifs3, drop3, asg3, name3, tst3, and3, or3, not3, andV3, orV3, notV3, if3, v3, k3, op3, un3, nil3, cons3, call3, tup3, lst3, chain3, fn30, fn3, fnN30, fnN3, fnP30, i2, i2c, i1, isN3, notN3, eqS3, neS3, ixL3, ixT3, len3, all3, any3, abs3, max23, min23, isi3, isB3, truth3, start3, slot, flatT, scal, tyn, M3.isNon, lenT, truT, isiB, Option.bind, take3, kb_non_bool, kb_non_int, kb_non_str, kb_non_list, kb_non_tuple, kb_bool_bool, kb_bool_int, kb_bool_str, kb_bool_list, kb_bool_tuple, kb_int_bool, kb_int_int, kb_int_str, kb_int_list, kb_int_tuple, kb_str_bool, kb_str_int, kb_str_str, kb_str_list, kb_str_tuple, kb_list_bool, kb_list_int, kb_list_str, kb_list_list, kb_list_tuple, kb_tuple_bool, kb_tuple_int, kb_tuple_str, kb_tuple_list, kb_tuple_tuple, addP, mulP, ixP, slP, eqP, neP, isSeq, iterP, itemsP, no3, part3, sl3, raise3, brk3, cont3, M3.ltP, M3.leP, M3.gtP, M3.geP, e] using this
  rintro σ' M' ⟨rfl, rfl⟩
  have srt : ∀ (s : Bool) (c : Sl) (Q' : T → Prop) (X' : X3), (∀ ys, Cols w s ys → ys.length ≤ 10 → Q' (.lst (texts ys))) →
      sortSc3 (iterP (v3 1)) (gtup3 2 (gcons3 (name3 3) (gcons3 (name3 4) gnil3))) (tst3 (op3 eqP (v3 3) (k3 (.str (sideS s))))) (v3 4) [3, 4] [.val w.tr, .val (.lst (w.sides.map prB)), c, .no, .no] Q' X' := fun s c Q' X' hq => by
    refine ⟨by simp [noOwn], ?_⟩
    show iterP (v3 1) _ _ _
    refine iter_slot rfl ?_
    have lo : (if s then ns else os).length ≤ 10 := by cases s; exact mo.1; exact mn.1
    refine compS_ok lo w.sides [] (fun p hp e => by have := sides_ok w hw p hp; rw [e] at this; exact this) List.nodup_nil (fun x hx => by cases hx) fun ys n1 n2 n3 => ⟨by omega, fun zs hp hs => ?_⟩
    have c : Cols w s zs := ⟨hs, hp.nodup_iff.mpr n1, fun x => by rw [hp.mem_iff, n3 x]; simp⟩
    exact hq zs c (c.le hw mo mn)
  refine seq4_by (fun σ' M' => ∃ p ys, M p = none ∧ Cols w false ys ∧ ys.length ≤ 10 ∧ M' = mset M p (some (.lst (texts ys))) ∧ σ' = [.val w.tr, .val (.lst (w.sides.map prB)), .val (.ref p), .no, .no]) (fun nx hx => ?_) ?_
  · unfold columns_in_2 asg4 newC4
    refine srt false .no _ _ fun ys cy ly => ?_
    show ∀ p, M p = none → _
    intro p hp
    exact hx _ _ ⟨p, ys, hp, cy, ly, rfl, rfl⟩
  rintro σ' M' ⟨p, ys, hp, cy, ly, rfl, rfl⟩
  simp only [columns_in_3, ret4, tup4, cons4, nil4, pu, newC4]
  show ob (some (T.ref p)) _
  simp only [ob_some]
  refine srt true _ _ _ fun zs cz lz => ?_
  show ∀ q, _ → _
  intro q hq
  have ne : q ≠ p := fun e => by
    rw [e, mset_same] at hq
    cases hq
  rw [mset_ne ne] at hq
  exact ⟨sl2, h p q ys zs hp ne hq cy cz ly lz⟩
end Law

set_option maxHeartbeats 400000
namespace Law
open PySem L2 M3
theorem nm_len {b : Str} {a c d k : Int} (h : b.length ≤ 7) : (nm b a c d k).length ≤ 1000 := by
  have l1 := cutS_length b none (some a)
  have l2 := cutS_length b (some a) none
  have z2 : ∀ c : Nat, (Str.length ⟨#[c]⟩) = 1 := fun _ => rfl
  simp only [nm, Str.length_append, z2]
  omega
theorem nm_sg {b : Str} {a c d k : Int} (h : sg b) : sg (nm b a c d k) := by
  have z1 : (c + d * k) % 26 < 26 := Int.emod_lt_of_pos _ (by decide)
  refine sg_app (sg_app (sg_cut h _ _) ?_) (sg_cut h _ _)
  rw [sg_iff]
  intro x hx
  have : x = 97 + ((c + d * k) % 26).toNat := by simpa using hx
  omega
theorem same12 (C : Cs) {x y : T} {Q : T → Prop} {X : X3} (h1 : plain x = true) (h2 : plain y = true) (h3 : dep y < 12) : Lsame C 12 [x, y] Q X = Q (.bl (sameT x y)) := same_ok C 12 x y Q X h1 h2 h3
theorem plain_texts : ∀ xs : List Str, plainL (texts xs) = true ∧ depL (texts xs) = 0
  | [] => by simp [texts]
  | x :: xs => by
    have := plain_texts xs
    simp only [texts, List.map_cons] at this ⊢
    simp [this]
def dueT (ys zs : List Str) : T := .tup [.lst (texts ys), .lst (texts zs)]
theorem due_plain {ys zs : List Str} (hy : ys.length ≤ 10) (hz : zs.length ≤ 10) : plain (dueT ys zs) = true ∧ dep (dueT ys zs) < 12 := by
  have a := plain_texts ys
  have b := plain_texts zs
  have l1 : (texts ys).length < 100000 := by simp only [texts, List.length_map]; omega
  have l2 : (texts zs).length < 100000 := by simp only [texts, List.length_map]; omega
  constructor
  · simp [dueT, a, b, l1, l2]
  · simp [dueT, a, b]
abbrev st (p : Addr) (NM : List Str) (a3 a4 a5 a6 a7 : Sl) : List Sl := [.no, .val (.ref p), .val (.lst (texts NM)), a3, a4, a5, a6, a7]
theorem nms_cut {NM : List Str} (h : nms NM) (lo hi : Option Int) : nms (cut NM lo hi) := ⟨Nat.le_trans cut_le h.1, fun x hx => h.2 x (mem_cut hx)⟩
/-- what columns_in tells, given away, is what is due -/
theorem same_cols {C : Cs} {NM os ns : List Str} {b : Bool} {w : Wd b} {p : Addr} {a3 a4 a5 : Sl} {ys zs : List Str} {M : Mem} {Q : T → Mem → Prop} {X : XM} (mo : nms os) (mn : nms ns) (hw : w.ok os ns) (hd : w.dp ≤ 6) (cy : Cols w false ys) (cz : Cols w true zs)
    (h : ∀ M, Q (.bl true) M) : fn34 2 (Lsame C 12) (cons4 (frzT4 (fn40 1 (columns_in C) (cons4 (pu (v3 6)) nil4) [])) (cons4 (pu (v3 7)) nil4)) [] (st p NM a3 a4 a5 (.val w.tr) (.val (dueT ys zs))) M Q X := by
  simp only [fn34, cons4, nil4, frzT4, fn40, pu, v3, slot, List.getElem?_cons_succ, List.getElem?_cons_zero, ob_some]
  refine ⟨rfl, columns_in_ok C mo mn w hw (by omega) fun q r us vs hq ne hr cu cv lu lv => ?_⟩
  have e1 : us = ys := cu.eq cy
  have e2 : vs = zs := cv.eq cz
  subst e1
  subst e2
  have t1 : thawL (mset (mset M q (some (.lst (texts us)))) r (some (.lst (texts vs)))) [.ref q, .ref r] = some ([.lst (texts us), .lst (texts vs)], mset (mset (mset (mset M q (some (.lst (texts us)))) r (some (.lst (texts vs)))) q none) r none) := by
    have ne' : q ≠ r := fun e => ne e.symm
    simp [thawL, cellL, mset_ne ne', mset_ne ne, asL]
  simp only [asT_tup, ob_some, t1]
  refine ⟨rfl, ?_⟩
  have d := due_plain lu lv
  show Lsame C 12 [dueT us vs, dueT us vs] _ _
  rw [same12 C d.1 d.1 d.2, sameT_refl _ d.1]
  exact h _
section
variable {C : Cs} {p : Addr} {N : N4} {NM os ns : List Str} {M : Mem}
theorem L_turn {a3 a4 a5 a6 a7 : Sl} (hN : nms NM) (hx : ∀ a4 a5 a6 a7 M, N.nx (st p NM a3 a4 a5 a6 a7) M) : law_2b C p N (st p NM a3 a4 a5 a6 a7) M := by
  unfold law_2b
  refine seq4_by (fun σ' M' => M = M' ∧ ∃ os, nms os ∧ σ' = st p NM a3 (.val (.lst (texts os))) a5 a6 a7) (fun nx hx => ?_) ?_
  · unfold law_2b_1
    simp [asg4, pu, seq3, next3, ret3, retN3, ifs3, drop3, asg3, name3, tst3, and3, or3, not3, andV3, orV3, notV3, if3, v3, k3, op3, un3, nil3, cons3, call3, tup3, lst3, chain3, fn30, fn3, fnN30, fnN3, fnP30, i2, i2c, i1, isN3, notN3, eqS3, neS3, ixL3, ixT3, len3, all3, any3, abs3, max23, min23, isi3, isB3, truth3, start3, slot, flatT, scal, tyn, M3.isNon, lenT, truT, isiB, Option.bind, take3, kb_non_bool, kb_non_int, kb_non_str, kb_non_list, kb_non_tuple, kb_bool_bool, kb_bool_int, kb_bool_str, kb_bool_list, kb_bool_tuple, kb_int_bool, kb_int_int, kb_int_str, kb_int_list, kb_int_tuple, kb_str_bool, kb_str_int, kb_str_str, kb_str_list, kb_str_tuple, kb_list_bool, kb_list_int, kb_list_str, kb_list_list, kb_list_tuple, kb_tuple_bool, kb_tuple_int, kb_tuple_str, kb_tuple_list, kb_tuple_tuple, addP, mulP, ixP, slP, eqP, neP, isSeq, iterP, itemsP, no3, part3, sl3, raise3, brk3, cont3, M3.ltP, M3.leP, M3.gtP, M3.geP]
    exact fun r h0 h1 => hx _ _ ⟨rfl, _, nms_cut hN none (some (1 + r)), by rw [cut_texts]⟩
  rintro σ' M' ⟨rfl, os, mo, rfl⟩
  refine seq4_by (fun σ' M' => M = M' ∧ ∃ ns, nms ns ∧ σ' = st p NM a3 (.val (.lst (texts os))) (.val (.lst (texts ns))) a6 a7) (fun nx hx => ?_) ?_
  · unfold law_2b_2
    simp [asg4, pu, seq3, next3, ret3, retN3, ifs3, drop3, asg3, name3, tst3, and3, or3, not3, andV3, orV3, notV3, if3, v3, k3, op3, un3, nil3, cons3, call3, tup3, lst3, chain3, fn30, fn3, fnN30, fnN3, fnP30, i2, i2c, i1, isN3, notN3, eqS3, neS3, ixL3, ixT3, len3, all3, any3, abs3, max23, min23, isi3, isB3, truth3, start3, slot, flatT, scal, tyn, M3.isNon, lenT, truT, isiB, Option.bind, take3, kb_non_bool, kb_non_int, kb_non_str, kb_non_list, kb_non_tuple, kb_bool_bool, kb_bool_int, kb_bool_str, kb_bool_list, kb_bool_tuple, kb_int_bool, kb_int_int, kb_int_str, kb_int_list, kb_int_tuple, kb_str_bool, kb_str_int, kb_str_str, kb_str_list, kb_str_tuple, kb_list_bool, kb_list_int, kb_list_str, kb_list_list, kb_list_tuple, kb_tuple_bool, kb_tuple_int, kb_tuple_str, kb_tuple_list, kb_tuple_tuple, addP, mulP, ixP, slP, eqP, neP, isSeq, iterP, itemsP, no3, part3, sl3, raise3, brk3, cont3, M3.ltP, M3.leP, M3.gtP, M3.geP]
    exact fun r h0 h1 => hx _ _ ⟨rfl, _, nms_cut hN (some r) none, by rw [cut_texts]⟩
  rintro σ' M' ⟨rfl, ns, mn, rfl⟩
  have dr := draws_ok (C := C) (p := p) mo mn 5 12 (by decide)
  unfold VD TD at dr
  refine seq4_by (fun σ' M' => M = M' ∧ ∃ (b : Bool) (w : Wd b), w.ok os ns ∧ w.dp ≤ 6 ∧ σ' = st p NM a3 (.val (.lst (texts os))) (.val (.lst (texts ns))) (.val w.tr) a7) (fun nx hx => ?_) ?_
  · unfold law_2b_3
    generalize Ltruth C 12 = g at dr ⊢
    simp [asg4, pu, seq3, next3, ret3, retN3, ifs3, drop3, asg3, name3, tst3, and3, or3, not3, andV3, orV3, notV3, if3, v3, k3, op3, un3, nil3, cons3, call3, tup3, lst3, chain3, fn30, fn3, fnN30, fnN3, fnP30, i2, i2c, i1, isN3, notN3, eqS3, neS3, ixL3, ixT3, len3, all3, any3, abs3, max23, min23, isi3, isB3, truth3, start3, slot, flatT, scal, tyn, M3.isNon, lenT, truT, isiB, Option.bind, take3, kb_non_bool, kb_non_int, kb_non_str, kb_non_list, kb_non_tuple, kb_bool_bool, kb_bool_int, kb_bool_str, kb_bool_list, kb_bool_tuple, kb_int_bool, kb_int_int, kb_int_str, kb_int_list, kb_int_tuple, kb_str_bool, kb_str_int, kb_str_str, kb_str_list, kb_str_tuple, kb_list_bool, kb_list_int, kb_list_str, kb_list_list, kb_list_tuple, kb_tuple_bool, kb_tuple_int, kb_tuple_str, kb_tuple_list, kb_tuple_tuple, addP, mulP, ixP, slP, eqP, neP, isSeq, iterP, itemsP, no3, part3, sl3, raise3, brk3, cont3, M3.ltP, M3.leP, M3.gtP, M3.geP]
    exact fun r h0 h1 => dr.2 _ _ _ (by omega) fun w hw hd => hx _ _ ⟨rfl, _, w, hw, hd, rfl⟩
  rintro σ' M' ⟨rfl, b0, w0, hw0, hd0, rfl⟩
  refine seq4_by (fun σ' M' => M = M' ∧ ∃ (b : Bool) (w : Wd b), w.ok os ns ∧ w.dp ≤ 6 ∧ σ' = st p NM a3 (.val (.lst (texts os))) (.val (.lst (texts ns))) (.val w.tr) a7) (fun nx hx => ?_) ?_
  · unfold law_2b_4
    have st1 : ∀ N : N4, N.nx = nx → law_2b_4t_1 C p N (st p NM a3 (.val (.lst (texts os))) (.val (.lst (texts ns))) (.val w0.tr) a7) M := fun N e => by
      unfold law_2b_4t_1
      generalize Lvalue C 12 = g at dr ⊢
      simp [asg4, pu, seq3, next3, ret3, retN3, ifs3, drop3, asg3, name3, tst3, and3, or3, not3, andV3, orV3, notV3, if3, v3, k3, op3, un3, nil3, cons3, call3, tup3, lst3, chain3, fn30, fn3, fnN30, fnN3, fnP30, i2, i2c, i1, isN3, notN3, eqS3, neS3, ixL3, ixT3, len3, all3, any3, abs3, max23, min23, isi3, isB3, truth3, start3, slot, flatT, scal, tyn, M3.isNon, lenT, truT, isiB, Option.bind, take3, kb_non_bool, kb_non_int, kb_non_str, kb_non_list, kb_non_tuple, kb_bool_bool, kb_bool_int, kb_bool_str, kb_bool_list, kb_bool_tuple, kb_int_bool, kb_int_int, kb_int_str, kb_int_list, kb_int_tuple, kb_str_bool, kb_str_int, kb_str_str, kb_str_list, kb_str_tuple, kb_list_bool, kb_list_int, kb_list_str, kb_list_list, kb_list_tuple, kb_tuple_bool, kb_tuple_int, kb_tuple_str, kb_tuple_list, kb_tuple_tuple, addP, mulP, ixP, slP, eqP, neP, isSeq, iterP, itemsP, no3, part3, sl3, raise3, brk3, cont3, M3.ltP, M3.leP, M3.gtP, M3.geP]
      exact fun r h0 h1 => dr.1 _ _ _ (by omega) fun w hw hd => by rw [e]; exact hx _ _ ⟨rfl, _, w, hw, hd, rfl⟩
    simp [ifs4, pu, seq3, next3, ret3, retN3, ifs3, drop3, asg3, name3, tst3, and3, or3, not3, andV3, orV3, notV3, if3, v3, k3, op3, un3, nil3, cons3, call3, tup3, lst3, chain3, fn30, fn3, fnN30, fnN3, fnP30, i2, i2c, i1, isN3, notN3, eqS3, neS3, ixL3, ixT3, len3, all3, any3, abs3, max23, min23, isi3, isB3, truth3, start3, slot, flatT, scal, tyn, M3.isNon, lenT, truT, isiB, Option.bind, take3, kb_non_bool, kb_non_int, kb_non_str, kb_non_list, kb_non_tuple, kb_bool_bool, kb_bool_int, kb_bool_str, kb_bool_list, kb_bool_tuple, kb_int_bool, kb_int_int, kb_int_str, kb_int_list, kb_int_tuple, kb_str_bool, kb_str_int, kb_str_str, kb_str_list, kb_str_tuple, kb_list_bool, kb_list_int, kb_list_str, kb_list_list, kb_list_tuple, kb_tuple_bool, kb_tuple_int, kb_tuple_str, kb_tuple_list, kb_tuple_tuple, addP, mulP, ixP, slP, eqP, neP, isSeq, iterP, itemsP, no3, part3, sl3, raise3, brk3, cont3, M3.ltP, M3.leP, M3.gtP, M3.geP]
    intro r h0 h1
    by_cases c : r = 0
    · simp [c]
      exact st1 _ rfl
    · simp [c, next4]
      exact hx _ _ ⟨rfl, _, w0, hw0, hd0, rfl⟩
  rintro σ' M' ⟨rfl, b, w, hw, hd, rfl⟩
  refine seq4_by (fun σ' M' => M = M' ∧ ∃ ys zs, Cols w false ys ∧ Cols w true zs ∧ ys.length ≤ 10 ∧ zs.length ≤ 10 ∧ σ' = st p NM a3 (.val (.lst (texts os))) (.val (.lst (texts ns))) (.val w.tr) (.val (dueT ys zs))) (fun nx hx => ?_) ?_
  · have k := fun s Q X h => cols_ok C mo mn s 12 w Q X (by omega) hw h
    have k0 := k false
    have k1 := k true
    simp only [sideS, if_true, Bool.false_eq_true, if_false] at k0 k1
    unfold law_2b_5
    generalize Lcolumns C 12 = g at k0 k1 ⊢
    simp [asg4, pu, seq3, next3, ret3, retN3, ifs3, drop3, asg3, name3, tst3, and3, or3, not3, andV3, orV3, notV3, if3, v3, k3, op3, un3, nil3, cons3, call3, tup3, lst3, chain3, fn30, fn3, fnN30, fnN3, fnP30, i2, i2c, i1, isN3, notN3, eqS3, neS3, ixL3, ixT3, len3, all3, any3, abs3, max23, min23, isi3, isB3, truth3, start3, slot, flatT, scal, tyn, M3.isNon, lenT, truT, isiB, Option.bind, take3, kb_non_bool, kb_non_int, kb_non_str, kb_non_list, kb_non_tuple, kb_bool_bool, kb_bool_int, kb_bool_str, kb_bool_list, kb_bool_tuple, kb_int_bool, kb_int_int, kb_int_str, kb_int_list, kb_int_tuple, kb_str_bool, kb_str_int, kb_str_str, kb_str_list, kb_str_tuple, kb_list_bool, kb_list_int, kb_list_str, kb_list_list, kb_list_tuple, kb_tuple_bool, kb_tuple_int, kb_tuple_str, kb_tuple_list, kb_tuple_tuple, addP, mulP, ixP, slP, eqP, neP, isSeq, iterP, itemsP, no3, part3, sl3, raise3, brk3, cont3, M3.ltP, M3.leP, M3.gtP, M3.geP]
    refine k0 _ _ fun ys cy ly => k1 _ _ fun zs cz lz => ⟨sl2, hx _ _ ⟨rfl, ys, zs, cy, cz, ly, lz, rfl⟩⟩
  rintro σ' M' ⟨rfl, ys, zs, cy, cz, ly, lz, rfl⟩
  have sc := fun M Q X h => same_cols (C := C) (NM := NM) (p := p) (a3 := a3) (a4 := .val (.lst (texts os))) (a5 := .val (.lst (texts ns))) (M := M) (Q := Q) (X := X) mo mn hw hd cy cz h
  refine seq4_by (fun σ' M' => σ' = st p NM a3 (.val (.lst (texts os))) (.val (.lst (texts ns))) (.val w.tr) (.val (dueT ys zs))) (fun nx hx => ?_) ?_
  · unfold law_2b_6
    have e1 := fun Q X => deep_eq C 12 w Q X (by omega)
    have e2 := fun Q X => depth_ok C 12 w Q X (by omega)
    generalize deep C 12 = g1 at e1 ⊢
    generalize Ldepth C 12 = g2 at e2 ⊢
    simp only [ifs4, or4, pu, not3, tst3, not4, tst4, fn30, cons3, nil3, v3, slot, List.getElem?_cons_succ, List.getElem?_cons_zero, ob_some]
    refine ⟨rfl, ?_⟩
    show g1 [w.tr] _ _
    rw [e1]
    refine ⟨rfl, e2 _ _ ⟨rfl, ?_⟩⟩
    show Lsame C 12 [.int (w.dp : Int), .int (w.dp : Int)] _ _
    rw [same12 C (by simp) (by simp) (by simp)]
    simp only [same_int, decide_true, asB_bl, ob_some, Bool.not_true, Bool.false_eq_true, if_false]
    refine sc _ _ _ fun M => ?_
    simp [asB, next4]
    exact hx _ _ rfl
  rintro σ' M1 rfl
  refine seq4_by (fun σ' M' => σ' = st p NM a3 (.val (.lst (texts os))) (.val (.lst (texts ns))) (.val w.tr) (.val (dueT ys zs))) (fun nx hx => ?_) ?_
  · unfold law_2b_7
    simp only [drop4, app4, op4, fn40, cons4, nil4, pu, v3, k3, slot, List.getElem?_cons_succ, List.getElem?_cons_zero, ob_some]
    refine ⟨rfl, columns_in_ok C mo mn w hw (by omega) fun q r us vs hq ne hr cu cv lu lv => ?_⟩
    have ne' : q ≠ r := fun e => ne e.symm
    simp [ixP, asR, cellL, mset_ne ne', asL]
    refine ⟨?_, hx _ _ rfl⟩
    simp only [texts, List.length_map]
    exact Nat.lt_of_le_of_lt lu (by decide)
  rintro σ' M2 rfl
  unfold law_2b_8
  simp only [ifs4, not4, tst4]
  refine sc _ _ _ fun M => ?_
  simp [asB, next4]
  exact hx _ _ _ _ _
end
theorem law_plain (C : Cs) : Plain C := by
  intro p
  unfold lawB
  refine seq4_by (fun σ' M' => ∃ NM : List Str, nms NM ∧ σ' = st p NM .no .no .no .no .no) (fun nx hx => ?_) ?_
  · unfold law_1
    refine ⟨rfl, rfl, names_ok C p _ _ fun b a c d hb gb hd => ?_⟩
    refine hx _ _ ⟨[nm b a c d 0, nm b a c d 1, nm b a c d 2, nm b a c d 3, nm b a c d 4], ⟨by simp, ?_⟩, rfl⟩
    intro x h
    simp only [List.mem_cons, List.not_mem_nil, or_false] at h
    rcases h with rfl | rfl | rfl | rfl | rfl <;> exact ⟨nm_len hb, nm_sg gb⟩
  rintro σ' M' ⟨NM, hN, rfl⟩
  refine seq4_by (fun σ' M' => ∃ a3 a4 a5 a6 a7, σ' = st p NM a3 a4 a5 a6 a7) (fun nx hx => ?_) ?_
  · unfold law_2
    refine for4_by (fun ds => True) (fun Q X q => ?_) (fun ds _ => ?_)
    · exact ⟨by decide, by decide, q _ trivial⟩
    refine loop4_name (fun ds σ M => ∃ a3 a4 a5 a6 a7, σ = st p NM a3 a4 a5 a6 a7) _ _ _ ⟨_, _, _, _, _, rfl⟩ (fun σ M h => hx _ _ h) ?_
    rintro x r σ M ⟨a3, a4, a5, a6, a7, rfl⟩ nx2 hn2
    exact L_turn (a3 := .val x) hN fun _ _ _ _ _ => hn2 _ _ ⟨_, _, _, _, _, rfl⟩
  rintro σ' M2 ⟨a3, a4, a5, a6, a7, rfl⟩
  unfold law_3
  have e1 := fun Q X => deep_eq C 12 Wd.yes Q X (by decide)
  simp only [Wd.tr, Wd.dp] at e1
  generalize deep C 12 = g at e1 ⊢
  simp only [ret4, pu, andV3, fn30, cons3, nil3, k3, tup3, op3]
  refine ⟨by decide, rfl, ?_⟩
  show Lsame C 12 [.tup [.str "yes"], .tup [.str "yes"]] _ _
  rw [same12 C (by simp [plain, plainL]) (by simp [plain, plainL]) (by simp)]
  simp only [same_tup, sameL_cons, same_str, sameL_nil, decide_true, Bool.and_self, asB_bl, ob_some, if_true]
  refine ⟨rfl, ?_⟩
  show Lsame C 12 [.int 8, .int 8] _ _
  rw [same12 C (by simp) (by simp) (by simp)]
  simp only [same_int, decide_true, asB_bl, ob_some, if_true]
  refine ⟨by decide, rfl, ?_⟩
  show g [.tup [.str "yes"]] _ _
  rw [e1]
  simp [seq3, next3, ret3, retN3, ifs3, drop3, asg3, name3, tst3, and3, or3, not3, andV3, orV3, notV3, if3, v3, k3, op3, un3, nil3, cons3, call3, tup3, lst3, chain3, fn30, fn3, fnN30, fnN3, fnP30, i2, i2c, i1, isN3, notN3, eqS3, neS3, ixL3, ixT3, len3, all3, any3, abs3, max23, min23, isi3, isB3, truth3, start3, slot, flatT, scal, tyn, M3.isNon, lenT, truT, isiB, Option.bind, take3, kb_non_bool, kb_non_int, kb_non_str, kb_non_list, kb_non_tuple, kb_bool_bool, kb_bool_int, kb_bool_str, kb_bool_list, kb_bool_tuple, kb_int_bool, kb_int_int, kb_int_str, kb_int_list, kb_int_tuple, kb_str_bool, kb_str_int, kb_str_str, kb_str_list, kb_str_tuple, kb_list_bool, kb_list_int, kb_list_str, kb_list_list, kb_list_tuple, kb_tuple_bool, kb_tuple_int, kb_tuple_str, kb_tuple_list, kb_tuple_tuple, addP, mulP, ixP, slP, eqP, neP, isSeq, iterP, itemsP, no3, part3, sl3, raise3, brk3, cont3, M3.ltP, M3.leP, M3.gtP, M3.geP]
end Law

namespace Law
open PySem L2 M3
theorem all_mk {l : PySem.W.OpenLaw} {w : World} {K : PySem.W.Frag} {h : Heap} {mg : Str → Option Value} {fa : Addr} (X : K.In h) (G : h.Ns mainGlobals mg) (hfa : mg "law" = some (.ref fa))
    {f0 : Addr} {od0 an0 : Option Addr} {sl0 : Array (Option Value)} {oc0 dc0 pm0 ct0 : Value} {kV0 : Value} {cd0 : Value} {f1 : Addr} {od1 an1 : Option Addr} {sl1 : Array (Option Value)} {oc1 dc1 pm1 ct1 : Value} {kV1 : Value} {cd1 : Value} {f2 : Addr} {od2 an2 : Option Addr} {sl2 : Array (Option Value)} {oc2 dc2 pm2 ct2 : Value} {kV2 : Value} {cd2 : Value} {f3 : Addr} {od3 an3 : Option Addr} {sl3 : Array (Option Value)} {oc3 dc3 pm3 ct3 : Value} {kV3 : Value} {cd3 : Value} {f4 : Addr} {od4 an4 : Option Addr} {sl4 : Array (Option Value)} {oc4 dc4 pm4 ct4 : Value} {kV4 : Value} {cd4 : Value} {f5 : Addr} {od5 an5 : Option Addr} {sl5 : Array (Option Value)} {oc5 dc5 pm5 ct5 : Value} {kV5 : Value} {cd5 : Value} {f6 : Addr} {od6 an6 : Option Addr} {sl6 : Array (Option Value)} {oc6 dc6 pm6 ct6 : Value} {kV6 : Value} {cd6 : Value} {f7 : Addr} {od7 an7 : Option Addr} {sl7 : Array (Option Value)} {oc7 dc7 pm7 ct7 : Value} {kV7 : Value} {cd7 : Value} {f8 : Addr} {od8 an8 : Option Addr} {sl8 : Array (Option Value)} {oc8 dc8 pm8 ct8 : Value} {kV8 : Value} {cd8 : Value} {f9 : Addr} {od9 an9 : Option Addr} {sl9 : Array (Option Value)} {oc9 dc9 pm9 ct9 : Value} {kV9 : Value} {cd9 : Value} {f10 : Addr} {od10 an10 : Option Addr} {sl10 : Array (Option Value)} {oc10 dc10 pm10 ct10 : Value} {kV10 : Value} {cd10 : Value} {f11 : Addr} {od11 an11 : Option Addr} {sl11 : Array (Option Value)} {oc11 dc11 pm11 ct11 : Value} {kV11 : Value} {cd11 : Value} {f12 : Addr} {od12 an12 : Option Addr} {sl12 : Array (Option Value)} {oc12 dc12 pm12 ct12 : Value} {kV12 : Value} {cd12 : Value} {u_ALWAYS : Value} {A_r_ALWAYS : Addr} {o_r_ALWAYS : Obj} {i_r_ALWAYS : List Value} {n_r_ALWAYS : Nat} {v_r_ALWAYS_0 : Value} {u_MOST_DEEP : Value}
    (a0 : PySem.W.nsIn K mainGlobals "sides_in" = some (some (.ref f0)))
    (l0 : K.lookup f0 = some ⟨oc0, od0, .func (PySem.W.fnOf "sides_in" "sides_in" (defArgs s_sides_in) (defBody s_sides_in) (defScope s_sides_in) .none kV0 dc0 pm0 an0 cd0 ct0), sl0⟩)
    (c0 : PySem.W.codeIn K cd0 "sides_in" = true)
    (k0 : PySem.W.keepIn K (.ref f0) = true)
    (a1 : PySem.W.nsIn K mainGlobals "deep" = some (some (.ref f1)))
    (l1 : K.lookup f1 = some ⟨oc1, od1, .func (PySem.W.fnOf "deep" "deep" (defArgs s_deep) (defBody s_deep) (defScope s_deep) .none kV1 dc1 pm1 an1 cd1 ct1), sl1⟩)
    (c1 : PySem.W.codeIn K cd1 "deep" = true)
    (k1 : PySem.W.keepIn K (.ref f1) = true)
    (a2 : PySem.W.nsIn K mainGlobals "columns_in" = some (some (.ref f2)))
    (l2 : K.lookup f2 = some ⟨oc2, od2, .func (PySem.W.fnOf "columns_in" "columns_in" (defArgs s_columns_in) (defBody s_columns_in) (defScope s_columns_in) .none kV2 dc2 pm2 an2 cd2 ct2), sl2⟩)
    (c2 : PySem.W.codeIn K cd2 "columns_in" = true)
    (k2 : PySem.W.keepIn K (.ref f2) = true)
    (a3 : PySem.W.nsIn K mainGlobals "_law_pot" = some (some (.ref f3)))
    (l3 : K.lookup f3 = some ⟨oc3, od3, .func (PySem.W.fnOf "_law_pot" "_law_pot" (defArgs s_Lpot) (defBody s_Lpot) (defScope s_Lpot) .none kV3 dc3 pm3 an3 cd3 ct3), sl3⟩)
    (c3 : PySem.W.codeIn K cd3 "_law_pot" = true)
    (k3 : PySem.W.keepIn K (.ref f3) = true)
    (a4 : PySem.W.nsIn K mainGlobals "_law_take" = some (some (.ref f4)))
    (l4 : K.lookup f4 = some ⟨oc4, od4, .func (PySem.W.fnOf "_law_take" "_law_take" (defArgs s_Ltake) (defBody s_Ltake) (defScope s_Ltake) .none kV4 dc4 pm4 an4 cd4 ct4), sl4⟩)
    (c4 : PySem.W.codeIn K cd4 "_law_take" = true)
    (k4 : PySem.W.keepIn K (.ref f4) = true)
    (a5 : PySem.W.nsIn K mainGlobals "_law_same" = some (some (.ref f5)))
    (l5 : K.lookup f5 = some ⟨oc5, od5, .func (PySem.W.fnOf "_law_same" "_law_same" (defArgs s_Lsame) (defBody s_Lsame) (defScope s_Lsame) .none kV5 dc5 pm5 an5 cd5 ct5), sl5⟩)
    (c5 : PySem.W.codeIn K cd5 "_law_same" = true)
    (k5 : PySem.W.keepIn K (.ref f5) = true)
    (a6 : PySem.W.nsIn K mainGlobals "_law_names" = some (some (.ref f6)))
    (l6 : K.lookup f6 = some ⟨oc6, od6, .func (PySem.W.fnOf "_law_names" "_law_names" (defArgs s_Lnames) (defBody s_Lnames) (defScope s_Lnames) .none kV6 dc6 pm6 an6 cd6 ct6), sl6⟩)
    (c6 : PySem.W.codeIn K cd6 "_law_names" = true)
    (k6 : PySem.W.keepIn K (.ref f6) = true)
    (a7 : PySem.W.nsIn K mainGlobals "_law_cell" = some (some (.ref f7)))
    (l7 : K.lookup f7 = some ⟨oc7, od7, .func (PySem.W.fnOf "_law_cell" "_law_cell" (defArgs s_Lcell) (defBody s_Lcell) (defScope s_Lcell) .none kV7 dc7 pm7 an7 cd7 ct7), sl7⟩)
    (c7 : PySem.W.codeIn K cd7 "_law_cell" = true)
    (k7 : PySem.W.keepIn K (.ref f7) = true)
    (a8 : PySem.W.nsIn K mainGlobals "_law_value" = some (some (.ref f8)))
    (l8 : K.lookup f8 = some ⟨oc8, od8, .func (PySem.W.fnOf "_law_value" "_law_value" (defArgs s_Lvalue) (defBody s_Lvalue) (defScope s_Lvalue) .none kV8 dc8 pm8 an8 cd8 ct8), sl8⟩)
    (c8 : PySem.W.codeIn K cd8 "_law_value" = true)
    (k8 : PySem.W.keepIn K (.ref f8) = true)
    (a9 : PySem.W.nsIn K mainGlobals "_law_truth" = some (some (.ref f9)))
    (l9 : K.lookup f9 = some ⟨oc9, od9, .func (PySem.W.fnOf "_law_truth" "_law_truth" (defArgs s_Ltruth) (defBody s_Ltruth) (defScope s_Ltruth) .none kV9 dc9 pm9 an9 cd9 ct9), sl9⟩)
    (c9 : PySem.W.codeIn K cd9 "_law_truth" = true)
    (k9 : PySem.W.keepIn K (.ref f9) = true)
    (a10 : PySem.W.nsIn K mainGlobals "_law_depth" = some (some (.ref f10)))
    (l10 : K.lookup f10 = some ⟨oc10, od10, .func (PySem.W.fnOf "_law_depth" "_law_depth" (defArgs s_Ldepth) (defBody s_Ldepth) (defScope s_Ldepth) .none kV10 dc10 pm10 an10 cd10 ct10), sl10⟩)
    (c10 : PySem.W.codeIn K cd10 "_law_depth" = true)
    (k10 : PySem.W.keepIn K (.ref f10) = true)
    (a11 : PySem.W.nsIn K mainGlobals "_law_columns" = some (some (.ref f11)))
    (l11 : K.lookup f11 = some ⟨oc11, od11, .func (PySem.W.fnOf "_law_columns" "_law_columns" (defArgs s_Lcolumns) (defBody s_Lcolumns) (defScope s_Lcolumns) .none kV11 dc11 pm11 an11 cd11 ct11), sl11⟩)
    (c11 : PySem.W.codeIn K cd11 "_law_columns" = true)
    (k11 : PySem.W.keepIn K (.ref f11) = true)
    (a12 : PySem.W.nsIn K mainGlobals "law" = some (some (.ref f12)))
    (l12 : K.lookup f12 = some ⟨oc12, od12, .func (PySem.W.fnOf "law" "law" (defArgs s_law) (defBody s_law) (defScope s_law) .none kV12 dc12 pm12 an12 cd12 ct12), sl12⟩)
    (c12 : PySem.W.codeIn K cd12 "law" = true)
    (k12 : PySem.W.keepIn K (.ref f12) = true)
    (z_abs : PySem.W.nsIn K mainGlobals "abs" = some none)
    (z_all : PySem.W.nsIn K mainGlobals "all" = some none)
    (z_bool : PySem.W.nsIn K mainGlobals "bool" = some none)
    (z_int : PySem.W.nsIn K mainGlobals "int" = some none)
    (z_isinstance : PySem.W.nsIn K mainGlobals "isinstance" = some none)
    (z_len : PySem.W.nsIn K mainGlobals "len" = some none)
    (z_list : PySem.W.nsIn K mainGlobals "list" = some none)
    (z_max : PySem.W.nsIn K mainGlobals "max" = some none)
    (z_min : PySem.W.nsIn K mainGlobals "min" = some none)
    (z_range : PySem.W.nsIn K mainGlobals "range" = some none)
    (z_set : PySem.W.nsIn K mainGlobals "set" = some none)
    (z_sorted : PySem.W.nsIn K mainGlobals "sorted" = some none)
    (z_str : PySem.W.nsIn K mainGlobals "str" = some none)
    (z_tuple : PySem.W.nsIn K mainGlobals "tuple" = some none)
    (z_zip : PySem.W.nsIn K mainGlobals "zip" = some none)
    (g_ALWAYS : PySem.W.nsIn K mainGlobals "ALWAYS" = some (some u_ALWAYS))
    (u_r_ALWAYS : u_ALWAYS = .ref A_r_ALWAYS)
    (l_r_ALWAYS : K.lookup A_r_ALWAYS = some o_r_ALWAYS)
    (c_r_ALWAYS : o_r_ALWAYS.cls = .type "tuple")
    (e_r_ALWAYS : o_r_ALWAYS.dict = none)
    (d_r_ALWAYS : o_r_ALWAYS.data = .seq i_r_ALWAYS.toArray n_r_ALWAYS)
    (s_r_ALWAYS : i_r_ALWAYS = [v_r_ALWAYS_0])
    (r_ALWAYS_0 : TreeAt K (.str "yes") v_r_ALWAYS_0)
    (g_MOST_DEEP : PySem.W.nsIn K mainGlobals "MOST_DEEP" = some (some u_MOST_DEEP))
    (r_MOST_DEEP : TreeAt K (.int 8) u_MOST_DEEP) :
    ∃ fd : FuncData, (∀ (s : Shared) (v : Value), BindsTo s fd ⟨[v], []⟩ [("_law_script", v)]) ∧ ∀ base : Heap, K.In base → base.Ns mainGlobals mg → FnOk l.prog w K mg base CX0 15 fa fd ["_law_script"] (spLaw K) := by
  have m0 := PySem.W.mg_of X G a0
  have D_sides_in : DefAt K mg "sides_in" "sides_in" s_sides_in [] [] [] := defAt_mk m0 l0 c0 k0 (.inl ⟨rfl, rfl⟩) (.inl ⟨rfl, rfl⟩)
  have m1 := PySem.W.mg_of X G a1
  have D_deep : DefAt K mg "deep" "deep" s_deep [] [] [] := defAt_mk m1 l1 c1 k1 (.inl ⟨rfl, rfl⟩) (.inl ⟨rfl, rfl⟩)
  have m2 := PySem.W.mg_of X G a2
  have D_columns_in : DefAt K mg "columns_in" "columns_in" s_columns_in [] [] [] := defAt_mk m2 l2 c2 k2 (.inl ⟨rfl, rfl⟩) (.inl ⟨rfl, rfl⟩)
  have m3 := PySem.W.mg_of X G a3
  have D_Lpot : DefAt K mg "_law_pot" "_law_pot" s_Lpot [] [] [] := defAt_mk m3 l3 c3 k3 (.inl ⟨rfl, rfl⟩) (.inl ⟨rfl, rfl⟩)
  have m4 := PySem.W.mg_of X G a4
  have D_Ltake : DefAt K mg "_law_take" "_law_take" s_Ltake [] [] [] := defAt_mk m4 l4 c4 k4 (.inl ⟨rfl, rfl⟩) (.inl ⟨rfl, rfl⟩)
  have m5 := PySem.W.mg_of X G a5
  have D_Lsame : DefAt K mg "_law_same" "_law_same" s_Lsame [] [] [] := defAt_mk m5 l5 c5 k5 (.inl ⟨rfl, rfl⟩) (.inl ⟨rfl, rfl⟩)
  have m6 := PySem.W.mg_of X G a6
  have D_Lnames : DefAt K mg "_law_names" "_law_names" s_Lnames [] [] [] := defAt_mk m6 l6 c6 k6 (.inl ⟨rfl, rfl⟩) (.inl ⟨rfl, rfl⟩)
  have m7 := PySem.W.mg_of X G a7
  have D_Lcell : DefAt K mg "_law_cell" "_law_cell" s_Lcell [] [] [] := defAt_mk m7 l7 c7 k7 (.inl ⟨rfl, rfl⟩) (.inl ⟨rfl, rfl⟩)
  have m8 := PySem.W.mg_of X G a8
  have D_Lvalue : DefAt K mg "_law_value" "_law_value" s_Lvalue [] [] [] := defAt_mk m8 l8 c8 k8 (.inl ⟨rfl, rfl⟩) (.inl ⟨rfl, rfl⟩)
  have m9 := PySem.W.mg_of X G a9
  have D_Ltruth : DefAt K mg "_law_truth" "_law_truth" s_Ltruth [] [] [] := defAt_mk m9 l9 c9 k9 (.inl ⟨rfl, rfl⟩) (.inl ⟨rfl, rfl⟩)
  have m10 := PySem.W.mg_of X G a10
  have D_Ldepth : DefAt K mg "_law_depth" "_law_depth" s_Ldepth [] [] [] := defAt_mk m10 l10 c10 k10 (.inl ⟨rfl, rfl⟩) (.inl ⟨rfl, rfl⟩)
  have m11 := PySem.W.mg_of X G a11
  have D_Lcolumns : DefAt K mg "_law_columns" "_law_columns" s_Lcolumns [] [] [] := defAt_mk m11 l11 c11 k11 (.inl ⟨rfl, rfl⟩) (.inl ⟨rfl, rfl⟩)
  have m12 := PySem.W.mg_of X G a12
  have zb_abs := PySem.W.mg_none_of X G z_abs
  have zb_all := PySem.W.mg_none_of X G z_all
  have zb_bool := PySem.W.mg_none_of X G z_bool
  have zb_int := PySem.W.mg_none_of X G z_int
  have zb_isinstance := PySem.W.mg_none_of X G z_isinstance
  have zb_len := PySem.W.mg_none_of X G z_len
  have zb_list := PySem.W.mg_none_of X G z_list
  have zb_max := PySem.W.mg_none_of X G z_max
  have zb_min := PySem.W.mg_none_of X G z_min
  have zb_range := PySem.W.mg_none_of X G z_range
  have zb_set := PySem.W.mg_none_of X G z_set
  have zb_sorted := PySem.W.mg_none_of X G z_sorted
  have zb_str := PySem.W.mg_none_of X G z_str
  have zb_tuple := PySem.W.mg_none_of X G z_tuple
  have zb_zip := PySem.W.mg_none_of X G z_zip
  obtain ⟨v_ALWAYS, r1_ALWAYS, r2_ALWAYS⟩ : TreeAt K (.tup [(.str "yes")]) u_ALWAYS := (by rw [u_r_ALWAYS]; exact treeAt_tup (hn := e_r_ALWAYS) l_r_ALWAYS c_r_ALWAYS d_r_ALWAYS (by rw [s_r_ALWAYS]; show 1 ≤ sizeLine; decide) (by rw [s_r_ALWAYS]) (.cons r_ALWAYS_0 .nil))
  obtain ⟨v_MOST_DEEP, r1_MOST_DEEP, r2_MOST_DEEP⟩ : TreeAt K (.int 8) u_MOST_DEEP := r_MOST_DEEP
  have T : Top w K mg := ⟨D_sides_in,
    D_deep,
    D_columns_in,
    D_Lpot,
    D_Ltake,
    D_Lsame,
    D_Lnames,
    D_Lcell,
    D_Lvalue,
    D_Ltruth,
    D_Ldepth,
    D_Lcolumns,
    zb_abs,
    zb_all,
    zb_bool,
    zb_int,
    zb_isinstance,
    zb_len,
    zb_list,
    zb_max,
    zb_min,
    zb_range,
    zb_set,
    zb_sorted,
    zb_str,
    zb_tuple,
    zb_zip,
    ⟨u_ALWAYS, v_ALWAYS, PySem.W.mg_of X G g_ALWAYS, r1_ALWAYS, r2_ALWAYS⟩,
    ⟨u_MOST_DEEP, v_MOST_DEEP, PySem.W.mg_of X G g_MOST_DEEP, r1_MOST_DEEP, r2_MOST_DEEP⟩⟩
  have e := hfa.symm.trans m12
  cases e
  refine ⟨PySem.W.fnOf "law" "law" (defArgs s_law) (defBody s_law) (defScope s_law) .none kV12 dc12 pm12 an12 cd12 ct12, fun s v => .of_eq rfl, fun base _ _ => ok_law T base (law_plain _) (fun_mk (st := s_law) l12 c12 k12)⟩
theorem walk {l : PySem.W.OpenLaw} {q : Program} {loose : List Str} {XP : (Str → Option Value) → Heap → Prop} {YP : World → Heap → Prop} {d : DefRec} {K : Params → PySem.W.Frag} (hn : l.most = some 63) (hdf : d.params.defaults = [])
    (hY : ∀ (w : World) (h : Heap), YP w h → (K w.params).In h)
    (F : ∀ (w : World) (mg : Str → Option Value) (fa : Addr) (h : Heap), (K w.params).In h → h.Ns mainGlobals mg → mg d.name = some (.ref fa) →
      ∃ fd : FuncData, (∀ (s : Shared) (u : Value), BindsTo s fd ⟨[u], []⟩ [("_law_script", u)]) ∧ ∀ base : Heap, (K w.params).In base → base.Ns mainGlobals mg → FnOk l.prog w (K w.params) mg base CX0 15 fa fd ["_law_script"] (spLaw (K w.params))) :
    PySem.W.WalkO q loose XP YP l.row.toRowW d [] (fun f vs => PySem.call f vs) :=
  L2.walk_of (n := 63) (k := 15) (x := "_law_script") (CX := fun _ => CX0) (sp := fun w => spLaw (K w.params)) hn (by decide) hdf ⟨rfl, by decide, by decide⟩ hY F (fun _ _ a ns hl _ hS => ⟨a, ns, rfl, hS, fun _ => rfl⟩) fun _ _ _ _ _ z => z
end Law
open PySem PySem.W PyProof.Rows
set_option maxRecDepth 100000 in
set_option maxHeartbeats 0 in
theorem PySem.Challenge.cw_onepour_k06_deep_words_and_their_columns_holds : PySem.Challenge.rw_onepour_k06_deep_words_and_their_columns.Holds := by
  w_on; o_law; k_head; (case hw => w_witness2)
  k_fill
  refine Law.walk (l := PySem.Challenge.rw_onepour_k06_deep_words_and_their_columns) rfl rfl (fun w h Y => PySem.W.kIn_of Y) ?F
  case F =>
    intro w mg fa h KX G hmg
    refine' Law.all_mk KX G hmg ?a0 ?l0 ?c0 ?k0 ?a1 ?l1 ?c1 ?k1 ?a2 ?l2 ?c2 ?k2 ?a3 ?l3 ?c3 ?k3 ?a4 ?l4 ?c4 ?k4 ?a5 ?l5 ?c5 ?k5 ?a6 ?l6 ?c6 ?k6 ?a7 ?l7 ?c7 ?k7 ?a8 ?l8 ?c8 ?k8 ?a9 ?l9 ?c9 ?k9 ?a10 ?l10 ?c10 ?k10 ?a11 ?l11 ?c11 ?k11 ?a12 ?l12 ?c12 ?k12 ?z_abs ?z_all ?z_bool ?z_int ?z_isinstance ?z_len ?z_list ?z_max ?z_min ?z_range ?z_set ?z_sorted ?z_str ?z_tuple ?z_zip ?g_ALWAYS ?u_r_ALWAYS ?l_r_ALWAYS ?c_r_ALWAYS ?e_r_ALWAYS ?d_r_ALWAYS ?s_r_ALWAYS ?r_ALWAYS_0 ?g_MOST_DEEP ?r_MOST_DEEP
    (case a0 => k_is)
    (case l0 => k_is)
    (case c0 => k_is)
    (case k0 => k_is)
    (case a1 => k_is)
    (case l1 => k_is)
    (case c1 => k_is)
    (case k1 => k_is)
    (case a2 => k_is)
    (case l2 => k_is)
    (case c2 => k_is)
    (case k2 => k_is)
    (case a3 => k_is)
    (case l3 => k_is)
    (case c3 => k_is)
    (case k3 => k_is)
    (case a4 => k_is)
    (case l4 => k_is)
    (case c4 => k_is)
    (case k4 => k_is)
    (case a5 => k_is)
    (case l5 => k_is)
    (case c5 => k_is)
    (case k5 => k_is)
    (case a6 => k_is)
    (case l6 => k_is)
    (case c6 => k_is)
    (case k6 => k_is)
    (case a7 => k_is)
    (case l7 => k_is)
    (case c7 => k_is)
    (case k7 => k_is)
    (case a8 => k_is)
    (case l8 => k_is)
    (case c8 => k_is)
    (case k8 => k_is)
    (case a9 => k_is)
    (case l9 => k_is)
    (case c9 => k_is)
    (case k9 => k_is)
    (case a10 => k_is)
    (case l10 => k_is)
    (case c10 => k_is)
    (case k10 => k_is)
    (case a11 => k_is)
    (case l11 => k_is)
    (case c11 => k_is)
    (case k11 => k_is)
    (case a12 => k_is)
    (case l12 => k_is)
    (case c12 => k_is)
    (case k12 => k_is)
    (case z_abs => k_is)
    (case z_all => k_is)
    (case z_bool => k_is)
    (case z_int => k_is)
    (case z_isinstance => k_is)
    (case z_len => k_is)
    (case z_list => k_is)
    (case z_max => k_is)
    (case z_min => k_is)
    (case z_range => k_is)
    (case z_set => k_is)
    (case z_sorted => k_is)
    (case z_str => k_is)
    (case z_tuple => k_is)
    (case z_zip => k_is)
    (case g_ALWAYS => k_is)
    (case u_r_ALWAYS => rfl)
    (case l_r_ALWAYS => k_is)
    (case c_r_ALWAYS => rfl)
    (case e_r_ALWAYS => rfl)
    (case d_r_ALWAYS => rfl)
    (case s_r_ALWAYS => rfl)
    (case r_ALWAYS_0 => exact M3.treeAt_str)
    (case g_MOST_DEEP => k_is)
    (case r_MOST_DEEP => exact M3.treeAt_int)
#print axioms PySem.Challenge.cw_onepour_k06_deep_words_and_their_columns_holds
