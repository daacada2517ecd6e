import PyProof.Rows.All
import Wide.All
import OpenK.AllK
import Wide.FinOn
import HandS.ForMost
import HandS.Wide
import HandS.IsInst
import HandS.Defaults
import HandS.EndBits
import HandS.Exc
import HandS.Flow
import HandS.TupAny
import HandS.Zip
import HandS.Lambda
import HandS.Style
import HandS.TryMany
import HandS.ExcOwn
import HandS.WordsExc
import HandS.EndOwn
import HandS.Deep
import HandS.MakeKwOnly
import HandS.MakeKw
import PySem.Challenge.RW_onepour_k02_sums_of_cells
set_option Elab.async false
set_option linter.all false
set_option maxRecDepth 100000
set_option maxHeartbeats 4000000
/-! L3A: trees over the hand layer. A value is read as a tree (T); what may change is hidden. -/
namespace M3
open PySem L2
/-- a value as a tree -/
inductive T where
  | non | bl (b : Bool) | int (i : Int) | str (x : Str) | ty (n : String) | ref (a : Addr)
  | tup (xs : List T) | lst (xs : List T) | dic (kvs : List (Key × T)) | ins (C : Addr) (fs : List (Str × T))
/-! ### hidden addresses -/
/-- a code object's table is never seen: it may grow -/
def vis : HO → Bool
  | .tbl _ => false
  | _ => true
/-- the heap without some addresses -/
def out (S : List Addr) (H : Hp) : Hp := fun a => if a ∈ S then none else H a
theorem out_in {S : List Addr} {H : Hp} {a : Addr} (h : a ∈ S) : out S H a = none := by unfold out; rw [if_pos h]
theorem out_out {S : List Addr} {H : Hp} {a : Addr} (h : a ∉ S) : out S H a = H a := by unfold out; rw [if_neg h]
theorem out_some {S : List Addr} {H : Hp} {a : Addr} {o : HO} (h : out S H a = some o) : H a = some o ∧ a ∉ S := by
  by_cases e : a ∈ S
  · rw [out_in e] at h; cases h
  · rw [out_out e] at h; exact ⟨h, e⟩
def hid (S : List Addr) (H : Hp) : Hp := fun a => (out S H a).bind fun o => if vis o = true then some o else none
theorem hid_in {S : List Addr} {H : Hp} {a : Addr} (h : a ∈ S) : hid S H a = none := by unfold hid; rw [out_in h]; rfl
theorem hid_all {S : List Addr} {H : Hp} {a : Addr} {o : HO} (h : hid S H a = some o) : H a = some o ∧ a ∉ S ∧ vis o = true := by
  unfold hid at h
  cases e : out S H a with
  | none => rw [e] at h; cases h
  | some u =>
    rw [e] at h
    have h : (if vis u = true then some u else none) = some o := h
    by_cases v : vis u = true
    · rw [if_pos v] at h
      cases h
      exact ⟨(out_some e).1, (out_some e).2, v⟩
    · rw [if_neg v] at h; cases h
theorem hid_some {S : List Addr} {H : Hp} {a : Addr} {o : HO} (h : hid S H a = some o) : H a = some o ∧ a ∉ S := ⟨(hid_all h).1, (hid_all h).2.1⟩
theorem hid_vis {S : List Addr} {H : Hp} {a : Addr} {o : HO} (h : hid S H a = some o) : vis o = true := (hid_all h).2.2
theorem hid_mk {S : List Addr} {H : Hp} {a : Addr} {o : HO} (h : H a = some o) (n : a ∉ S) (v : vis o = true := by first | rfl | exact hid_vis (by assumption)) : hid S H a = some o := by
  unfold hid
  rw [out_out n, h]
  show (if vis o = true then some o else none) = some o
  rw [if_pos v]
theorem hid_same {S : List Addr} {H : Hp} : Same (hid S H) H := fun _ _ h => (hid_some h).1
theorem hid_mono {S S' : List Addr} {H : Hp} (h : ∀ a ∈ S', a ∈ S) : Same (hid S H) (hid S' H) := fun a _ e => by
  obtain ⟨e1, e2⟩ := hid_some e
  exact hid_mk e1 fun z => e2 (h a z)
theorem Same.rd {H H' : Hp} (e : Same H H') {a : Addr} {u : HO} (h : Rd H a u) : Rd H' a u := by
  rcases h with h | ⟨o, h⟩
  · exact .inl (e _ _ h)
  · exact .inr ⟨o, e _ _ h⟩
theorem Same.sqT {K : PySem.W.Frag} {H H' : Hp} {a : Addr} {xs : List V} (e : Same H H') (h : SqT K H a xs) : SqT K H' a xs := by
  rcases h with h | h
  · exact .inl (Same.rd e h)
  · exact .inr h
theorem Same.sqL {K : PySem.W.Frag} {H H' : Hp} {a : Addr} {xs : List V} (e : Same H H') (h : SqL K H a xs) : SqL K H' a xs := by
  rcases h with h | h
  · exact .inl (Same.rd e h)
  · exact .inr h
/-! ### what a tree is in a heap -/
inductive Rep (K : PySem.W.Frag) (H : Hp) : V → T → Prop where
  | non : Rep K H .non .non
  | bl (b : Bool) : Rep K H (.bl b) (.bl b)
  | int (i : Int) : Rep K H (.int i) (.int i)
  | str (x : Str) : Rep K H (.str x) (.str x)
  | ty (n : String) : Rep K H (.ty n) (.ty n)
  | ref (a : Addr) : Rep K H (.ref a) (.ref a)
  | tup {a : Addr} {vs : List V} {ts : List T} (h : SqT K H a vs) (hl : vs.length = ts.length) (hr : ∀ (i : Nat) v t, vs[i]? = some v → ts[i]? = some t → Rep K H v t) : Rep K H (.ref a) (.tup ts)
  | lst {a : Addr} {vs : List V} {ts : List T} (h : H a = some (.lst vs)) (hl : vs.length = ts.length) (hr : ∀ (i : Nat) v t, vs[i]? = some v → ts[i]? = some t → Rep K H v t) : Rep K H (.ref a) (.lst ts)
  | dic {a : Addr} {kvs : List (Key × V)} {ts : List (Key × T)} (h : Rd H a (.dK kvs)) (hk : kvs.map (·.1) = ts.map (·.1))
      (hr : ∀ (i : Nat) v t, (kvs.map (·.2))[i]? = some v → (ts.map (·.2))[i]? = some t → Rep K H v t) : Rep K H (.ref a) (.dic ts)
  | ins {a C dx : Addr} {fs : List (Str × V)} {ts : List (Str × T)} (h : H a = some (.ins C dx fs)) (hk : fs.map (·.1) = ts.map (·.1))
      (hr : ∀ (i : Nat) v t, (fs.map (·.2))[i]? = some v → (ts.map (·.2))[i]? = some t → Rep K H v t) : Rep K H (.ref a) (.ins C ts)
abbrev RepL (K : PySem.W.Frag) (H : Hp) : List V → List T → Prop := Paired (Rep K H)
section
variable {K : PySem.W.Frag} {H H' : Hp} {v : V} {t : T} {vs : List V} {ts : List T} {a : Addr}
theorem Rep.mono (r : Rep K H v t) (e : Same H H') : Rep K H' v t := by
  induction r with
  | non => exact .non
  | bl b => exact .bl b
  | int i => exact .int i
  | str x => exact .str x
  | ty n => exact .ty n
  | ref a => exact .ref a
  | tup h hl _ ih => exact .tup (Same.sqT e h) hl ih
  | lst h hl _ ih => exact .lst (e _ _ h) hl ih
  | dic h hk _ ih => exact .dic (Same.rd e h) hk ih
  | ins h hk _ ih => exact .ins (e _ _ h) hk ih
theorem repL_mk : ∀ {vs : List V} {ts : List T}, vs.length = ts.length → (∀ (i : Nat) v t, vs[i]? = some v → ts[i]? = some t → Rep K H v t) → RepL K H vs ts
  | [], [], _, _ => .nil
  | v :: vs, t :: ts, hl, hr => .cons (hr 0 v t rfl rfl) (repL_mk (by simpa using hl) fun i v t h1 h2 => hr (i + 1) v t (by simpa using h1) (by simpa using h2))
  | [], _ :: _, hl, _ => by simp at hl
  | _ :: _, [], hl, _ => by simp at hl
theorem RepL.length (r : RepL K H vs ts) : vs.length = ts.length := Paired.length r
theorem RepL.at : ∀ {vs : List V} {ts : List T} {i : Nat} {v : V} {t : T}, RepL K H vs ts → vs[i]? = some v → ts[i]? = some t → Rep K H v t
  | _, _, _, _, _, .nil, e, _ => by simp at e
  | _, _, 0, _, _, .cons r _, e, f => by simp at e f; subst e; subst f; exact r
  | _, _, i + 1, v, t, .cons _ q, e, f => RepL.at (i := i) (v := v) (t := t) q (by simpa using e) (by simpa using f)
theorem RepL.get : ∀ {vs : List V} {ts : List T} {i : Nat} {t : T}, RepL K H vs ts → ts[i]? = some t → ∃ v, vs[i]? = some v ∧ Rep K H v t
  | _, _, _, _, .nil, e => by simp at e
  | _, _, 0, _, .cons r _, e => by simp at e; subst e; exact ⟨_, rfl, r⟩
  | _, _, i + 1, t, .cons _ q, e => by
    obtain ⟨v, h1, h2⟩ := RepL.get (i := i) (t := t) q (by simpa using e)
    exact ⟨v, by simpa using h1, h2⟩
theorem RepL.mono (r : RepL K H vs ts) (e : Same H H') : RepL K H' vs ts := Paired.mapP r fun _ _ z => z.mono e
theorem RepL.append : ∀ {vs ws : List V} {ts us : List T}, RepL K H vs ts → RepL K H ws us → RepL K H (vs ++ ws) (ts ++ us)
  | _, _, _, _, .nil, s => s
  | _, _, _, _, .cons r t, s => .cons r (RepL.append t s)
theorem RepL.take : ∀ {vs : List V} {ts : List T} (n : Nat), RepL K H vs ts → RepL K H (vs.take n) (ts.take n)
  | _, _, 0, _ => .nil
  | _, _, _ + 1, .nil => .nil
  | _, _, n + 1, .cons r t => .cons r (RepL.take n t)
theorem RepL.drop : ∀ {vs : List V} {ts : List T} (n : Nat), RepL K H vs ts → RepL K H (vs.drop n) (ts.drop n)
  | _, _, 0, r => r
  | _, _, _ + 1, .nil => .nil
  | _, _, n + 1, .cons _ t => RepL.drop n t
theorem RepL.set {v : V} {t : T} (r : Rep K H v t) : ∀ {vs : List V} {ts : List T} (i : Nat), RepL K H vs ts → RepL K H (vs.set i v) (ts.set i t)
  | _, _, _, .nil => .nil
  | _, _, 0, .cons _ q => .cons r q
  | _, _, i + 1, .cons p q => .cons p (RepL.set r i q)
theorem Rep.mkT (h : SqT K H a vs) (r : RepL K H vs ts) : Rep K H (.ref a) (.tup ts) := .tup h r.length fun _ _ _ => r.at
theorem Rep.mkL (h : H a = some (.lst vs)) (r : RepL K H vs ts) : Rep K H (.ref a) (.lst ts) := .lst h r.length fun _ _ _ => r.at
theorem Rep.tupI (r : Rep K H v (.tup ts)) : ∃ a vs, v = .ref a ∧ SqT K H a vs ∧ RepL K H vs ts := by
  cases r with
  | tup h hl hr => exact ⟨_, _, rfl, h, repL_mk hl hr⟩
theorem Rep.lstI (r : Rep K H v (.lst ts)) : ∃ a vs, v = .ref a ∧ H a = some (.lst vs) ∧ RepL K H vs ts := by
  cases r with
  | lst h hl hr => exact ⟨_, _, rfl, h, repL_mk hl hr⟩
theorem Rep.intI {i : Int} (r : Rep K H v (.int i)) : v = .int i := by cases r; rfl
theorem Rep.blI {b : Bool} (r : Rep K H v (.bl b)) : v = .bl b := by cases r; rfl
theorem Rep.strI {x : Str} (r : Rep K H v (.str x)) : v = .str x := by cases r; rfl
theorem Rep.nonI (r : Rep K H v .non) : v = .non := by cases r; rfl
theorem Rep.tyI {n : String} (r : Rep K H v (.ty n)) : v = .ty n := by cases r; rfl
theorem Rep.refI (r : Rep K H v (.ref a)) : v = .ref a := by cases r; rfl
end
/-! ### the state -/
inductive Sl where
  | no | val (t : T) | own (t : T)
/-- things known by what is true of their object (code objects) stay -/
def SameX (H H' : Hp) : Prop := ∀ a φ, H a = some (.ext φ) → H' a = some (.ext φ)
/-- what is hidden from the trees for good: its addresses, and what is true of them -/
structure Cf where
  S0 : List Addr
  I : Hp → Prop
  st : ∀ H H', (∀ a ∈ S0, H' a = H a) → SameX H H' → I H → I H'
  on : ∀ H, I H → ∀ a ∈ S0, H a ≠ none
  gOk : HO → Prop
  gL : ∀ vs, gOk (.lst vs)
def addrs (A : List (Option Addr)) : List Addr := A.filterMap id
def Cf.S (c : Cf) (G : List Addr) (A : List (Option Addr)) : List Addr := c.S0 ++ G ++ addrs A
def OwnRep (K : PySem.W.Frag) (Hv H : Hp) (a : Addr) : T → Prop
  | .lst xs => ∃ vs, H a = some (.lst vs) ∧ RepL K Hv vs xs
  | .dic kvs => ∃ ks, H a = some (.dK ks) ∧ ks.map (·.1) = kvs.map (·.1) ∧ RepL K Hv (ks.map (·.2)) (kvs.map (·.2))
  | _ => False
def SlRep (K : PySem.W.Frag) (Hv H : Hp) (s : Sl) (o : Option Addr) (x : Option V) : Prop :=
  match s with
  | .no => o = none
  | .val t => o = none ∧ ∃ v, x = some v ∧ Rep K Hv v t
  | .own t => ∃ a, o = some a ∧ x = some (.ref a) ∧ OwnRep K Hv H a t
structure R3 (K : PySem.W.Frag) (c : Cf) (Hb : Hp) (G : List Addr) (A : List (Option Addr)) (σ3 : List Sl) (σ : St) (H : Hp) : Prop where
  inv : c.I H
  base : Same (hid (c.S0 ++ G) Hb) (hid (c.S G A) H)
  gk : ∀ a ∈ G, H a = Hb a ∧ H a ≠ none ∧ a ∉ c.S0
  gv : ∀ a ∈ G, ∀ o, H a = some o → c.gOk o
  nd : (addrs A).Nodup
  ns : ∀ a ∈ addrs A, a ∉ c.S0 ++ G
  l1 : A.length = σ3.length
  l2 : σ.length = σ3.length
  at_ : ∀ (i : Nat) s o x, σ3[i]? = some s → A[i]? = some o → σ[i]? = some x → SlRep K (hid (c.S G A) H) H s o x
/-- from one heap to a later one, while an expression is reckoned -/
structure Le (c : Cf) (G : List Addr) (A : List (Option Addr)) (H H' : Hp) : Prop where
  vis : Same (hid (c.S G A) H) (hid (c.S G A) H')
  own : ∀ a ∈ G ++ addrs A, H' a = H a
  inv : c.I H'
theorem Le.trans {c : Cf} {G : List Addr} {A : List (Option Addr)} {H H1 H2 : Hp} (a : Le c G A H H1) (b : Le c G A H1 H2) : Le c G A H H2 :=
  ⟨Same.trans a.vis b.vis, fun x h => (b.own x h).trans (a.own x h), b.inv⟩
theorem Le.refl {c : Cf} {G : List Addr} {A : List (Option Addr)} {H : Hp} (h : c.I H) : Le c G A H H := ⟨Same.refl _, fun _ _ => rfl, h⟩
theorem mem_S {c : Cf} {G : List Addr} {A : List (Option Addr)} {a : Addr} : a ∈ c.S G A ↔ a ∈ c.S0 ∨ a ∈ G ∨ a ∈ addrs A := by
  unfold Cf.S
  rw [List.mem_append, List.mem_append, or_assoc]
theorem mem_addrs {A : List (Option Addr)} {a : Addr} : a ∈ addrs A ↔ some a ∈ A := by
  unfold addrs
  rw [List.mem_filterMap]
  exact ⟨fun ⟨x, h, e⟩ => by cases e; exact h, fun h => ⟨_, h, rfl⟩⟩
section
variable {K : PySem.W.Frag} {c : Cf} {Hb H H' : Hp} {G : List Addr} {A : List (Option Addr)} {σ3 : List Sl} {σ : St} {v : V} {t : T}
theorem OwnRep.mono {Hv Hv' : Hp} {a : Addr} {t : T} (r : OwnRep K Hv H a t) (e : Same Hv Hv') (h : H' a = H a) : OwnRep K Hv' H' a t := by
  cases t with
  | lst xs => obtain ⟨vs, h1, h2⟩ := r; exact ⟨vs, h.trans h1, h2.mono e⟩
  | dic kvs => obtain ⟨ks, h1, h2, h3⟩ := r; exact ⟨ks, h.trans h1, h2, h3.mono e⟩
  | _ => exact r
theorem OwnRep.there {Hv : Hp} {a : Addr} {t : T} (r : OwnRep K Hv H a t) : H a ≠ none := by
  cases t with
  | lst xs => obtain ⟨vs, h1, h2⟩ := r; rw [h1]; intro z; cases z
  | dic kvs => obtain ⟨ks, h1, h2, h3⟩ := r; rw [h1]; intro z; cases z
  | _ => exact r.elim
theorem R3.le (r : R3 K c Hb G A σ3 σ H) (l : Le c G A H H') : R3 K c Hb G A σ3 σ H' where
  inv := l.inv
  base := Same.trans r.base l.vis
  gk := fun a h => ⟨(l.own a (List.mem_append.mpr (.inl h))).trans (r.gk a h).1, by rw [l.own a (List.mem_append.mpr (.inl h))]; exact (r.gk a h).2.1, (r.gk a h).2.2⟩
  gv := fun a h o e => r.gv a h o (by rw [← l.own a (List.mem_append.mpr (.inl h))]; exact e)
  nd := r.nd
  ns := r.ns
  l1 := r.l1
  l2 := r.l2
  at_ := fun i s o x h1 h2 h3 => by
    have z := r.at_ i s o x h1 h2 h3
    cases s with
    | no => exact z
    | val t => obtain ⟨e, v, e2, q⟩ := z; exact ⟨e, v, e2, q.mono l.vis⟩
    | own t =>
      obtain ⟨a, e, e2, q⟩ := z
      refine ⟨a, e, e2, q.mono l.vis (l.own a (List.mem_append.mpr (.inr (mem_addrs.mpr ?_))))⟩
      subst e
      exact List.mem_of_getElem? h2
theorem R3.get (r : R3 K c Hb G A σ3 σ H) {i : Nat} (h : σ3[i]? = some (.val t)) : ∃ v, σ[i]? = some (some v) ∧ Rep K (hid (c.S G A) H) v t := by
  have hl : i < σ3.length := (List.getElem?_eq_some_iff.mp h).1
  have h1 : i < A.length := by rw [r.l1]; exact hl
  have h2 : i < σ.length := by rw [r.l2]; exact hl
  obtain ⟨_, v, e, q⟩ := r.at_ i _ _ _ h (List.getElem?_eq_getElem h1) (List.getElem?_eq_getElem h2)
  exact ⟨v, by rw [List.getElem?_eq_getElem h2, e], q⟩
/-- every hidden address is taken -/
theorem R3.there (r : R3 K c Hb G A σ3 σ H) {a : Addr} (h : a ∈ c.S G A) : H a ≠ none := by
  rcases mem_S.mp h with h | h | h
  · exact c.on H r.inv a h
  · exact (r.gk a h).2.1
  · have h' := mem_addrs.mp h
    obtain ⟨i, hi⟩ := List.getElem?_of_mem h'
    have hl : i < A.length := (List.getElem?_eq_some_iff.mp hi).1
    have h1 : i < σ3.length := by rw [← r.l1]; exact hl
    have h2 : i < σ.length := by rw [r.l2]; exact h1
    have z := r.at_ i _ _ _ (List.getElem?_eq_getElem h1) hi (List.getElem?_eq_getElem h2)
    cases e : σ3[i] with
    | no => rw [e] at z; cases z
    | val t => rw [e] at z; obtain ⟨z, _⟩ := z; cases z
    | own t =>
      rw [e] at z
      obtain ⟨b, e1, e2, q⟩ := z
      cases e1
      exact q.there
theorem R3.free (r : R3 K c Hb G A σ3 σ H) {p : Addr} (h : H p = none) : p ∉ c.S G A := fun z => r.there z h
/-- a new object -/
theorem R3.new (r : R3 K c Hb G A σ3 σ H) {p : Addr} {o : HO} (h : H p = none) : Le c G A H (upd H p o) where
  vis := fun a u e => by
    obtain ⟨e1, e2⟩ := hid_some e
    exact hid_mk (by rw [upd_ne (ne_of_none e1 h)]; exact e1) e2
  own := fun a ha => by
    have hm : a ∈ c.S G A := mem_S.mpr (by rcases List.mem_append.mp ha with z | z; exact .inr (.inl z); exact .inr (.inr z))
    have : a ≠ p := fun z => by subst z; exact r.there hm h
    rw [upd_ne this]
  inv := c.st H _ (fun a ha => by
    have hm : a ∈ c.S G A := mem_S.mpr (.inl ha)
    have : a ≠ p := fun z => by subst z; exact r.there hm h
    rw [upd_ne this]) (fun a φ e => by rw [upd_ne (ne_of_none e h)]; exact e) r.inv
theorem R3.newAt (r : R3 K c Hb G A σ3 σ H) {p : Addr} {o : HO} (h : H p = none) (v : vis o = true := by rfl) : hid (c.S G A) (upd H p o) p = some o := hid_mk upd_same (r.free h) v
theorem getElem?_set_cases {α : Type} {l : List α} {i j : Nat} {x y : α} (h : (l.set i x)[j]? = some y) : (i = j ∧ y = x ∧ i < l.length) ∨ (i ≠ j ∧ l[j]? = some y) := by
  by_cases e : i = j
  · subst e
    have hl : i < l.length := by
      have := (List.getElem?_eq_some_iff.mp h).1
      simpa using this
    rw [List.getElem?_set_self hl] at h
    cases h
    exact .inl ⟨rfl, rfl, hl⟩
  · rw [List.getElem?_set_ne e] at h
    exact .inr ⟨e, h⟩
theorem addrs_set_sub {A : List (Option Addr)} {i : Nat} : ∀ a ∈ addrs (A.set i none), a ∈ addrs A := fun a h => by
  have h' := mem_addrs.mp h
  obtain ⟨j, hj⟩ := List.getElem?_of_mem h'
  rcases getElem?_set_cases hj with ⟨_, e, _⟩ | ⟨_, e⟩
  · cases e
  · exact mem_addrs.mpr (List.mem_of_getElem? e)
theorem S_sub {A A' : List (Option Addr)} (h : ∀ a ∈ addrs A', a ∈ addrs A) : ∀ a ∈ c.S G A', a ∈ c.S G A := fun a z => by
  rcases mem_S.mp z with z | z | z
  · exact mem_S.mpr (.inl z)
  · exact mem_S.mpr (.inr (.inl z))
  · exact mem_S.mpr (.inr (.inr (h a z)))
theorem nodup_filterMap_set : ∀ {A : List (Option Addr)} {i : Nat}, (addrs A).Nodup → (addrs (A.set i none)).Nodup
  | [], i, h => by simpa using h
  | none :: A, 0, h => h
  | some a :: A, 0, h => (List.nodup_cons.mp (show (a :: addrs A).Nodup from h)).2
  | none :: A, i + 1, h => nodup_filterMap_set (A := A) (i := i) h
  | some a :: A, i + 1, h => by
    have h' := List.nodup_cons.mp (show (a :: addrs A).Nodup from h)
    exact List.nodup_cons.mpr ⟨fun z => h'.1 (addrs_set_sub a z), nodup_filterMap_set (A := A) (i := i) h'.2⟩
/-- a slot is stored with a value -/
theorem R3.set (r : R3 K c Hb G A σ3 σ H) (i : Nat) (q : Rep K (hid (c.S G A) H) v t) : R3 K c Hb G (A.set i none) (σ3.set i (.val t)) (σ.set i (some v)) H := by
  have sub : Same (hid (c.S G A) H) (hid (c.S G (A.set i none)) H) := hid_mono (S_sub addrs_set_sub)
  refine ⟨r.inv, Same.trans r.base sub, r.gk, r.gv, nodup_filterMap_set (A := A) r.nd, fun a h => r.ns a (addrs_set_sub a h), by rw [List.length_set, List.length_set, r.l1], by rw [List.length_set, List.length_set, r.l2], ?_⟩
  intro j s o x h1 h2 h3
  rcases getElem?_set_cases h1 with ⟨e, e1, _⟩ | ⟨e, e1⟩
  · subst e
    subst e1
    rcases getElem?_set_cases h2 with ⟨_, e2, _⟩ | ⟨e2, _⟩
    · subst e2
      rcases getElem?_set_cases h3 with ⟨_, e3, _⟩ | ⟨e3, _⟩
      · subst e3
        exact ⟨rfl, v, rfl, q.mono sub⟩
      · exact absurd rfl e3
    · exact absurd rfl e2
  · rw [List.getElem?_set_ne e] at h2 h3
    have z := r.at_ j s o x e1 h2 h3
    cases s with
    | no => exact z
    | val t => obtain ⟨e, v, e2, q⟩ := z; exact ⟨e, v, e2, q.mono sub⟩
    | own t => obtain ⟨a, e, e2, q⟩ := z; exact ⟨a, e, e2, q.mono sub rfl⟩
/-- a slot is forgotten -/
theorem R3.wipe1 (r : R3 K c Hb G A σ3 σ H) (i : Nat) (x : Option V) : R3 K c Hb G (A.set i none) (σ3.set i .no) (σ.set i x) H := by
  have sub : Same (hid (c.S G A) H) (hid (c.S G (A.set i none)) H) := hid_mono (S_sub addrs_set_sub)
  refine ⟨r.inv, Same.trans r.base sub, r.gk, r.gv, nodup_filterMap_set (A := A) r.nd, fun a h => r.ns a (addrs_set_sub a h), by rw [List.length_set, List.length_set, r.l1], by rw [List.length_set, List.length_set, r.l2], ?_⟩
  intro j s o x' h1 h2 h3
  rcases getElem?_set_cases h1 with ⟨e, e1, _⟩ | ⟨e, e1⟩
  · subst e
    subst e1
    rcases getElem?_set_cases h2 with ⟨_, e2, _⟩ | ⟨e2, _⟩
    · exact e2
    · exact absurd rfl e2
  · rw [List.getElem?_set_ne e] at h2 h3
    have z := r.at_ j s o x' e1 h2 h3
    cases s with
    | no => exact z
    | val t => obtain ⟨e, v, e2, q⟩ := z; exact ⟨e, v, e2, q.mono sub⟩
    | own t => obtain ⟨a, e, e2, q⟩ := z; exact ⟨a, e, e2, q.mono sub rfl⟩
end
end M3

/-! L3B: the readings of the hand layer, lifted to trees: expressions, statements. -/
namespace M3
open PySem L2
/-- an exception: its class, its fields -/
structure Xn where
  cls : Value
  fs : List (Str × T)
def XRep (K : PySem.W.Frag) (Hv : Hp) (cls : Value) (dd : Option Addr) (x : Xn) : Prop :=
  x.cls = cls ∧ match dd with
    | none => x.fs = []
    | some d => ∃ fs, Hv d = some (.xd fs) ∧ fs.map (·.1) = x.fs.map (·.1) ∧ RepL K Hv (fs.map (·.2)) (x.fs.map (·.2))
abbrev X3 := Xn → Prop
abbrev G3 (β : Type) := List Sl → (β → Prop) → X3 → Prop
abbrev E3 := G3 T
abbrev B3 := G3 Bool
abbrev A3 := G3 (List T)
/-- the one lifting: te at values is t at trees -/
def LiftG (K : PySem.W.Frag) (c : Cf) (W : WX) {α β : Type} (rel : Hp → α → β → Prop) (te : St → Hp → (α → Hp → Prop) → Prop) (t : G3 β) : Prop :=
  ∀ σ3 Q3 X, t σ3 Q3 X → ∀ Hb G A σ H Q, R3 K c Hb G A σ3 σ H →
    (∀ v d H', Le c G A H H' → rel (hid (c.S G A) H') v d → Q3 d → Q v H') →
    (∀ cls dd x H', Le c G A H H' → XRep K (hid (c.S G A) H') cls dd x → X x → W cls dd σ H') → te σ H Q
abbrev Lift (K : PySem.W.Frag) (c : Cf) (W : WX) (te : TE) (t : E3) : Prop := LiftG K c W (Rep K) te t
abbrev LiftT (K : PySem.W.Frag) (c : Cf) (W : WX) (te : TT) (t : B3) : Prop := LiftG K c W (fun _ (b b' : Bool) => b = b') te t
abbrev LiftA (K : PySem.W.Frag) (c : Cf) (W : WX) (te : TA) (t : A3) : Prop := LiftG K c W (RepL K) te t
abbrev LiftO (K : PySem.W.Frag) (c : Cf) (W : WX) (te : TO) (t : G3 (Option Int)) : Prop := LiftG K c W (fun _ (b b' : Option Int) => b = b') te t
/-! ### readings over trees -/
/-- what is there -/
def ob {α : Type} (o : Option α) (Q : α → Prop) : Prop := match o with | some a => Q a | none => False
@[simp] theorem ob_some {α : Type} (a : α) (Q : α → Prop) : ob (some a) Q = Q a := rfl
@[simp] theorem ob_none {α : Type} (Q : α → Prop) : ob none Q = False := rfl
theorem ob_iff {α : Type} {o : Option α} {Q : α → Prop} : ob o Q ↔ ∃ a, o = some a ∧ Q a := by
  cases o with
  | none => exact ⟨fun h => h.elim, fun ⟨_, h, _⟩ => by cases h⟩
  | some a => exact ⟨fun h => ⟨a, rfl, h⟩, fun ⟨_, h, q⟩ => by cases h; exact q⟩
def asI : T → Option Int
  | .int i => some i
  | _ => none
def asL : T → Option (List T)
  | .lst i => some i
  | _ => none
def asT : T → Option (List T)
  | .tup i => some i
  | _ => none
def asS : T → Option Str
  | .str i => some i
  | _ => none
def asN : T → Option Unit
  | .non => some ()
  | _ => none
def asB : T → Option Bool
  | .bl b => some b
  | _ => none
def one {α : Type} : List α → Option α
  | [x] => some x
  | _ => none
def two {α : Type} : List α → Option (α × α)
  | [x, y] => some (x, y)
  | _ => none
@[simp] theorem asI_non  : asI .non = none := rfl
@[simp] theorem asI_bl (b : Bool) : asI (.bl b) = none := rfl
@[simp] theorem asI_int (b : Int) : asI (.int b) = some b := rfl
@[simp] theorem asI_str (b : Str) : asI (.str b) = none := rfl
@[simp] theorem asI_tup (b : List T) : asI (.tup b) = none := rfl
@[simp] theorem asI_lst (b : List T) : asI (.lst b) = none := rfl
@[simp] theorem asL_non  : asL .non = none := rfl
@[simp] theorem asL_bl (b : Bool) : asL (.bl b) = none := rfl
@[simp] theorem asL_int (b : Int) : asL (.int b) = none := rfl
@[simp] theorem asL_str (b : Str) : asL (.str b) = none := rfl
@[simp] theorem asL_tup (b : List T) : asL (.tup b) = none := rfl
@[simp] theorem asL_lst (b : List T) : asL (.lst b) = some b := rfl
@[simp] theorem asT_non  : asT .non = none := rfl
@[simp] theorem asT_bl (b : Bool) : asT (.bl b) = none := rfl
@[simp] theorem asT_int (b : Int) : asT (.int b) = none := rfl
@[simp] theorem asT_str (b : Str) : asT (.str b) = none := rfl
@[simp] theorem asT_tup (b : List T) : asT (.tup b) = some b := rfl
@[simp] theorem asT_lst (b : List T) : asT (.lst b) = none := rfl
@[simp] theorem asS_non  : asS .non = none := rfl
@[simp] theorem asS_bl (b : Bool) : asS (.bl b) = none := rfl
@[simp] theorem asS_int (b : Int) : asS (.int b) = none := rfl
@[simp] theorem asS_str (b : Str) : asS (.str b) = some b := rfl
@[simp] theorem asS_tup (b : List T) : asS (.tup b) = none := rfl
@[simp] theorem asS_lst (b : List T) : asS (.lst b) = none := rfl
@[simp] theorem asN_non  : asN .non = some () := rfl
@[simp] theorem asN_bl (b : Bool) : asN (.bl b) = none := rfl
@[simp] theorem asN_int (b : Int) : asN (.int b) = none := rfl
@[simp] theorem asN_str (b : Str) : asN (.str b) = none := rfl
@[simp] theorem asN_tup (b : List T) : asN (.tup b) = none := rfl
@[simp] theorem asN_lst (b : List T) : asN (.lst b) = none := rfl
@[simp] theorem asB_non  : asB .non = none := rfl
@[simp] theorem asB_bl (b : Bool) : asB (.bl b) = some b := rfl
@[simp] theorem asB_int (b : Int) : asB (.int b) = none := rfl
@[simp] theorem asB_str (b : Str) : asB (.str b) = none := rfl
@[simp] theorem asB_tup (b : List T) : asB (.tup b) = none := rfl
@[simp] theorem asB_lst (b : List T) : asB (.lst b) = none := rfl
@[simp] theorem one_1 {α : Type} (x : α) : one [x] = some x := rfl
@[simp] theorem two_2 {α : Type} (x y : α) : two [x, y] = some (x, y) := rfl
theorem asI_is {x : T} {i : Int} (h : asI x = some i) : x = .int i := by cases x <;> cases h; rfl
theorem asL_is {x : T} {i : List T} (h : asL x = some i) : x = .lst i := by cases x <;> cases h; rfl
theorem asT_is {x : T} {i : List T} (h : asT x = some i) : x = .tup i := by cases x <;> cases h; rfl
theorem asS_is {x : T} {i : Str} (h : asS x = some i) : x = .str i := by cases x <;> cases h; rfl
theorem asN_is {x : T} {i : Unit} (h : asN x = some i) : x = .non := by cases x <;> cases h; rfl
theorem asB_is {x : T} {i : Bool} (h : asB x = some i) : x = .bl i := by cases x <;> cases h; rfl
theorem one_is {α : Type} {l : List α} {x : α} (h : one l = some x) : l = [x] := by
  match l, h with
  | [y], h => cases h; rfl
theorem two_is {α : Type} {l : List α} {x : α × α} (h : two l = some x) : l = [x.1, x.2] := by
  match l, h with
  | [y, z], h => cases h; rfl
def slot (σ : List Sl) (i : Nat) : Option T := match σ[i]? with | some (.val t) => some t | _ => none
def v3 (i : Nat) : E3 := fun σ Q _ => ob (slot σ i) Q
def k3 (t : T) : E3 := fun _ Q _ => Q t
def op3 (r : T → T → (T → Prop) → Prop) (a b : E3) : E3 := fun σ Q X => a σ (fun x => b σ (fun y => r x y Q) X) X
def un3 (r : T → (T → Prop) → Prop) (a : E3) : E3 := fun σ Q X => a σ (fun x => r x Q) X
def nil3 : A3 := fun _ Q _ => Q []
def cons3 (a : E3) (r : A3) : A3 := fun σ Q X => a σ (fun x => r σ (fun xs => Q (x :: xs)) X) X
def call3 (r : List T → (T → Prop) → Prop) (a : A3) : E3 := fun σ Q X => a σ (fun xs => r xs Q) X
/-- a value operation, lifted -/
def RL2 (K : PySem.W.Frag) (r : R2) (r3 : T → T → (T → Prop) → Prop) : Prop :=
  ∀ (c : Cf) x y Q3, r3 x y Q3 → ∀ Hb G A σ3 σ H vx vy Q, R3 K c Hb G A σ3 σ H → Rep K (hid (c.S G A) H) vx x → Rep K (hid (c.S G A) H) vy y →
    (∀ v d H', Le c G A H H' → Rep K (hid (c.S G A) H') v d → Q3 d → Q v H') → r vx vy H Q
def RL1 (K : PySem.W.Frag) (r : V → Hp → VK → Prop) (r3 : T → (T → Prop) → Prop) : Prop :=
  ∀ (c : Cf) x Q3, r3 x Q3 → ∀ Hb G A σ3 σ H vx Q, R3 K c Hb G A σ3 σ H → Rep K (hid (c.S G A) H) vx x →
    (∀ v d H', Le c G A H H' → Rep K (hid (c.S G A) H') v d → Q3 d → Q v H') → r vx H Q
def RLn (K : PySem.W.Frag) (r : List V → Hp → VK → Prop) (r3 : List T → (T → Prop) → Prop) : Prop :=
  ∀ (c : Cf) xs Q3, r3 xs Q3 → ∀ Hb G A σ3 σ H vs Q, R3 K c Hb G A σ3 σ H → RepL K (hid (c.S G A) H) vs xs →
    (∀ v d H', Le c G A H H' → Rep K (hid (c.S G A) H') v d → Q3 d → Q v H') → r vs H Q
section
variable {K : PySem.W.Frag} {c : Cf} {W : WX} {ta tb te : TE} {a b e : E3}
theorem slot_get {σ : List Sl} {i : Nat} {t : T} (h : slot σ i = some t) : σ[i]? = some (.val t) := by
  unfold slot at h
  split at h
  · cases h; assumption
  · cases h
theorem lift_v (i : Nat) : Lift K c W (tVar i) (v3 i) := by
  intro σ3 Q3 X h Hb G A σ H Q R k e
  obtain ⟨t, h1, h2⟩ := ob_iff.mp h
  obtain ⟨v, h3, h4⟩ := R.get (slot_get h1)
  exact ⟨v, h3, k v t H (Le.refl R.inv) h4 h2⟩
theorem lift_k {v : V} {t : T} (r : ∀ H, Rep K H v t) : Lift K c W (tC v) (k3 t) := by
  intro σ3 Q3 X h Hb G A σ H Q R k e
  exact k v t H (Le.refl R.inv) (r _) h
theorem lift_int (i : Int) : Lift K c W (tC (.int i)) (k3 (.int i)) := lift_k fun _ => .int i
theorem lift_str (x : Str) : Lift K c W (tC (.str x)) (k3 (.str x)) := lift_k fun _ => .str x
theorem lift_bl (b : Bool) : Lift K c W (tC (.bl b)) (k3 (.bl b)) := lift_k fun _ => .bl b
theorem lift_non : Lift K c W (tC .non) (k3 .non) := lift_k fun _ => .non
theorem lift_ty (n : String) : Lift K c W (tC (.ty n)) (k3 (.ty n)) := lift_k fun _ => .ty n
theorem lift_ref (a : Addr) : Lift K c W (tC (.ref a)) (k3 (.ref a)) := lift_k fun _ => .ref a
theorem lift_op {r : R2} {r3 : T → T → (T → Prop) → Prop} (hr : RL2 K r r3) (ha : Lift K c W ta a) (hb : Lift K c W tb b) : Lift K c W (tOp r ta tb) (op3 r3 a b) := by
  intro σ3 Q3 X h Hb G A σ H Q R k e
  refine ha _ _ _ h Hb G A σ H _ R (fun vx x H1 L1 rx hx => ?_) e
  refine hb _ _ _ hx Hb G A σ H1 _ (R.le L1) (fun vy y H2 L2 ry hy => ?_) (fun cls dd x H' L => e cls dd x H' (L1.trans L))
  exact hr c _ _ _ hy Hb G A σ3 σ H2 vx vy Q ((R.le L1).le L2) (rx.mono L2.vis) ry (fun v d H3 L3 => k v d H3 ((L1.trans L2).trans L3))
theorem lift_un {r : V → Hp → VK → Prop} {r3 : T → (T → Prop) → Prop} (hr : RL1 K r r3) (ha : Lift K c W ta a) : Lift K c W (tUn r ta) (un3 r3 a) := by
  intro σ3 Q3 X h Hb G A σ H Q R k e
  refine ha _ _ _ h Hb G A σ H _ R (fun vx x H1 L1 rx hx => ?_) e
  exact hr c _ _ hx Hb G A σ3 σ H1 vx Q (R.le L1) rx (fun v d H3 L3 => k v d H3 (L1.trans L3))
theorem lift_nil : LiftA K c W tNil nil3 := by
  intro σ3 Q3 X h Hb G A σ H Q R k e
  exact k [] [] H (Le.refl R.inv) .nil h
theorem lift_cons {tr : TA} {r : A3} (ha : Lift K c W ta a) (hr : LiftA K c W tr r) : LiftA K c W (tCons ta tr) (cons3 a r) := by
  intro σ3 Q3 X h Hb G A σ H Q R k e
  refine ha _ _ _ h Hb G A σ H _ R (fun vx x H1 L1 rx hx => ?_) e
  refine hr _ _ _ hx Hb G A σ H1 _ (R.le L1) (fun vy y H2 L2 ry hy => ?_) (fun cls dd x H' L => e cls dd x H' (L1.trans L))
  exact k _ _ H2 (L1.trans L2) (.cons (rx.mono L2.vis) ry) hy
theorem lift_cb {r : List V → Hp → VK → Prop} {r3 : List T → (T → Prop) → Prop} {t : TA} {x : A3} (hr : RLn K r r3) (ha : LiftA K c W t x) : Lift K c W (tCB r t) (call3 r3 x) := by
  intro σ3 Q3 X h Hb G A σ H Q R k e
  refine ha _ _ _ h Hb G A σ H _ R (fun vx x H1 L1 rx hx => ?_) e
  exact hr c _ _ hx Hb G A σ3 σ H1 vx Q (R.le L1) rx (fun v d H3 L3 => k v d H3 (L1.trans L3))
/-- (a, b, ..), [a, b, ..] -/
def tup3 (x : A3) : E3 := fun σ Q X => x σ (fun xs => xs.length ≤ sizeLine ∧ Q (.tup xs)) X
def lst3 (x : A3) : E3 := fun σ Q X => x σ (fun xs => xs.length ≤ sizeLine ∧ Q (.lst xs)) X
theorem lift_tup {t : TA} {x : A3} (ha : LiftA K c W t x) : Lift K c W (tTup t) (tup3 x) := by
  intro σ3 Q3 X h Hb G A σ H Q R k e
  refine ha _ _ _ h Hb G A σ H _ R (fun vs xs H1 L1 rx hx => ?_) e
  refine ⟨by rw [rx.length]; exact hx.1, fun p hp => ?_⟩
  have L2 := (R.le L1).new (o := .tup vs) hp
  exact k _ _ _ (L1.trans L2) (.mkT (SqT.of ((R.le L1).newAt hp)) (rx.mono L2.vis)) hx.2
theorem lift_lst {t : TA} {x : A3} (ha : LiftA K c W t x) : Lift K c W (tLst t) (lst3 x) := by
  intro σ3 Q3 X h Hb G A σ H Q R k e
  refine ha _ _ _ h Hb G A σ H _ R (fun vs xs H1 L1 rx hx => ?_) e
  refine ⟨by rw [rx.length]; exact hx.1, fun p hp => ?_⟩
  have L2 := (R.le L1).new (o := .lst vs) hp
  exact k _ _ _ (L1.trans L2) (.mkL ((R.le L1).newAt hp) (rx.mono L2.vis)) hx.2
/-! ### tests -/
def tst3 (a : E3) : B3 := fun σ Q X => a σ (fun x => ob (asB x) Q) X
def and3 (a b : B3) : B3 := fun σ Q X => a σ (fun x => if x = true then b σ Q X else Q false) X
def or3 (a b : B3) : B3 := fun σ Q X => a σ (fun x => if x = true then Q true else b σ Q X) X
def not3 (a : B3) : B3 := fun σ Q X => a σ (fun x => Q (!x)) X
def andV3 (a b : E3) : E3 := fun σ Q X => a σ (fun x => ob (asB x) fun k => if k = true then b σ Q X else Q (.bl false)) X
def orV3 (a b : E3) : E3 := fun σ Q X => a σ (fun x => ob (asB x) fun k => if k = true then Q (.bl true) else b σ Q X) X
def notV3 (a : E3) : E3 := fun σ Q X => a σ (fun x => ob (asB x) fun k => Q (.bl (!k))) X
def if3 (t : B3) (a b : E3) : E3 := fun σ Q X => t σ (fun x => if x = true then a σ Q X else b σ Q X) X
theorem lift_tst (ha : Lift K c W ta a) : LiftT K c W (tTest ta) (tst3 a) := by
  intro σ3 Q3 X h Hb G A σ H Q R k e
  refine ha _ _ _ h Hb G A σ H _ R (fun vx x H1 L1 rx hx => ?_) e
  obtain ⟨b, eb, q⟩ := ob_iff.mp hx
  cases asB_is eb
  exact ⟨b, rx.blI, k b b H1 L1 rfl q⟩
theorem lift_tB (ha : Lift K c W ta a) : LiftT K c W (tB ta) (tst3 a) := lift_tst ha
theorem lift_and {t u : TT} {x y : B3} (ha : LiftT K c W t x) (hb : LiftT K c W u y) : LiftT K c W (tAnd t u) (and3 x y) := by
  intro σ3 Q3 X h Hb G A σ H Q R k e
  refine ha _ _ _ h Hb G A σ H _ R (fun vx x H1 L1 rx hx => ?_) e
  subst rx
  cases vx with
  | true => exact iteT (hb _ _ _ (by simpa using hx) Hb G A σ H1 _ (R.le L1) (fun v d H' L => k v d H' (L1.trans L)) (fun cls dd x H' L => e cls dd x H' (L1.trans L)))
  | false => exact iteF (k false false H1 L1 rfl (by simpa using hx))
theorem lift_or {t u : TT} {x y : B3} (ha : LiftT K c W t x) (hb : LiftT K c W u y) : LiftT K c W (tOr t u) (or3 x y) := by
  intro σ3 Q3 X h Hb G A σ H Q R k e
  refine ha _ _ _ h Hb G A σ H _ R (fun vx x H1 L1 rx hx => ?_) e
  subst rx
  cases vx with
  | false => exact iteF (hb _ _ _ (by simpa using hx) Hb G A σ H1 _ (R.le L1) (fun v d H' L => k v d H' (L1.trans L)) (fun cls dd x H' L => e cls dd x H' (L1.trans L)))
  | true => exact iteT (k true true H1 L1 rfl (by simpa using hx))
theorem lift_not {t : TT} {x : B3} (ha : LiftT K c W t x) : LiftT K c W (tNot t) (not3 x) := by
  intro σ3 Q3 X h Hb G A σ H Q R k e
  refine ha _ _ _ h Hb G A σ H _ R (fun vx x H1 L1 rx hx => ?_) e
  subst rx
  exact k _ _ H1 L1 rfl hx
theorem lift_andV (ha : Lift K c W ta a) (hb : Lift K c W tb b) : Lift K c W (tAndV ta tb) (andV3 a b) := by
  intro σ3 Q3 X h Hb G A σ H Q R k e
  refine ha _ _ _ h Hb G A σ H _ R (fun vx x H1 L1 rx hx => ?_) e
  obtain ⟨z, eb, hy⟩ := ob_iff.mp hx
  cases asB_is eb
  refine ⟨z, rx.blI, ?_⟩
  cases z with
  | true => exact iteT (hb _ _ _ (by simpa using hy) Hb G A σ H1 _ (R.le L1) (fun v d H' L => k v d H' (L1.trans L)) (fun cls dd x H' L => e cls dd x H' (L1.trans L)))
  | false => exact iteF (k _ _ H1 L1 (.bl false) (by simpa using hy))
theorem lift_orV (ha : Lift K c W ta a) (hb : Lift K c W tb b) : Lift K c W (tOrV ta tb) (orV3 a b) := by
  intro σ3 Q3 X h Hb G A σ H Q R k e
  refine ha _ _ _ h Hb G A σ H _ R (fun vx x H1 L1 rx hx => ?_) e
  obtain ⟨z, eb, hy⟩ := ob_iff.mp hx
  cases asB_is eb
  refine ⟨z, rx.blI, ?_⟩
  cases z with
  | false => exact iteF (hb _ _ _ (by simpa using hy) Hb G A σ H1 _ (R.le L1) (fun v d H' L => k v d H' (L1.trans L)) (fun cls dd x H' L => e cls dd x H' (L1.trans L)))
  | true => exact iteT (k _ _ H1 L1 (.bl true) (by simpa using hy))
theorem lift_notV (ha : Lift K c W ta a) : Lift K c W (tNotV ta) (notV3 a) := by
  intro σ3 Q3 X h Hb G A σ H Q R k e
  refine ha _ _ _ h Hb G A σ H _ R (fun vx x H1 L1 rx hx => ?_) e
  obtain ⟨z, eb, hy⟩ := ob_iff.mp hx
  cases asB_is eb
  exact ⟨z, rx.blI, k _ _ H1 L1 (.bl _) hy⟩
theorem lift_if {t : TT} {x : B3} (ht : LiftT K c W t x) (ha : Lift K c W ta a) (hb : Lift K c W tb b) : Lift K c W (tIf t ta tb) (if3 x a b) := by
  intro σ3 Q3 X h Hb G A σ H Q R k e
  refine ht _ _ _ h Hb G A σ H _ R (fun vx x H1 L1 rx hx => ?_) e
  subst rx
  cases vx with
  | true => exact iteT (ha _ _ _ (by simpa using hx) Hb G A σ H1 _ (R.le L1) (fun v d H' L => k v d H' (L1.trans L)) (fun cls dd x H' L => e cls dd x H' (L1.trans L)))
  | false => exact iteF (hb _ _ _ (by simpa using hx) Hb G A σ H1 _ (R.le L1) (fun v d H' L => k v d H' (L1.trans L)) (fun cls dd x H' L => e cls dd x H' (L1.trans L)))
/-- a comparison chain a < b < c -/
def chain3 (r r' : T → T → (T → Prop) → Prop) (a b d : E3) : E3 := fun σ Q X => a σ (fun x => b σ (fun y => r x y fun z => ob (asB z) fun k => if k = true then d σ (fun w => r' y w Q) X else Q (.bl false)) X) X
theorem lift_chain {r r' : R2} {q q' : T → T → (T → Prop) → Prop} {tc : TE} {d : E3} (hr : RL2 K r q) (hr' : RL2 K r' q') (ha : Lift K c W ta a) (hb : Lift K c W tb b) (hc : Lift K c W tc d) : Lift K c W (tChain r r' ta tb tc) (chain3 q q' a b d) := by
  intro σ3 Q3 X h Hb G A σ H Q R k e
  refine ha _ _ _ h Hb G A σ H _ R (fun vx x H1 L1 rx hx => ?_) e
  refine hb _ _ _ hx Hb G A σ H1 _ (R.le L1) (fun vy y H2 L2 ry hy => ?_) (fun cls dd x H' L => e cls dd x H' (L1.trans L))
  refine hr c _ _ _ hy Hb G A σ3 σ H2 vx vy _ ((R.le L1).le L2) (rx.mono L2.vis) ry (fun vz z H3 L3 rz hz => ?_)
  obtain ⟨j, eb, hz2⟩ := ob_iff.mp hz
  cases asB_is eb
  refine ⟨j, rz.blI, ?_⟩
  have L := (L1.trans L2).trans L3
  cases j with
  | false => exact iteF (k _ _ H3 L (.bl false) (by simpa using hz2))
  | true =>
    refine iteT ?_
    refine hc _ _ _ (show d σ3 _ X by simpa using hz2) Hb G A σ H3 _ (R.le L) (fun vw w H4 L4 rw' hw => ?_) (fun cls dd x H' L' => e cls dd x H' (L.trans L'))
    exact hr' c _ _ _ hw Hb G A σ3 σ H4 vy vw Q ((R.le L).le L4) (ry.mono (Same.trans L3.vis L4.vis)) rw' (fun v d H5 L5 => k v d H5 ((L.trans L4).trans L5))
end
/-! ### statements -/
structure N3 where
  nx : List Sl → Prop
  rt : T → Prop
  bk : List Sl → Prop := fun _ => False
  ct : List Sl → Prop := fun _ => False
  xn : List Sl → Xn → Prop := fun _ _ => False
abbrev S3 := N3 → List Sl → Prop
/-- what is left behind a return -/
structure Fin3 (K : PySem.W.Frag) (c : Cf) (Hb : Hp) (G : List Addr) (H : Hp) : Prop where
  inv : c.I H
  base : Same (hid (c.S0 ++ G) Hb) (hid (c.S0 ++ G) H)
  gk : ∀ a ∈ G, H a = Hb a
theorem R3.fin {K : PySem.W.Frag} {c : Cf} {Hb H : Hp} {G : List Addr} {A : List (Option Addr)} {σ3 : List Sl} {σ : St} (r : R3 K c Hb G A σ3 σ H) : Fin3 K c Hb G H :=
  ⟨r.inv, Same.trans r.base (hid_mono fun a h => by rcases List.mem_append.mp h with h | h; exact mem_S.mpr (.inl h); exact mem_S.mpr (.inr (.inl h))), fun a h => (r.gk a h).1⟩
theorem hid_fin {c : Cf} {H : Hp} {G : List Addr} {A : List (Option Addr)} : Same (hid (c.S G A) H) (hid (c.S0 ++ G) H) :=
  hid_mono fun a h => by rcases List.mem_append.mp h with h | h; exact mem_S.mpr (.inl h); exact mem_S.mpr (.inr (.inl h))
/-- the ends at trees lead to the ends at values -/
structure To (K : PySem.W.Frag) (c : Cf) (W : WX) (Hb : Hp) (G : List Addr) (N : N3) (D : Ends) : Prop where
  nx : ∀ A σ3 σ H, R3 K c Hb G A σ3 σ H → N.nx σ3 → D.nx σ H
  rt : ∀ v d H, Fin3 K c Hb G H → Rep K (hid (c.S0 ++ G) H) v d → N.rt d → D.rt v H
  bk : ∀ A σ3 σ H, R3 K c Hb G A σ3 σ H → N.bk σ3 → D.bk σ H
  ct : ∀ A σ3 σ H, R3 K c Hb G A σ3 σ H → N.ct σ3 → D.ct σ H
  xn : ∀ A σ3 σ H cls dd x, R3 K c Hb G A σ3 σ H → XRep K (hid (c.S G A) H) cls dd x → N.xn σ3 x → W cls dd σ H
def LiftS (K : PySem.W.Frag) (c : Cf) (W : WX) (ts : TS) (t : S3) : Prop :=
  ∀ N σ3, t N σ3 → ∀ Hb G A σ H (D : Ends), R3 K c Hb G A σ3 σ H → To K c W Hb G N D → ts D σ H
def next3 : S3 := fun N σ => N.nx σ
def seq3 (t u : S3) : S3 := fun N σ => t { N with nx := u N } σ
def brk3 : S3 := fun N σ => N.bk σ
def cont3 : S3 := fun N σ => N.ct σ
def drop3 (a : E3) : S3 := fun N σ => a σ (fun _ => N.nx σ) (N.xn σ)
def ret3 (a : E3) : S3 := fun N σ => a σ N.rt (N.xn σ)
def retN3 : S3 := fun N _ => N.rt .non
def ifs3 (c : B3) (t u : S3) : S3 := fun N σ => c σ (fun b => if b = true then t N σ else u N σ) (N.xn σ)
/-- a target -/
abbrev TG3 := T → List Sl → (List Sl → Prop) → Prop
def name3 (i : Nat) : TG3 := fun d σ Q => Q (σ.set i (.val d))
/-- only the slots vs were stored -/
def Sets (vs : List Nat) (A A' : List (Option Addr)) (σ σ' : St) : Prop := σ'.length = σ.length ∧ (∀ j : Nat, j ∉ vs → σ'[j]? = σ[j]? ∧ A'[j]? = A[j]?) ∧ ∀ a ∈ addrs A', a ∈ addrs A
theorem Sets.mono {vs ws : List Nat} {A A' : List (Option Addr)} {σ σ' : St} (h : Sets vs A A' σ σ') (s : ∀ j ∈ vs, j ∈ ws) : Sets ws A A' σ σ' := ⟨h.1, fun j hj => h.2.1 j fun z => hj (s j z), h.2.2⟩
theorem Sets.trans {vs : List Nat} {A A1 A2 : List (Option Addr)} {σ σ1 σ2 : St} (a : Sets vs A A1 σ σ1) (b : Sets vs A1 A2 σ1 σ2) : Sets vs A A2 σ σ2 :=
  ⟨b.1.trans a.1, fun j hj => ⟨(b.2.1 j hj).1.trans (a.2.1 j hj).1, (b.2.1 j hj).2.trans (a.2.1 j hj).2⟩, fun x z => a.2.2 x (b.2.2 x z)⟩
def LiftTg (K : PySem.W.Frag) (c : Cf) (vs : List Nat) (g : TG) (g3 : TG3) : Prop :=
  ∀ d σ3 Q3, g3 d σ3 Q3 → ∀ Hb G A σ H v Q, R3 K c Hb G A σ3 σ H → Rep K (hid (c.S G A) H) v d →
    (∀ A' σ3' σ' H', R3 K c Hb G A' σ3' σ' H' → H' = H → Sets vs A A' σ σ' → Q3 σ3' → Q σ' H') → g v σ H Q
def asg3 (a : E3) (g : TG3) : S3 := fun N σ => a σ (fun d => g d σ N.nx) (N.xn σ)
section
variable {K : PySem.W.Frag} {c : Cf} {W : WX} {ta tb te : TE} {a b e : E3} {t u : TS} {x y : S3}
theorem lift_next : LiftS K c W tNext next3 := fun N σ3 h Hb G A σ H D R Z => Z.nx _ _ _ _ R h
theorem lift_seq (h1 : LiftS K c W t x) (h2 : LiftS K c W u y) : LiftS K c W (tSeq t u) (seq3 x y) := by
  intro N σ3 h Hb G A σ H D R Z
  exact h1 _ _ h Hb G A σ H _ R ⟨fun A' σ3' σ' H' R' q => h2 _ _ q Hb G A' σ' H' D R' Z, Z.rt, Z.bk, Z.ct, Z.xn⟩
theorem lift_brk : LiftS K c W tBreak brk3 := fun N σ3 h Hb G A σ H D R Z => Z.bk _ _ _ _ R h
theorem lift_cont : LiftS K c W tCont cont3 := fun N σ3 h Hb G A σ H D R Z => Z.ct _ _ _ _ R h
theorem lift_drop (ha : Lift K c W ta a) : LiftS K c W (tDrop ta) (drop3 a) := by
  intro N σ3 h Hb G A σ H D R Z
  exact ha _ _ _ h Hb G A σ H _ R (fun v d H' L _ q => Z.nx _ _ _ _ (R.le L) q) (fun cls dd x H' L r q => Z.xn _ _ _ _ _ _ _ (R.le L) r q)
theorem lift_ret (ha : Lift K c W ta a) : LiftS K c W (tRet ta) (ret3 a) := by
  intro N σ3 h Hb G A σ H D R Z
  exact ha _ _ _ h Hb G A σ H _ R (fun v d H' L r q => Z.rt _ _ _ (R.le L).fin (r.mono hid_fin) q) (fun cls dd x H' L r q => Z.xn _ _ _ _ _ _ _ (R.le L) r q)
theorem lift_retN : LiftS K c W tRetN retN3 := by
  intro N σ3 h Hb G A σ H D R Z
  exact Z.rt _ _ _ R.fin .non h
theorem lift_ifs {k : TT} {z : B3} (hc : LiftT K c W k z) (h1 : LiftS K c W t x) (h2 : LiftS K c W u y) : LiftS K c W (tIfS k t u) (ifs3 z x y) := by
  intro N σ3 h Hb G A σ H D R Z
  refine hc _ _ _ h Hb G A σ H _ R (fun vx w H' L r q => ?_) (fun cls dd x H' L r q => Z.xn _ _ _ _ _ _ _ (R.le L) r q)
  subst r
  cases vx with
  | true => exact iteT (h1 _ _ (by simpa using q) Hb G A σ H' D (R.le L) Z)
  | false => exact iteF (h2 _ _ (by simpa using q) Hb G A σ H' D (R.le L) Z)
theorem lift_name (i : Nat) {vs : List Nat} (hi : i ∈ vs) : LiftTg K c vs (gName i) (name3 i) := by
  intro d σ3 Q3 h Hb G A σ H v Q R r k
  exact k _ _ _ _ (R.set i r) rfl ⟨by rw [List.length_set], fun j hj => by
    have : i ≠ j := fun z => by subst z; exact hj hi
    rw [List.getElem?_set_ne this, List.getElem?_set_ne this]; exact ⟨rfl, rfl⟩, addrs_set_sub⟩ h
theorem lift_asg {vs : List Nat} {g : TG} {g3 : TG3} (ha : Lift K c W ta a) (hg : LiftTg K c vs g g3) : LiftS K c W (tAsg ta g) (asg3 a g3) := by
  intro N σ3 h Hb G A σ H D R Z
  refine ha _ _ _ h Hb G A σ H _ R (fun v d H' L r q => ?_) (fun cls dd x H' L r q => Z.xn _ _ _ _ _ _ _ (R.le L) r q)
  exact hg _ _ _ q Hb G A σ H' v _ (R.le L) r (fun A' σ3' σ' H2 R' _ _ q' => Z.nx _ _ _ _ R' q')
end
/-! ### several targets -/
def gnil3 : List T → List Sl → (List Sl → Prop) → Prop := fun ds σ Q => match ds with | [] => Q σ | _ => False
def gcons3 (g : TG3) (r : List T → List Sl → (List Sl → Prop) → Prop) : List T → List Sl → (List Sl → Prop) → Prop := fun ds σ Q => match ds with | d :: l => g d σ fun σ' => r l σ' Q | [] => False
def gtup3 (n : Nat) (r : List T → List Sl → (List Sl → Prop) → Prop) : TG3 := fun d σ Q => ob (asT d) fun ds => ds.length = n ∧ r ds σ Q
def LiftTgs (K : PySem.W.Frag) (c : Cf) (ws : List Nat) (g : TGs) (g3 : List T → List Sl → (List Sl → Prop) → Prop) : Prop :=
  ∀ ds σ3 Q3, g3 ds σ3 Q3 → ∀ Hb G A σ H vs Q, R3 K c Hb G A σ3 σ H → RepL K (hid (c.S G A) H) vs ds →
    (∀ A' σ3' σ' H', R3 K c Hb G A' σ3' σ' H' → H' = H → Sets ws A A' σ σ' → Q3 σ3' → Q σ' H') → g vs σ H Q
section
variable {K : PySem.W.Frag} {c : Cf} {ws : List Nat}
theorem lift_gnil : LiftTgs K c ws gNil gnil3 := by
  intro ds σ3 Q3 h Hb G A σ H vs Q R r k
  cases r with
  | cons _ _ => exact h.elim
  | nil => exact ⟨rfl, k _ _ _ _ R rfl ⟨rfl, fun _ _ => ⟨rfl, rfl⟩, fun _ z => z⟩ h⟩
theorem lift_gcons {g : TG} {g3 : TG3} {u : TGs} {u3 : List T → List Sl → (List Sl → Prop) → Prop} (h1 : LiftTg K c ws g g3) (h2 : LiftTgs K c ws u u3) : LiftTgs K c ws (gCons g u) (gcons3 g3 u3) := by
  intro ds σ3 Q3 h Hb G A σ H vs Q R r k
  cases r with
  | nil => exact h.elim
  | cons r1 r2 =>
    refine ⟨_, _, rfl, h1 _ _ _ h Hb G A σ H _ _ R r1 (fun A' σ3' σ' H' R' e sub q => ?_)⟩
    subst e
    exact h2 _ _ _ q Hb G A' σ' H' _ _ R' (RepL.mono r2 (hid_mono (S_sub sub.2.2))) (fun A2 σ2 σ2' H2 R2 e2 sub2 q2 => k _ _ _ _ R2 e2 (sub.trans sub2) q2)
theorem lift_gtup {n : Nat} {u : TGs} {u3 : List T → List Sl → (List Sl → Prop) → Prop} (h : LiftTgs K c ws u u3) : LiftTg K c ws (gTup K n u) (gtup3 n u3) := by
  intro d σ3 Q3 hh Hb G A σ H v Q R r k
  obtain ⟨ds, ed, hl, hh1⟩ := ob_iff.mp hh
  cases asT_is ed
  obtain ⟨a, vs, rfl, hs, rl⟩ := r.tupI
  exact ⟨a, vs, rfl, Same.sqT hid_same hs, by rw [rl.length]; exact hl, h _ _ _ hh1 Hb G A σ H vs Q R rl k⟩
end
/-! ### a def's promise at trees -/
abbrev F3 := List T → (T → Prop) → X3 → Prop
/-- a def that changes nothing: S is what the caller hides -/
def sp3 (K : PySem.W.Frag) (n : Nat) (f : F3) : Sp := fun vs H Q E => ∃ S ds, ds.length = n ∧ RepL K (hid S H) vs ds ∧ (∀ a ∈ S, H a ≠ none) ∧ ∃ Q3 X, f ds Q3 X ∧
  (∀ v d H', Same (hid S H) (hid S H') → (∀ a ∈ S, H' a = H a) → Rep K (hid S H') v d → Q3 d → Q v H') ∧
  (∀ cls dd x H', Same (hid S H) (hid S H') → (∀ a ∈ S, H' a = H a) → XRep K (hid S H') cls dd x → X x → E cls dd H')
theorem sp3_len {K : PySem.W.Frag} {n : Nat} {f : F3} {ps : List Str} (h : ps.length = n) : ∀ vs H Q E, sp3 K n f vs H Q E → vs.length = ps.length := by
  intro vs H Q E h'
  obtain ⟨S, ds, hl, r, _⟩ := h'
  rw [r.length, hl, h]
/-- nothing is hidden for good -/
def cf0 : Cf := ⟨[], fun _ => True, fun _ _ _ _ h => h, fun _ _ a h => (by cases h), fun _ => True, fun _ => trivial⟩
/-- the slots at the start -/
def start3 (n : Nat) (ds : List T) : List Sl := ds.map Sl.val ++ List.replicate (n - ds.length) Sl.no
theorem start_eq (N : List Str) (vs : List V) : start N vs = vs.map some ++ List.replicate (N.length - vs.length) none := rfl
theorem r3_start {K : PySem.W.Frag} {c : Cf} {H : Hp} {G : List Addr} {N : List Str} {vs : List V} {ds : List T} (hI : c.I H) (hG : ∀ a ∈ G, H a ≠ none ∧ a ∉ c.S0) (hV : ∀ o, c.gOk o) (r : RepL K (hid (c.S0 ++ G) H) vs ds) :
    R3 K c H G (List.replicate ((start3 N.length ds).length) none) (start3 N.length ds) (start N vs) H := by
  have hA : addrs (List.replicate ((start3 N.length ds).length) none) = [] := by
    unfold addrs
    rw [List.filterMap_replicate_of_none rfl]
  have hS : c.S G (List.replicate ((start3 N.length ds).length) none) = c.S0 ++ G := by
    unfold Cf.S
    rw [hA, List.append_nil]
  have hl := r.length
  refine ⟨hI, by rw [hS]; exact Same.refl _, fun a h => ⟨rfl, hG a h⟩, fun a _ o _ => hV o, by rw [hA]; exact List.nodup_nil, (by rw [hA]; intro a h; cases h), (by simp), (by rw [start_eq]; unfold start3; simp [hl]), ?_⟩
  rw [hS]
  intro i s o x h1 h2 h3
  have ho : o = none := by
    have := List.mem_of_getElem? h2
    exact (List.mem_replicate.mp this).2
  subst ho
  unfold start3 at h1
  rw [start_eq] at h3
  by_cases hi : i < ds.length
  · rw [List.getElem?_append_left (by simpa using hi), List.getElem?_map] at h1
    rw [List.getElem?_append_left (by rw [List.length_map, hl]; exact hi), List.getElem?_map] at h3
    cases e1 : ds[i]? with
    | none => rw [e1] at h1; cases h1
    | some d =>
      rw [e1] at h1
      cases h1
      obtain ⟨v, e2, rv⟩ := r.get e1
      rw [e2] at h3
      cases h3
      exact ⟨rfl, v, rfl, rv⟩
  · rw [List.getElem?_append_right (by simpa using hi)] at h1
    have := List.mem_of_getElem? h1
    have hs := (List.mem_replicate.mp this).2
    subst hs
    rfl
/-- the body of such a def, at trees -/
theorem body3 {K : PySem.W.Frag} {n : Nat} {f : F3} {N : List Str} {t : TS} {x : S3} {W : WX} {vs : List V} {H : Hp} {Q : VK} {E : XK} (h : sp3 K n f vs H Q E) (hW : ∀ cls dd σ H', E cls dd H' → W cls dd σ H')
    (lt : LiftS K cf0 W t x) (hb : ∀ ds Q3 X, ds.length = n → f ds Q3 X → x { nx := fun _ => Q3 .non, rt := Q3, xn := fun _ => X } (start3 N.length ds)) : t { nx := fun _ H' => Q .non H', rt := Q } (start N vs) H := by
  obtain ⟨S, ds, hl, r, hS, Q3, X, hf, hq, hx⟩ := h
  refine lt _ _ (hb ds Q3 X hl hf) H S _ _ H _ (r3_start (c := cf0) (N := N) trivial (fun a h => ⟨hS a h, fun z => by cases z⟩) (fun _ => trivial) r) ⟨?_, ?_, fun _ _ _ _ _ z => z.elim, fun _ _ _ _ _ z => z.elim, ?_⟩
  · intro A σ3 σ H' R q
    exact hq _ _ _ R.fin.base (fun a h => R.fin.gk a h) .non q
  · intro v d H' F rv q
    exact hq _ _ _ F.base (fun a h => F.gk a h) rv q
  · intro A σ3 σ H' cls dd xn R rx q
    refine hW _ _ _ _ (hx cls dd xn H' R.fin.base (fun a h => R.fin.gk a h) ?_ q)
    obtain ⟨e, rx⟩ := rx
    refine ⟨e, ?_⟩
    cases dd with
    | none => exact rx
    | some d =>
      obtain ⟨fs, h1, h2, h3⟩ := rx
      exact ⟨fs, hid_fin _ _ h1, h2, h3.mono hid_fin⟩
/-- the call of such a def: nothing that is hidden changes -/
theorem sameX_of {S : List Addr} {H H' : Hp} (s1 : Same (hid S H) (hid S H')) (s2 : ∀ a ∈ S, H' a = H a) : SameX H H' := fun a φ e => by
  by_cases h : a ∈ S
  · rw [s2 a h]; exact e
  · exact (hid_some (s1 _ _ (hid_mk e h))).1
theorem sp3_call {K : PySem.W.Frag} {c : Cf} {n : Nat} {f : F3} {Hb H1 : Hp} {G : List Addr} {A : List (Option Addr)} {σ3 : List Sl} {σ : St} {vs : List V} {ds : List T} {Q : VK} {E : XK} {Q3 : T → Prop} {X : X3} (R1 : R3 K c Hb G A σ3 σ H1)
    (rx : RepL K (hid (c.S G A) H1) vs ds) (hl : ds.length = n) (hf : f ds Q3 X) (k : ∀ v d H', Le c G A H1 H' → Rep K (hid (c.S G A) H') v d → Q3 d → Q v H') (e : ∀ cls dd x H', Le c G A H1 H' → XRep K (hid (c.S G A) H') cls dd x → X x → E cls dd H') : sp3 K n f vs H1 Q E := by
  have le : ∀ H', Same (hid (c.S G A) H1) (hid (c.S G A) H') → (∀ a ∈ c.S G A, H' a = H1 a) → Le c G A H1 H' := fun H' s1 s2 =>
    ⟨s1, fun a ha => s2 a (mem_S.mpr (by rcases List.mem_append.mp ha with z | z; exact .inr (.inl z); exact .inr (.inr z))), c.st H1 H' (fun a ha => s2 a (mem_S.mpr (.inl ha))) (sameX_of s1 s2) R1.inv⟩
  exact ⟨c.S G A, ds, hl, rx, fun a h => R1.there h, Q3, X, hf, fun v d H' s1 s2 rv q => k v d H' (le H' s1 s2) rv q, fun cls dd xn H' s1 s2 rv q => e cls dd xn H' (le H' s1 s2) rv q⟩
def fn3 (n : Nat) (f : F3) (x : A3) (dvs : List T) : E3 := fun σ Q X => x σ (fun ds => (ds ++ dvs).length = n ∧ f (ds ++ dvs) Q X) X
/-- f(e, ..): f raises nothing here -/
def fn30 (n : Nat) (f : F3) (x : A3) (dvs : List T) : E3 := fun σ Q X => x σ (fun ds => (ds ++ dvs).length = n ∧ f (ds ++ dvs) Q (fun _ => False)) X
theorem lift_call0 {K : PySem.W.Frag} {c : Cf} {n : Nat} {f : F3} {W : WX} {E : XK} {t : TA} {x : A3} {dvs : List V} {dts : List T} (ha : LiftA K c W t x) (hd : ∀ H, RepL K H dvs dts) :
    Lift K c W (tCall (sp3 K n f) dvs E t) (fn30 n f x dts) := by
  intro σ3 Q3 X h Hb G A σ H Q R k e
  refine ha _ _ _ h Hb G A σ H _ R (fun vs ds H1 L1 rx hx => ?_) e
  exact sp3_call (R.le L1) (rx.append (hd _)) hx.1 hx.2 (fun v d H' L r q => k v d H' (L1.trans L) r q) (fun cls dd x H' L r q => q.elim)
theorem lift_call {K : PySem.W.Frag} {c : Cf} {n : Nat} {f : F3} {W : WX} {E : XK} {t : TA} {x : A3} {dvs : List V} {dts : List T} (hE : ∀ cls dd σ H, W cls dd σ H → E cls dd H) (ha : LiftA K c W t x) (hd : ∀ H, RepL K H dvs dts) :
    Lift K c W (tCall (sp3 K n f) dvs E t) (fn3 n f x dts) := by
  intro σ3 Q3 X h Hb G A σ H Q R k e
  refine ha _ _ _ h Hb G A σ H _ R (fun vs ds H1 L1 rx hx => ?_) e
  exact sp3_call (R.le L1) (rx.append (hd _)) hx.1 hx.2 (fun v d H' L r q => k v d H' (L1.trans L) r q) (fun cls dd x H' L r q => hE _ _ σ _ (e cls dd x H' (L1.trans L) r q))
end M3

/-! L3C: operations on trees; loops and comprehensions. -/
namespace M3
open PySem L2
/-! ### ints -/
def i2 (g : Int → Int → T) : T → T → (T → Prop) → Prop := fun x y Q => ob (asI x) fun i => ob (asI y) fun j => Q (g i j)
def i2c (C : Int → Int → Prop) (g : Int → Int → T) : T → T → (T → Prop) → Prop := fun x y Q => ob (asI x) fun i => ob (asI y) fun j => C i j ∧ Q (g i j)
def i1 (g : Int → T) : T → (T → Prop) → Prop := fun x Q => ob (asI x) fun i => Q (g i)
section
variable {K : PySem.W.Frag}
theorem rl_I0 {g : Int → Int → V} {g3 : Int → Int → T} (h : ∀ i j H, Rep K H (g i j) (g3 i j)) : RL2 K (rI0 g) (i2 g3) := by
  intro c x y Q3 hh Hb G A σ3 σ H vx vy Q R rx ry k
  obtain ⟨i, ei, hh1⟩ := ob_iff.mp hh
  obtain ⟨j, ej, q⟩ := ob_iff.mp hh1
  cases asI_is ei
  cases asI_is ej
  exact ⟨i, j, rx.intI, ry.intI, k _ _ H (Le.refl R.inv) (h i j _) q⟩
theorem rl_I {C : Int → Int → Prop} {g : Int → Int → V} {g3 : Int → Int → T} (h : ∀ i j H, Rep K H (g i j) (g3 i j)) : RL2 K (rI C g) (i2c C g3) := by
  intro c x y Q3 hh Hb G A σ3 σ H vx vy Q R rx ry k
  obtain ⟨i, ei, hh1⟩ := ob_iff.mp hh
  obtain ⟨j, ej, hc, q⟩ := ob_iff.mp hh1
  cases asI_is ei
  cases asI_is ej
  exact ⟨i, j, rx.intI, ry.intI, hc, k _ _ H (Le.refl R.inv) (h i j _) q⟩
theorem rl_U {g : Int → V} {g3 : Int → T} (h : ∀ i H, Rep K H (g i) (g3 i)) : RL1 K (rU g) (i1 g3) := by
  intro c x Q3 hh Hb G A σ3 σ H vx Q R rx k
  obtain ⟨i, ei, q⟩ := ob_iff.mp hh
  cases asI_is ei
  exact ⟨i, rx.intI, k _ _ H (Le.refl R.inv) (h i _) q⟩
abbrev add3 := i2 fun i j => .int (i + j)
abbrev sub3 := i2 fun i j => .int (i - j)
abbrev mul3 := i2c CMul fun i j => .int (i * j)
abbrev mulW3 := i2c CMulW fun i j => .int (i * j)
abbrev fdivW3 := i2c CDivW fun i j => .int (i / j)
abbrev fdiv3 := i2c CDiv fun i j => .int (i / j)
abbrev mod3 := i2c (fun _ j => 0 < j) fun i j => .int (i % j)
abbrev pow3 := i2c CPow fun i j => .int (i ^ j.toNat)
abbrev lt3 := i2 fun i j => .bl (decide (i < j))
abbrev le3 := i2 fun i j => .bl (decide (i ≤ j))
abbrev gt3 := i2 fun i j => .bl (decide (j < i))
abbrev ge3 := i2 fun i j => .bl (decide (j ≤ i))
abbrev neg3 := i1 fun i => .int (-i)
theorem rl_add : RL2 K (rI0 fun i j => .int (i + j)) add3 := rl_I0 fun _ _ _ => .int _
theorem rl_sub : RL2 K (rI0 fun i j => .int (i - j)) sub3 := rl_I0 fun _ _ _ => .int _
theorem rl_mul : RL2 K (rI CMul fun i j => .int (i * j)) mul3 := rl_I fun _ _ _ => .int _
theorem rl_mulW : RL2 K (rI CMulW fun i j => .int (i * j)) mulW3 := rl_I fun _ _ _ => .int _
theorem rl_fdivW : RL2 K (rI CDivW fun i j => .int (i / j)) fdivW3 := rl_I fun _ _ _ => .int _
theorem rl_fdiv : RL2 K (rI CDiv fun i j => .int (i / j)) fdiv3 := rl_I fun _ _ _ => .int _
theorem rl_mod : RL2 K (rI (fun _ j => 0 < j) fun i j => .int (i % j)) mod3 := rl_I fun _ _ _ => .int _
theorem rl_pow : RL2 K (rI CPow fun i j => .int (i ^ j.toNat)) pow3 := rl_I fun _ _ _ => .int _
theorem rl_lt : RL2 K (rI0 fun i j => .bl (decide (i < j))) lt3 := rl_I0 fun _ _ _ => .bl _
theorem rl_le : RL2 K (rI0 fun i j => .bl (decide (i ≤ j))) le3 := rl_I0 fun _ _ _ => .bl _
theorem rl_gt : RL2 K (rI0 fun i j => .bl (decide (j < i))) gt3 := rl_I0 fun _ _ _ => .bl _
theorem rl_ge : RL2 K (rI0 fun i j => .bl (decide (j ≤ i))) ge3 := rl_I0 fun _ _ _ => .bl _
theorem rl_neg : RL1 K (rU fun i => .int (-i)) neg3 := rl_U fun _ _ => .int _
/-! ### is None; == of scalars -/
def isNon : T → Bool
  | .non => true
  | _ => false
def isN3 : T → T → (T → Prop) → Prop := fun x y Q => ob (asN y) fun _ => Q (.bl (isNon x))
def notN3 : T → T → (T → Prop) → Prop := fun x y Q => ob (asN y) fun _ => Q (.bl (!isNon x))
theorem Rep.isNon {H : Hp} {v : V} {t : T} (r : Rep K H v t) : decide (v = .non) = M3.isNon t := by cases r <;> rfl
theorem rl_isN : RL2 K (fun x y H Q => y = .non ∧ Q (.bl (decide (x = .non))) H) isN3 := by
  intro c x y Q3 hh Hb G A σ3 σ H vx vy Q R rx ry k
  obtain ⟨_, en, q⟩ := ob_iff.mp hh
  cases asN_is en
  exact ⟨ry.nonI, by rw [rx.isNon]; exact k _ _ H (Le.refl R.inv) (.bl _) q⟩
theorem rl_notN : RL2 K (fun x y H Q => y = .non ∧ Q (.bl (!decide (x = .non))) H) notN3 := by
  intro c x y Q3 hh Hb G A σ3 σ H vx vy Q R rx ry k
  obtain ⟨_, en, q⟩ := ob_iff.mp hh
  cases asN_is en
  exact ⟨ry.nonI, by rw [rx.isNon]; exact k _ _ H (Le.refl R.inv) (.bl _) q⟩
/-- the scalars: told apart by == as data -/
def flatT : T → Option V
  | .non => some .non
  | .bl b => some (.bl b)
  | .int i => some (.int i)
  | .str x => some (.str x)
  | _ => none
theorem Rep.flat {H : Hp} {v w : V} {t : T} (r : Rep K H v t) (h : flatT t = some w) : v = w := by cases r <;> cases h <;> rfl
def eqS3 : T → T → (T → Prop) → Prop := fun x y Q => ob (flatT x) fun v => ob (flatT y) fun w => scal v w = true ∧ Q (.bl (decide (v = w)))
def neS3 : T → T → (T → Prop) → Prop := fun x y Q => ob (flatT x) fun v => ob (flatT y) fun w => scal v w = true ∧ Q (.bl (!decide (v = w)))
theorem rl_eqS : RL2 K rEq eqS3 := by
  intro c x y Q3 hh Hb G A σ3 σ H vx vy Q R rx ry k
  obtain ⟨v, h1, hh1⟩ := ob_iff.mp hh
  obtain ⟨w, h2, h3, q⟩ := ob_iff.mp hh1
  rw [rx.flat h1, ry.flat h2]
  exact ⟨h3, k _ _ H (Le.refl R.inv) (.bl _) q⟩
theorem rl_neS : RL2 K rNe neS3 := by
  intro c x y Q3 hh Hb G A σ3 σ H vx vy Q R rx ry k
  obtain ⟨v, h1, hh1⟩ := ob_iff.mp hh
  obtain ⟨w, h2, h3, q⟩ := ob_iff.mp hh1
  rw [rx.flat h1, ry.flat h2]
  exact ⟨h3, k _ _ H (Le.refl R.inv) (.bl _) q⟩
/-! ### is True, is False: of bools -/
/-! ### sequences -/
def items : T → Option (List T)
  | .lst xs => some xs
  | .tup xs => some xs
  | _ => none
def ixL3 : T → T → (T → Prop) → Prop := fun x y Q => ob (asL x) fun xs => ob (asI y) fun i => ob (atI xs i) Q
def ixT3 : T → T → (T → Prop) → Prop := fun x y Q => ob (asT x) fun xs => ob (asI y) fun i => ob (atI xs i) Q
theorem RepL.atI {H : Hp} {vs : List V} {ts : List T} {i : Int} {t : T} (r : RepL K H vs ts) (h : L2.atI ts i = some t) : ∃ v, L2.atI vs i = some v ∧ Rep K H v t := by
  unfold L2.atI at h ⊢
  rw [r.length]
  cases e : ixN ts.length i with
  | none => rw [e] at h; cases h
  | some j =>
    rw [e] at h
    exact r.get h
theorem rl_ixL : RL2 K (rIxL K) ixL3 := by
  intro c x y Q3 hh Hb G A σ3 σ H vx vy Q R rx ry k
  obtain ⟨xs, ex, hh1⟩ := ob_iff.mp hh
  obtain ⟨i, ei, hh2⟩ := ob_iff.mp hh1
  obtain ⟨t, h, q⟩ := ob_iff.mp hh2
  cases asL_is ex
  cases asI_is ei
  obtain ⟨a, vs, rfl, ha, rl⟩ := rx.lstI
  obtain ⟨v, h1, h2⟩ := rl.atI h
  exact ⟨a, vs, i, v, rfl, ry.intI, SqL.of (hid_same _ _ ha), h1, k _ _ H (Le.refl R.inv) h2 q⟩
theorem rl_ixT : RL2 K (rIxT K) ixT3 := by
  intro c x y Q3 hh Hb G A σ3 σ H vx vy Q R rx ry k
  obtain ⟨xs, ex, hh1⟩ := ob_iff.mp hh
  obtain ⟨i, ei, hh2⟩ := ob_iff.mp hh1
  obtain ⟨t, h, q⟩ := ob_iff.mp hh2
  cases asT_is ex
  cases asI_is ei
  obtain ⟨a, vs, rfl, ha, rl⟩ := rx.tupI
  obtain ⟨v, h1, h2⟩ := rl.atI h
  exact ⟨a, vs, i, v, rfl, ry.intI, Same.sqT hid_same ha, h1, k _ _ H (Le.refl R.inv) h2 q⟩
def ixS3 : T → T → (T → Prop) → Prop := fun x y Q => ob (asS x) fun z => ob (asI y) fun i => z.length ≤ sizeLine ∧ ob (atI z.cps.toList i) fun c => Q (.str ⟨#[c]⟩)
theorem rl_ixS : RL2 K rIxS ixS3 := by
  intro c x y Q3 hh Hb G A σ3 σ H vx vy Q R rx ry k
  obtain ⟨z, ez, hh1⟩ := ob_iff.mp hh
  obtain ⟨i, ei, h, hh2⟩ := ob_iff.mp hh1
  obtain ⟨t, h1, q⟩ := ob_iff.mp hh2
  cases asS_is ez
  cases asI_is ei
  exact ⟨z, i, t, rx.strI, ry.intI, h, h1, k _ _ H (Le.refl R.inv) (.str _) q⟩
theorem RL2.or {r r' : R2} {q q' : T → T → (T → Prop) → Prop} (h : RL2 K r q) (h' : RL2 K r' q') : RL2 K (fun x y H Q => r x y H Q ∨ r' x y H Q) (fun x y Q => q x y Q ∨ q' x y Q) := by
  intro c x y Q3 hh Hb G A σ3 σ H vx vy Q R rx ry k
  rcases hh with hh | hh
  · exact .inl (h c x y Q3 hh Hb G A σ3 σ H vx vy Q R rx ry k)
  · exact .inr (h' c x y Q3 hh Hb G A σ3 σ H vx vy Q R rx ry k)
theorem RLn.or {r r' : List V → Hp → VK → Prop} {q q' : List T → (T → Prop) → Prop} (h : RLn K r q) (h' : RLn K r' q') : RLn K (fun x H Q => r x H Q ∨ r' x H Q) (fun x Q => q x Q ∨ q' x Q) := by
  intro c x Q3 hh Hb G A σ3 σ H vx Q R rx k
  rcases hh with hh | hh
  · exact .inl (h c x Q3 hh Hb G A σ3 σ H vx Q R rx k)
  · exact .inr (h' c x Q3 hh Hb G A σ3 σ H vx Q R rx k)
/-- len of a list, a tuple, a text -/
def lenT : T → Option Nat
  | .lst xs => some xs.length
  | .tup xs => some xs.length
  | .str z => if z.length ≤ sizeLine then some z.length else none
  | _ => none
def len3 : List T → (T → Prop) → Prop := fun xs Q => ob (one xs) fun x => ob (lenT x) fun n => Q (.int n)
theorem repL_one {H : Hp} {vs : List V} {t : T} (r : RepL K H vs [t]) : ∃ v, vs = [v] ∧ Rep K H v t := by
  cases r with
  | cons r q => cases q; exact ⟨_, rfl, r⟩
theorem repL_two {H : Hp} {vs : List V} {t u : T} (r : RepL K H vs [t, u]) : ∃ v w, vs = [v, w] ∧ Rep K H v t ∧ Rep K H w u := by
  cases r with
  | cons r q =>
    obtain ⟨w, rfl, h⟩ := repL_one q
    exact ⟨_, w, rfl, r, h⟩
theorem rl_len : RLn K (fun xs H Q => ∃ x n, xs = [x] ∧ LenV K x H n ∧ Q (.int n) H) len3 := by
  intro c xs Q3 hh Hb G A σ3 σ H vs Q R rx k
  obtain ⟨x, ex, hh1⟩ := ob_iff.mp hh
  obtain ⟨n, hn, q⟩ := ob_iff.mp hh1
  cases one_is ex
  obtain ⟨v, rfl, r⟩ := repL_one rx
  refine ⟨v, n, rfl, ?_, k _ _ H (Le.refl R.inv) (.int _) q⟩
  cases x with
  | lst xs =>
    cases hn
    obtain ⟨a, vs, rfl, ha, rl⟩ := r.lstI
    exact .inl ⟨vs, SqL.of (hid_same _ _ ha), by rw [rl.length]⟩
  | tup xs =>
    cases hn
    obtain ⟨a, vs, rfl, ha, rl⟩ := r.tupI
    exact .inr ⟨vs, Same.sqT hid_same ha, by rw [rl.length]⟩
  | str z =>
    cases r.strI
    replace hn : (if z.length ≤ sizeLine then some z.length else none) = some n := hn
    by_cases hz : z.length ≤ sizeLine
    · rw [if_pos hz] at hn; cases hn; exact ⟨hz, rfl⟩
    · rw [if_neg hz] at hn; cases hn
  | _ => cases hn
/-- all(xs) of a list of bools -/
def bls : List T → Option (List Bool)
  | [] => some []
  | .bl b :: r => (bls r).map (b :: ·)
  | _ => none
theorem bls_map : ∀ bs : List Bool, bls (bs.map T.bl) = some bs
  | [] => rfl
  | b :: bs => by show (bls (bs.map T.bl)).map (b :: ·) = _; rw [bls_map bs]; rfl
theorem RepL.bls {H : Hp} : ∀ {vs : List V} {ts : List T} {bs : List Bool}, RepL K H vs ts → M3.bls ts = some bs → vs = bs.map V.bl
  | _, [], bs, .nil, h => by cases h; rfl
  | _, t :: ts, bs, .cons r q, h => by
    cases t with
    | bl b =>
      cases e : M3.bls ts with
      | none =>
        have : (M3.bls ts).map (b :: ·) = some bs := h
        rw [e] at this; cases this
      | some l =>
        have h' : (M3.bls ts).map (b :: ·) = some bs := h
        rw [e] at h'
        cases h'
        rw [r.blI, RepL.bls q e, List.map_cons]
    | _ => cases h
def all3 : List T → (T → Prop) → Prop := fun xs Q => ob (one xs) fun x => ob (asL x) fun ts => ob (bls ts) fun bs => Q (.bl (bs.all id))
def any3 : List T → (T → Prop) → Prop := fun xs Q => ob (one xs) fun x => ob (asL x) fun ts => ob (bls ts) fun bs => Q (.bl (bs.any id))
theorem rl_all : RLn K (rAll K) all3 := by
  intro c xs Q3 hh Hb G A σ3 σ H vs Q R rx k
  obtain ⟨x, ex, hh1⟩ := ob_iff.mp hh
  obtain ⟨ts, et, hh2⟩ := ob_iff.mp hh1
  obtain ⟨bs, hn, q⟩ := ob_iff.mp hh2
  cases one_is ex
  cases asL_is et
  obtain ⟨v, rfl, r⟩ := repL_one rx
  obtain ⟨a, vs, rfl, ha, rl⟩ := r.lstI
  refine ⟨a, bs, rfl, ?_, k _ _ H (Le.refl R.inv) (.bl _) q⟩
  rw [← rl.bls hn]
  exact SqL.of (hid_same _ _ ha)
theorem rl_any : RLn K (rAny K) any3 := by
  intro c xs Q3 hh Hb G A σ3 σ H vs Q R rx k
  obtain ⟨x, ex, hh1⟩ := ob_iff.mp hh
  obtain ⟨ts, et, hh2⟩ := ob_iff.mp hh1
  obtain ⟨bs, hn, q⟩ := ob_iff.mp hh2
  cases one_is ex
  cases asL_is et
  obtain ⟨v, rfl, r⟩ := repL_one rx
  obtain ⟨a, vs, rfl, ha, rl⟩ := r.lstI
  refine ⟨a, bs, rfl, ?_, k _ _ H (Le.refl R.inv) (.bl _) q⟩
  rw [← rl.bls hn]
  exact SqL.of (hid_same _ _ ha)
/-! ### abs, max, min of two ints; int(bool) -/
def abs3 : List T → (T → Prop) → Prop := fun xs Q => ob (one xs) fun x => ob (asI x) fun i => Q (.int (if i < 0 then -i else i))
theorem rl_abs : RLn K (fun xs H Q => ∃ i, xs = [.int i] ∧ Q (.int (if i < 0 then -i else i)) H) abs3 := by
  intro c xs Q3 hh Hb G A σ3 σ H vs Q R rx k
  obtain ⟨x, ex, hh1⟩ := ob_iff.mp hh
  obtain ⟨i, ei, q⟩ := ob_iff.mp hh1
  cases one_is ex
  cases asI_is ei
  obtain ⟨v, rfl, r⟩ := repL_one rx
  cases r.intI
  exact ⟨i, rfl, k _ _ H (Le.refl R.inv) (.int _) q⟩
def max23 : List T → (T → Prop) → Prop := fun xs Q => ob (two xs) fun p => ob (asI p.1) fun i => ob (asI p.2) fun j => Q (.int (if j > i then j else i))
def min23 : List T → (T → Prop) → Prop := fun xs Q => ob (two xs) fun p => ob (asI p.1) fun i => ob (asI p.2) fun j => Q (.int (if j < i then j else i))
theorem rl_max2 : RLn K (fun xs H Q => ∃ i j, xs = [.int i, .int j] ∧ Q (.int (if j > i then j else i)) H) max23 := by
  intro c xs Q3 hh Hb G A σ3 σ H vs Q R rx k
  obtain ⟨⟨x, y⟩, ex, hh1⟩ := ob_iff.mp hh
  obtain ⟨i, ei, hh2⟩ := ob_iff.mp hh1
  obtain ⟨j, ej, q⟩ := ob_iff.mp hh2
  cases two_is ex
  cases asI_is ei
  cases asI_is ej
  obtain ⟨v, w, rfl, r, s⟩ := repL_two rx
  cases r.intI
  cases s.intI
  exact ⟨i, j, rfl, k _ _ H (Le.refl R.inv) (.int _) q⟩
theorem rl_min2 : RLn K (fun xs H Q => ∃ i j, xs = [.int i, .int j] ∧ Q (.int (if j < i then j else i)) H) min23 := by
  intro c xs Q3 hh Hb G A σ3 σ H vs Q R rx k
  obtain ⟨⟨x, y⟩, ex, hh1⟩ := ob_iff.mp hh
  obtain ⟨i, ei, hh2⟩ := ob_iff.mp hh1
  obtain ⟨j, ej, q⟩ := ob_iff.mp hh2
  cases two_is ex
  cases asI_is ei
  cases asI_is ej
  obtain ⟨v, w, rfl, r, s⟩ := repL_two rx
  cases r.intI
  cases s.intI
  exact ⟨i, j, rfl, k _ _ H (Le.refl R.inv) (.int _) q⟩
/-! ### isinstance with a built-in class -/
def tyn : T → Option String
  | .non => some "NoneType"
  | .bl _ => some "bool"
  | .int _ => some "int"
  | .str _ => some "str"
  | .tup _ => some "tuple"
  | .lst _ => some "list"
  | .dic _ => some "dict"
  | _ => none
theorem sqT_ty {H : Hp} {a : Addr} {vs : List V} (h : SqT K H a vs) : TyX K H (.ref a) (.type "tuple") := by
  rcases h with (h | ⟨o, h⟩) | ⟨o, its, n, h1, h2, _⟩
  · exact .base (.tup h)
  · exact .fTuple h
  · exact .kTuple h1 h2
theorem Rep.ty_ {H : Hp} {v : V} {t : T} {n : String} (r : Rep K H v t) (h : tyn t = some n) : TyX K H v (.type n) := by
  cases r with
  | non => cases h; exact .base .non
  | bl b => cases h; exact .base (.bl b)
  | int i => cases h; exact .base (.int i)
  | str x => cases h; exact .base (.str x)
  | ty n => cases h
  | ref a => cases h
  | tup h' => cases h; exact sqT_ty h'
  | lst h' => cases h; exact .base (.lst h')
  | dic h' =>
    cases h
    rcases h' with h' | ⟨o, h'⟩
    · exact .base (.dK h')
    · exact .fDict h'
  | ins h' => cases h
def isiB (x c : T) : Option Bool := match c with | .ty n => (tyn x).bind fun a => kitB a n | _ => none
def isi3 : List T → (T → Prop) → Prop := fun xs Q => ob (two xs) fun p => ob (isiB p.1 p.2) fun b => Q (.bl b)
theorem TyX.mono {H H' : Hp} {v : V} {t : Value} (e : Same H H') (h : TyX K H v t) : TyX K H' v t := by
  cases h with
  | base h =>
    refine .base ?_
    cases h with
    | non => exact .non
    | bl b => exact .bl b
    | int i => exact .int i
    | str x => exact .str x
    | flt x => exact .flt x
    | lst h => exact .lst (e _ _ h)
    | frz h => exact .frz (e _ _ h)
    | tup h => exact .tup (e _ _ h)
    | dK h => exact .dK (e _ _ h)
    | dT h => exact .dT (e _ _ h)
    | ins h cl ha hn ht hm => exact .ins (e _ _ h) cl ha hn ht hm
  | byt b => exact .byt b
  | set h => exact .set (e _ _ h)
  | kList h c => exact .kList h c
  | kTuple h c => exact .kTuple h c
  | kDict h c => exact .kDict h c
  | fTuple h => exact .fTuple (e _ _ h)
  | fDict h => exact .fDict (e _ _ h)
theorem rl_isi : RLn K (rIsi K) isi3 := by
  intro c xs Q3 hh Hb G A σ3 σ H vs Q R rx k
  obtain ⟨⟨x, y⟩, ex, hh1⟩ := ob_iff.mp hh
  obtain ⟨b, hb, q⟩ := ob_iff.mp hh1
  cases two_is ex
  obtain ⟨n, a, rfl, h1, h2⟩ : ∃ n a, y = .ty n ∧ tyn x = some a ∧ kitB a n = some b := by
    cases y with
    | ty n =>
      cases e : tyn x with
      | none =>
        have hb : (tyn x).bind (fun a => kitB a n) = some b := hb
        rw [e] at hb
        cases hb
      | some a =>
        have hb : (tyn x).bind (fun a => kitB a n) = some b := hb
        rw [e] at hb
        exact ⟨n, a, rfl, rfl, hb⟩
    | _ => cases hb
  obtain ⟨v, w, rfl, r, s⟩ := repL_two rx
  cases s.tyI
  exact ⟨v, _, _, _, b, rfl, .ty n, TyX.mono hid_same (r.ty_ h1), kit_ty h2, k _ _ H (Le.refl R.inv) (.bl _) q⟩
end
theorem kb_non_bool : kitB "NoneType" "bool" = some false := by decide +kernel
theorem kb_non_int : kitB "NoneType" "int" = some false := by decide +kernel
theorem kb_non_str : kitB "NoneType" "str" = some false := by decide +kernel
theorem kb_non_list : kitB "NoneType" "list" = some false := by decide +kernel
theorem kb_non_tuple : kitB "NoneType" "tuple" = some false := by decide +kernel
theorem kb_bool_bool : kitB "bool" "bool" = some true := by decide +kernel
theorem kb_bool_int : kitB "bool" "int" = some true := by decide +kernel
theorem kb_bool_str : kitB "bool" "str" = some false := by decide +kernel
theorem kb_bool_list : kitB "bool" "list" = some false := by decide +kernel
theorem kb_bool_tuple : kitB "bool" "tuple" = some false := by decide +kernel
theorem kb_int_bool : kitB "int" "bool" = some false := by decide +kernel
theorem kb_int_int : kitB "int" "int" = some true := by decide +kernel
theorem kb_int_str : kitB "int" "str" = some false := by decide +kernel
theorem kb_int_list : kitB "int" "list" = some false := by decide +kernel
theorem kb_int_tuple : kitB "int" "tuple" = some false := by decide +kernel
theorem kb_str_bool : kitB "str" "bool" = some false := by decide +kernel
theorem kb_str_int : kitB "str" "int" = some false := by decide +kernel
theorem kb_str_str : kitB "str" "str" = some true := by decide +kernel
theorem kb_str_list : kitB "str" "list" = some false := by decide +kernel
theorem kb_str_tuple : kitB "str" "tuple" = some false := by decide +kernel
theorem kb_list_bool : kitB "list" "bool" = some false := by decide +kernel
theorem kb_list_int : kitB "list" "int" = some false := by decide +kernel
theorem kb_list_str : kitB "list" "str" = some false := by decide +kernel
theorem kb_list_list : kitB "list" "list" = some true := by decide +kernel
theorem kb_list_tuple : kitB "list" "tuple" = some false := by decide +kernel
theorem kb_tuple_bool : kitB "tuple" "bool" = some false := by decide +kernel
theorem kb_tuple_int : kitB "tuple" "int" = some false := by decide +kernel
theorem kb_tuple_str : kitB "tuple" "str" = some false := by decide +kernel
theorem kb_tuple_list : kitB "tuple" "list" = some false := by decide +kernel
theorem kb_tuple_tuple : kitB "tuple" "tuple" = some true := by decide +kernel
end M3

/-! L3D: loops and comprehensions over trees. -/
namespace M3
open PySem L2
/-- the iterator yields the trees ds, while what V0 shows stands -/
structure Walks (K : PySem.W.Frag) (V0 : Hp) (J : It) (ds : List T) : Prop where
  go : ∀ (i : Nat) d S H, ds[i]? = some d → Same V0 (hid S H) → J.go i H
  yld : ∀ (i : Nat) d S H x H', ds[i]? = some d → Same V0 (hid S H) → (∀ a ∈ S, H a ≠ none) → J.yld i H x H' → (H' = H ∨ ∃ p o, H p = none ∧ H' = upd H p o) ∧ Rep K (hid S H') x d
  stop : ∀ S H, Same V0 (hid S H) → J.stop ds.length H
def LiftI (K : PySem.W.Frag) (c : Cf) (W : WX) (wi : TI) (t : A3) : Prop :=
  ∀ σ3 Q3 X, t σ3 Q3 X → ∀ Hb G A σ H R', R3 K c Hb G A σ3 σ H →
    (∀ J ds H', Le c G A H H' → Walks K (hid (c.S G A) H') J ds → Q3 ds → R' J H') →
    (∀ cls dd x H', Le c G A H H' → XRep K (hid (c.S G A) H') cls dd x → X x → W cls dd σ H') → wi σ H R'
section
variable {K : PySem.W.Frag} {c : Cf} {W : WX} {ta tb te : TE} {a b e : E3}
theorem walks_list {V0 : Hp} {a : Addr} {vs : List V} {ds : List T} (h : V0 a = some (.lst vs)) (r : RepL K V0 vs ds) : Walks K V0 (Itl K a) ds where
  go := fun i d S H hd e => by
    obtain ⟨v, hv, _⟩ := r.get hd
    exact ⟨vs, v, SqL.of (hid_same _ _ (e _ _ h)), hv⟩
  yld := fun i d S H x H' hd e _ y => by
    obtain ⟨v, hv, rv⟩ := r.get hd
    obtain ⟨rfl, y⟩ := y
    have z := y vs (SqL.of (hid_same _ _ (e _ _ h)))
    rw [hv] at z
    cases z
    exact ⟨.inl rfl, rv.mono e⟩
  stop := fun S H e => ⟨vs, SqL.of (hid_same _ _ (e _ _ h)), by rw [r.length]; exact Nat.le_refl _⟩
theorem walks_tup {V0 : Hp} {a : Addr} {vs : List V} {ds : List T} (h : SqT K V0 a vs) (r : RepL K V0 vs ds) : Walks K V0 (Itt K a) ds where
  go := fun i d S H hd e => by
    obtain ⟨v, hv, _⟩ := r.get hd
    exact ⟨vs, v, Same.sqT hid_same (Same.sqT e h), hv⟩
  yld := fun i d S H x H' hd e _ y => by
    obtain ⟨v, hv, rv⟩ := r.get hd
    obtain ⟨rfl, y⟩ := y
    have z := y vs (Same.sqT hid_same (Same.sqT e h))
    rw [hv] at z
    cases z
    exact ⟨.inl rfl, rv.mono e⟩
  stop := fun S H e => ⟨vs, Same.sqT hid_same (Same.sqT e h), by rw [r.length]; exact Nat.le_refl _⟩
def rangeT (lo : Int) (n : Nat) : List T := (List.range n).map fun i => .int (lo + (i : Nat))
theorem walks_range {V0 : Hp} (lo : Int) (n : Nat) : Walks K V0 (Itr lo n) (rangeT lo n) where
  go := fun i d S H hd e => by
    have := (List.getElem?_eq_some_iff.mp hd).1
    show i < n
    simpa [rangeT] using this
  yld := fun i d S H x H' hd e _ y => by
    obtain ⟨rfl, rfl⟩ := y
    have hl := (List.getElem?_eq_some_iff.mp hd).1
    have hl : i < n := by simpa [rangeT] using hl
    have z : (rangeT lo n)[i]? = some (.int (lo + (i : Nat))) := by
      unfold rangeT
      rw [List.getElem?_map, List.getElem?_range hl]
      rfl
    rw [z] at hd
    cases hd
    exact ⟨.inl rfl, .int _⟩
  stop := fun S H e => by
    show n ≤ _
    simp [rangeT]
def iterL3 (a : E3) : A3 := fun σ Q X => a σ (fun d => ob (asL d) Q) X
def iterT3 (a : E3) : A3 := fun σ Q X => a σ (fun d => ob (asT d) Q) X
def iterR3 (x : A3) : A3 := fun σ Q X => x σ (fun ds => ob (one ds) fun d => ob (asI d) fun j => -(2 ^ 62) ≤ j ∧ j < 2 ^ 62 ∧ Q (rangeT 0 j.toNat)) X
def iterR23 (x : A3) : A3 := fun σ Q X => x σ (fun ds => ob (two ds) fun d => ob (asI d.1) fun i => ob (asI d.2) fun j => (-(2 ^ 62) ≤ i ∧ i < 2 ^ 62 ∧ -(2 ^ 62) ≤ j ∧ j < 2 ^ 62) ∧ Q (rangeT i (j - i).toNat)) X
theorem lift_iL (ha : Lift K c W ta a) : LiftI K c W (iList K ta) (iterL3 a) := by
  intro σ3 Q3 X h Hb G A σ H R' R k e
  refine ha _ _ _ h Hb G A σ H _ R (fun v d H1 L1 r q => ?_) e
  obtain ⟨xs, ex, q1⟩ := ob_iff.mp q
  cases asL_is ex
  obtain ⟨p, vs, rfl, hp, rl⟩ := r.lstI
  exact ⟨p, rfl, ⟨vs, SqL.of (hid_same _ _ hp)⟩, k _ _ H1 L1 (walks_list hp rl) q1⟩
theorem lift_iT (ha : Lift K c W ta a) : LiftI K c W (iTup K ta) (iterT3 a) := by
  intro σ3 Q3 X h Hb G A σ H R' R k e
  refine ha _ _ _ h Hb G A σ H _ R (fun v d H1 L1 r q => ?_) e
  obtain ⟨xs, ex, q1⟩ := ob_iff.mp q
  cases asT_is ex
  obtain ⟨p, vs, rfl, hp, rl⟩ := r.tupI
  exact ⟨p, rfl, ⟨vs, Same.sqT hid_same hp⟩, k _ _ H1 L1 (walks_tup hp rl) q1⟩
theorem lift_iR {t : TA} {x : A3} (ha : LiftA K c W t x) : LiftI K c W (iRng1 t) (iterR3 x) := by
  intro σ3 Q3 X h Hb G A σ H R' R k e
  refine ha _ _ _ h Hb G A σ H _ R (fun v d H1 L1 r q => ?_) e
  obtain ⟨d, ed, q1⟩ := ob_iff.mp q
  obtain ⟨j, ej, h1, h2, q2⟩ := ob_iff.mp q1
  cases one_is ed
  cases asI_is ej
  obtain ⟨v, rfl, rv⟩ := repL_one r
  cases rv.intI
  exact ⟨j, rfl, h1, h2, k _ _ H1 L1 (walks_range 0 j.toNat) q2⟩
theorem lift_iR2 {t : TA} {x : A3} (ha : LiftA K c W t x) : LiftI K c W (iRng2 t) (iterR23 x) := by
  intro σ3 Q3 X h Hb G A σ H R' R k e
  refine ha _ _ _ h Hb G A σ H _ R (fun v d H1 L1 r q => ?_) e
  obtain ⟨⟨d, d'⟩, ed, q1⟩ := ob_iff.mp q
  obtain ⟨i, ei, q2⟩ := ob_iff.mp q1
  obtain ⟨j, ej, h1, q3⟩ := ob_iff.mp q2
  cases two_is ed
  cases asI_is ei
  cases asI_is ej
  obtain ⟨v, w, rfl, rv, rw'⟩ := repL_two r
  cases rv.intI
  cases rw'.intI
  exact ⟨i, j, rfl, h1, k _ _ H1 L1 (walks_range i (j - i).toNat) q3⟩
/-! ### zip -/
def pairT : List T → List T → List T
  | x :: xs, y :: ys => .tup [x, y] :: pairT xs ys
  | _, _ => []
theorem pairT_get : ∀ {xs ys : List T} {i : Nat} {d : T}, (pairT xs ys)[i]? = some d → ∃ x y, xs[i]? = some x ∧ ys[i]? = some y ∧ d = .tup [x, y]
  | [], _, i, d, h => by simp [pairT] at h
  | _ :: _, [], i, d, h => by simp [pairT] at h
  | x :: xs, y :: ys, 0, d, h => ⟨x, y, rfl, rfl, by simpa [pairT] using h.symm⟩
  | x :: xs, y :: ys, i + 1, d, h => by
    have h' : (pairT xs ys)[i]? = some d := by simpa [pairT] using h
    obtain ⟨x', y', h1, h2, h3⟩ := pairT_get h'
    exact ⟨x', y', by simpa using h1, by simpa using h2, h3⟩
theorem pairT_len : ∀ (xs ys : List T), (pairT xs ys).length = min xs.length ys.length
  | [], _ => by simp [pairT]
  | _ :: _, [] => by simp [pairT]
  | x :: xs, y :: ys => by simp [pairT, pairT_len xs ys]
theorem yld_pair {S : List Addr} {H H' : Hp} {Tt : Addr} {v w : V} {x y : T} (hS : ∀ a ∈ S, H a ≠ none) (hT : H Tt = none) (e : H' = upd H Tt (.tup [v, w])) (r1 : Rep K (hid S H) v x) (r2 : Rep K (hid S H) w y) :
    (H' = H ∨ ∃ p o, H p = none ∧ H' = upd H p o) ∧ Rep K (hid S H') (.ref Tt) (.tup [x, y]) := by
  subst e
  have hn : Tt ∉ S := fun z => hS Tt z hT
  have sm : Same (hid S H) (hid S (upd H Tt (.tup [v, w]))) := fun a o z => by
    obtain ⟨z1, z2⟩ := hid_some z
    exact hid_mk (by rw [upd_ne (ne_of_none z1 hT)]; exact z1) z2
  exact ⟨.inr ⟨Tt, _, hT, rfl⟩, .mkT (SqT.of (hid_mk upd_same hn)) (.cons (r1.mono sm) (.cons (r2.mono sm) .nil))⟩
theorem walks_zipL {V0 : Hp} {a b : Addr} {vs ws : List V} {xs ys : List T} (ha : V0 a = some (.lst vs)) (hb : V0 b = some (.lst ws)) (r : RepL K V0 vs xs) (s : RepL K V0 ws ys) : Walks K V0 (Itz K a b) (pairT xs ys) where
  go := fun i d S H hd e => by
    obtain ⟨x, y, h1, h2, _⟩ := pairT_get hd
    obtain ⟨v, hv, _⟩ := r.get h1
    obtain ⟨w, hw, _⟩ := s.get h2
    exact ⟨vs, ws, v, w, SqL.of (hid_same _ _ (e _ _ ha)), SqL.of (hid_same _ _ (e _ _ hb)), hv, hw⟩
  yld := fun i d S H x H' hd e hS y => by
    obtain ⟨x1, y1, h1, h2, rfl⟩ := pairT_get hd
    obtain ⟨v, hv, rv⟩ := r.get h1
    obtain ⟨w, hw, rw'⟩ := s.get h2
    obtain ⟨Tt, p, q, rfl, hT, e', f1, f2⟩ := y
    have z1 := f1 vs (SqL.of (hid_same _ _ (e _ _ ha)))
    have z2 := f2 ws (SqL.of (hid_same _ _ (e _ _ hb)))
    rw [hv] at z1
    rw [hw] at z2
    cases z1
    cases z2
    exact yld_pair hS hT e' (rv.mono e) (rw'.mono e)
  stop := fun S H e => ⟨vs, ws, SqL.of (hid_same _ _ (e _ _ ha)), SqL.of (hid_same _ _ (e _ _ hb)), by rw [pairT_len, r.length, s.length]; omega⟩
theorem walks_zipT {V0 : Hp} {a b : Addr} {vs ws : List V} {xs ys : List T} (ha : SqT K V0 a vs) (hb : SqT K V0 b ws) (r : RepL K V0 vs xs) (s : RepL K V0 ws ys) : Walks K V0 (RZ.ItzT K a b) (pairT xs ys) where
  go := fun i d S H hd e => by
    obtain ⟨x, y, h1, h2, _⟩ := pairT_get hd
    obtain ⟨v, hv, _⟩ := r.get h1
    obtain ⟨w, hw, _⟩ := s.get h2
    exact ⟨vs, ws, v, w, Same.sqT hid_same (Same.sqT e ha), Same.sqT hid_same (Same.sqT e hb), hv, hw⟩
  yld := fun i d S H x H' hd e hS y => by
    obtain ⟨x1, y1, h1, h2, rfl⟩ := pairT_get hd
    obtain ⟨v, hv, rv⟩ := r.get h1
    obtain ⟨w, hw, rw'⟩ := s.get h2
    obtain ⟨Tt, p, q, rfl, hT, e', f1, f2⟩ := y
    have z1 := f1 vs (Same.sqT hid_same (Same.sqT e ha))
    have z2 := f2 ws (Same.sqT hid_same (Same.sqT e hb))
    rw [hv] at z1
    rw [hw] at z2
    cases z1
    cases z2
    exact yld_pair hS hT e' (rv.mono e) (rw'.mono e)
  stop := fun S H e => ⟨vs, ws, Same.sqT hid_same (Same.sqT e ha), Same.sqT hid_same (Same.sqT e hb), by rw [pairT_len, r.length, s.length]; omega⟩
/-- zip of two lists, of two tuples -/
def zipT : T → T → Option (List T)
  | .lst xs, .lst ys => some (pairT xs ys)
  | .tup xs, .tup ys => some (pairT xs ys)
  | _, _ => none
def iterZ3 (x : A3) : A3 := fun σ Q X => x σ (fun ds => ob (two ds) fun p => ob (zipT p.1 p.2) Q) X
theorem zipT_is {x y : T} {l : List T} (h : zipT x y = some l) : ∃ xs ys, l = pairT xs ys ∧ ((x = .lst xs ∧ y = .lst ys) ∨ (x = .tup xs ∧ y = .tup ys)) := by
  cases x <;> cases y <;> cases h <;> first | exact ⟨_, _, rfl, .inl ⟨rfl, rfl⟩⟩ | exact ⟨_, _, rfl, .inr ⟨rfl, rfl⟩⟩
theorem lift_iZ {t : TA} {x : A3} (ha : LiftA K c W t x) : LiftI K c W (RZ.iZipA K t) (iterZ3 x) := by
  intro σ3 Q3 X h Hb G A σ H R' R k e
  refine ha _ _ _ h Hb G A σ H _ R (fun v d H1 L1 r q => ?_) e
  obtain ⟨⟨d, d'⟩, ed, q1⟩ := ob_iff.mp q
  obtain ⟨l, el, q2⟩ := ob_iff.mp q1
  cases two_is ed
  obtain ⟨xs, ys, rfl, hh⟩ := zipT_is el
  rcases hh with ⟨rfl, rfl⟩ | ⟨rfl, rfl⟩
  · obtain ⟨v, w, rfl, rv, rw'⟩ := repL_two r
    obtain ⟨p, vs, rfl, hp, rl⟩ := rv.lstI
    obtain ⟨p2, ws, rfl, hp2, rl2⟩ := rw'.lstI
    exact ⟨p, p2, vs, ws, rfl, .inl ⟨SqL.of (hid_same _ _ hp), SqL.of (hid_same _ _ hp2), k _ _ H1 L1 (walks_zipL hp hp2 rl rl2) q2⟩⟩
  · obtain ⟨v, w, rfl, rv, rw'⟩ := repL_two r
    obtain ⟨p, vs, rfl, hp, rl⟩ := rv.tupI
    obtain ⟨p2, ws, rfl, hp2, rl2⟩ := rw'.tupI
    exact ⟨p, p2, vs, ws, rfl, .inr ⟨Same.sqT hid_same hp, Same.sqT hid_same hp2, k _ _ H1 L1 (walks_zipT hp hp2 rl rl2) q2⟩⟩
end
/-! ### a base anew -/
section
variable {K : PySem.W.Frag} {c : Cf} {Hb H H1 H' : Hp} {G : List Addr} {A A' : List (Option Addr)} {σ3 σ3' : List Sl} {σ σ' : St}
theorem R3.rebase (r : R3 K c Hb G A σ3 σ H) : R3 K c (out (addrs A) H) G A σ3 σ H where
  inv := r.inv
  base := fun a o e => by
    obtain ⟨e1, e2⟩ := hid_some e
    obtain ⟨e3, e4⟩ := out_some e1
    exact hid_mk e3 fun z => by
      rcases mem_S.mp z with z | z | z
      · exact e2 (List.mem_append.mpr (.inl z))
      · exact e2 (List.mem_append.mpr (.inr z))
      · exact e4 z
  gk := fun a h => ⟨by rw [out_out (fun z => r.ns a z (List.mem_append.mpr (.inr h)))], (r.gk a h).2⟩
  gv := r.gv
  nd := r.nd
  ns := r.ns
  l1 := r.l1
  l2 := r.l2
  at_ := r.at_
theorem rebase_vis : Same (hid (c.S G A) H1) (hid (c.S0 ++ G) (out (addrs A) H1)) := fun a o e => by
  obtain ⟨e1, e2⟩ := hid_some e
  refine hid_mk (by rw [out_out fun z => e2 (mem_S.mpr (.inr (.inr z)))]; exact e1) (fun z => e2 ?_)
  rcases List.mem_append.mp z with z | z
  · exact mem_S.mpr (.inl z)
  · exact mem_S.mpr (.inr (.inl z))
theorem Fin3.debase (r : R3 K c Hb G A σ3 σ H1) (q : Fin3 K c (out (addrs A) H1) G H') : Fin3 K c Hb G H' where
  inv := q.inv
  base := Same.trans r.base (Same.trans rebase_vis q.base)
  gk := fun a h => by rw [q.gk a h, out_out (fun z => r.ns a z (List.mem_append.mpr (.inr h))), (r.gk a h).1]
theorem R3.debase (r : R3 K c Hb G A σ3 σ H1) (q : R3 K c (out (addrs A) H1) G A' σ3' σ' H') : R3 K c Hb G A' σ3' σ' H' where
  inv := q.inv
  base := Same.trans r.base (Same.trans rebase_vis q.base)
  gk := fun a h => ⟨by rw [(q.gk a h).1, out_out (fun z => r.ns a z (List.mem_append.mpr (.inr h))), (r.gk a h).1], (q.gk a h).2⟩
  gv := q.gv
  nd := q.nd
  ns := q.ns
  l1 := q.l1
  l2 := q.l2
  at_ := q.at_
end
/-! ### for -/
def loop3 (g : TG3) (tb : S3) (N : N3) : List T → List Sl → Prop
  | [], σ => N.nx σ
  | x :: r, σ => g x σ fun σ' => tb { nx := loop3 g tb N r, ct := loop3 g tb N r, bk := N.nx, rt := N.rt, xn := N.xn } σ'
def for3 (s : A3) (g : TG3) (tb : S3) : S3 := fun N σ => s σ (fun ds => loop3 g tb N ds σ) (N.xn σ)
section
variable {K : PySem.W.Frag} {c : Cf} {W : WX}
theorem lift_for {vs : List Nat} {wi : TI} {s : A3} {g : TG} {g3 : TG3} {tb : TS} {b : S3} (hi : LiftI K c W wi s) (hg : LiftTg K c vs g g3) (hb : LiftS K c W tb b) : LiftS K c W (tFor wi g tb) (for3 s g3 b) := by
  intro N σ3 h Hb G A σ H D R Z
  refine hi _ _ _ h Hb G A σ H _ R (fun J ds H1 L1 w q => ?_) (fun cls dd x H' L r q => Z.xn _ _ _ _ _ _ _ (R.le L) r q)
  have R1 := R.le L1
  refine ⟨fun i m σ' H' => m = ds.length - i ∧ i ≤ ds.length ∧ ∃ A' σ3', R3 K c (out (addrs A) H1) G A' σ3' σ' H' ∧ loop3 g3 b N (ds.drop i) σ3', ⟨ds.length, rfl, Nat.zero_le _, A, σ3, R1.rebase, by simpa using q⟩, ?_⟩
  rintro i m σ' H' ⟨rfl, hi, A', σ3', R', q'⟩
  have vis : Same (hid (c.S G A) H1) (hid (c.S G A') H') := Same.trans rebase_vis R'.base
  by_cases hl : i = ds.length
  · subst hl
    left
    refine ⟨w.stop _ _ vis, Z.nx _ _ _ _ (R1.debase R') ?_⟩
    have e : ds.drop ds.length = [] := List.drop_length
    rw [e] at q'
    exact q'
  · right
    have hlt : i < ds.length := Nat.lt_of_le_of_ne hi hl
    have hd : ds[i]? = some ds[i] := List.getElem?_eq_getElem hlt
    rw [List.drop_eq_getElem_cons hlt] at q'
    refine ⟨w.go i _ _ _ hd vis, fun σ2 H2 => ∃ A2 σ32, R3 K c (out (addrs A) H1) G A2 σ32 σ2 H2 ∧ loop3 g3 b N (ds.drop (i + 1)) σ32, ?_, ?_⟩
    · rintro σ2 H2 ⟨A2, σ32, R2, q2⟩
      exact ⟨ds.length - (i + 1), by omega, rfl, hlt, A2, σ32, R2, q2⟩
    · intro x H2 y
      obtain ⟨hn, rx⟩ := w.yld i _ _ _ x H2 hd vis (fun a h => R'.there h) y
      have R2 : R3 K c (out (addrs A) H1) G A' σ3' σ' H2 := by
        rcases hn with rfl | ⟨p, o, hp, rfl⟩
        · exact R'
        · exact R'.le (R'.new hp)
      refine hg _ _ _ q' _ G A' σ' H2 x _ R2 rx (fun A4 σ4 σ4' H4 R4 _ _ q4 => ?_)
      refine hb _ _ q4 _ G A4 σ4' H4 _ R4 ⟨?_, ?_, ?_, ?_, ?_⟩
      · exact fun A5 σ5 σ5' H5 R5 q5 => ⟨A5, σ5, R5, q5⟩
      · exact fun v d H5 F rv q5 => Z.rt v d H5 (Fin3.debase R1 F) rv q5
      · exact fun A5 σ5 σ5' H5 R5 q5 => Z.nx _ _ _ _ (R1.debase R5) q5
      · exact fun A5 σ5 σ5' H5 R5 q5 => ⟨A5, σ5, R5, q5⟩
      · exact fun A5 σ5 σ5' H5 cls dd xn R5 rx q5 => Z.xn _ _ _ _ _ _ _ (R1.debase R5) rx q5
/-- a loop by its word: P holds between two turns -/
theorem loop3_inv {g : TG3} {tb : S3} {N : N3} (P : List T → List Sl → Prop) : ∀ (ds : List T) (σ : List Sl), P ds σ → (∀ σ, P [] σ → N.nx σ) →
    (∀ x r σ, P (x :: r) σ → g x σ fun σ' => ∀ nx : List Sl → Prop, (∀ σ2, P r σ2 → nx σ2) → tb { nx := nx, ct := nx, bk := N.nx, rt := N.rt, xn := N.xn } σ') →
    (∀ d σ (Q Q' : List Sl → Prop), (∀ σ, Q σ → Q' σ) → g d σ Q → g d σ Q') → loop3 g tb N ds σ
  | [], σ, h, h0, hs, hm => h0 σ h
  | x :: r, σ, h, h0, hs, hm => hm _ _ _ _ (fun σ' q => q (loop3 g tb N r) fun σ2 h2 => loop3_inv P r σ2 h2 h0 hs hm) (hs x r σ h)
end
/-! ### comprehensions -/
def wipe3 (σ : List Sl) : List Nat → List Sl
  | [] => σ
  | v :: vs => (wipe3 σ vs).set v .no
def comp3 (g : TG3) (tt : B3) (te : E3) (σ : List Sl) (X : X3) (Q : List T → Prop) : List T → List T → Prop
  | [], acc => Q acc
  | x :: r, acc => g x σ fun σ' => tt σ' (fun b => if b = true then te σ' (fun y => acc.length < sizeLine ∧ comp3 g tt te σ X Q r (acc ++ [y])) X else comp3 g tt te σ X Q r acc) X
def noOwn (σ : List Sl) (vs : List Nat) : Prop := ∀ i ∈ vs, ∀ t, σ[i]? ≠ some (.own t)
def lc3 (s : A3) (g : TG3) (tt : B3) (te : E3) (vs : List Nat) : E3 := fun σ Q X => noOwn σ vs ∧ s σ (fun ds => comp3 g tt te (wipe3 σ vs) X (fun ys => Q (.lst ys)) ds []) X
def yes3 : B3 := fun _ Q _ => Q true
section
variable {K : PySem.W.Frag} {c : Cf} {W : WX} {Hb H H1 H' : Hp} {G : List Addr} {A A' : List (Option Addr)} {σ3 σ3' : List Sl} {σ σ' : St}
theorem lift_yes : LiftT K c W tYes yes3 := by
  intro σ3 Q3 X h Hb G A σ H Q R k e
  exact k true true H (Le.refl R.inv) rfl h
theorem wipe3_own : ∀ {vs : List Nat} {σ : List Sl} {i : Nat} {t : T}, (wipe3 σ vs)[i]? = some (.own t) → σ[i]? = some (.own t)
  | [], _, _, _, h => h
  | v :: vs, σ, i, t, h => by
    rcases getElem?_set_cases (show ((wipe3 σ vs).set v .no)[i]? = some (.own t) from h) with ⟨_, e, _⟩ | ⟨_, e⟩
    · cases e
    · exact wipe3_own e
theorem set_eq_self {α : Type} {l : List α} {i : Nat} {x : α} (h : l[i]? = some x ∨ l.length ≤ i) : l.set i x = l := by
  apply List.ext_getElem?
  intro j
  by_cases e : i = j
  · subst e
    rcases h with h | h
    · rw [List.getElem?_set_self (List.getElem?_eq_some_iff.mp h).1, h]
    · rw [List.getElem?_eq_none (by simpa using h), List.getElem?_eq_none h]
  · rw [List.getElem?_set_ne e]
theorem R3.wiped (r : R3 K c Hb G A σ3 σ H) : ∀ {vs : List Nat}, noOwn σ3 vs → R3 K c Hb G A (wipe3 σ3 vs) (wipe σ vs) H
  | [], _ => r
  | v :: vs, h => by
    have ih := R3.wiped r (vs := vs) fun i hi => h i (List.mem_cons_of_mem _ hi)
    have z := ih.wipe1 v none
    have e : A.set v none = A := by
      apply set_eq_self
      by_cases hv : v < A.length
      · left
        have h1 : v < (wipe3 σ3 vs).length := by rw [← ih.l1]; exact hv
        have h2 : v < (wipe σ vs).length := by rw [ih.l2]; exact h1
        have q := ih.at_ v _ _ _ (List.getElem?_eq_getElem h1) (List.getElem?_eq_getElem hv) (List.getElem?_eq_getElem h2)
        rw [List.getElem?_eq_getElem hv]
        cases e : (wipe3 σ3 vs)[v] with
        | no => rw [e] at q; rw [q]
        | val t => rw [e] at q; rw [q.1]
        | own t =>
          have w1 : (wipe3 σ3 vs)[v]? = some (.own t) := by rw [List.getElem?_eq_getElem h1, e]
          exact absurd (wipe3_own w1) (h v (List.mem_cons_self ..) t)
      · exact .inr (Nat.le_of_not_lt hv)
    rw [e] at z
    exact z
theorem wipe_eq : ∀ {vs : List Nat} {σ σ' : St}, σ'.length = σ.length → (∀ j : Nat, j ∉ vs → σ'[j]? = σ[j]?) → wipe σ' vs = wipe σ vs := by
  intro vs σ σ' hl h
  apply List.ext_getElem?
  intro j
  by_cases hj : j ∈ vs
  · have z : ∀ {vs : List Nat} (σ : St), j ∈ vs → (wipe σ vs)[j]? = if j < σ.length then some none else none := by
      intro vs
      induction vs with
      | nil => intro σ h; cases h
      | cons v vs ih =>
        intro σ hm
        show ((wipe σ vs).set v none)[j]? = _
        by_cases e : v = j
        · subst e
          by_cases hv : v < σ.length
          · rw [List.getElem?_set_self (by rw [wipe_length]; exact hv), if_pos hv]
          · rw [List.getElem?_eq_none (by simp [wipe_length]; omega), if_neg hv]
        · rw [List.getElem?_set_ne e]
          rcases List.mem_cons.mp hm with q | q
          · exact absurd q.symm e
          · exact ih σ q
    rw [z σ' hj, z σ hj, hl]
  · rw [wipe_out hj, wipe_out hj, h j hj]
theorem wipe_wipe {vs : List Nat} {σ : St} : wipe (wipe σ vs) vs = wipe σ vs := wipe_eq (wipe_length _ _) fun j hj => wipe_out hj
/-- a list of our own at D is hidden too -/
theorem R3.under (r : R3 K c Hb G A σ3 σ H1) {D : Addr} {o : HO} (hD : H1 D = none) (hd : H D = some o) (vis : Same (hid (c.S G A) H1) (hid (D :: c.S G A) H)) (own : ∀ a ∈ G ++ addrs A, H a = H1 a) (inv : c.I H) (ho : c.gOk o) :
    R3 K c (out (addrs A) H) (D :: G) A σ3 σ H := by
  have nD : D ∉ c.S G A := r.free hD
  have sub : ∀ a, a ∈ c.S (D :: G) A ↔ a ∈ D :: c.S G A := fun a => by
    rw [mem_S, List.mem_cons, List.mem_cons, mem_S]
    exact ⟨fun h => by rcases h with h | (h | h) | h <;> simp [h], fun h => by rcases h with h | h | h | h <;> simp [h]⟩
  have vis2 : Same (hid (c.S G A) H1) (hid (c.S (D :: G) A) H) := Same.trans vis (hid_mono fun a h => (sub a).mp h)
  refine ⟨inv, ?_, ?_, ?_, r.nd, ?_, r.l1, r.l2, ?_⟩
  · intro a o e
    obtain ⟨e1, e2⟩ := hid_some e
    obtain ⟨e3, e4⟩ := out_some e1
    exact hid_mk e3 fun z => by
      rcases mem_S.mp z with z | z | z
      · exact e2 (List.mem_append.mpr (.inl z))
      · exact e2 (List.mem_append.mpr (.inr z))
      · exact e4 z
  · intro a h
    rcases List.mem_cons.mp h with rfl | h
    · exact ⟨by rw [out_out (fun z => nD (mem_S.mpr (.inr (.inr z))))], (by rw [hd]; intro z; cases z), fun z => nD (mem_S.mpr (.inl z))⟩
    · have e := own a (List.mem_append.mpr (.inl h))
      exact ⟨by rw [out_out (fun z => r.ns a z (List.mem_append.mpr (.inr h)))], by rw [e]; exact (r.gk a h).2.1, (r.gk a h).2.2⟩
  · intro a h u e
    rcases List.mem_cons.mp h with rfl | h
    · rw [hd] at e; cases e; exact ho
    · exact r.gv a h u (by rw [← own a (List.mem_append.mpr (.inl h))]; exact e)
  · intro a h z
    rcases List.mem_append.mp z with z | z
    · exact r.ns a h (List.mem_append.mpr (.inl z))
    · rcases List.mem_cons.mp z with rfl | z
      · exact nD (mem_S.mpr (.inr (.inr h)))
      · exact r.ns a h (List.mem_append.mpr (.inr z))
  · intro i s o x h1 h2 h3
    have z := r.at_ i s o x h1 h2 h3
    cases s with
    | no => exact z
    | val t => obtain ⟨e, v, e2, q⟩ := z; exact ⟨e, v, e2, q.mono vis2⟩
    | own t =>
      obtain ⟨a, e, e2, q⟩ := z
      refine ⟨a, e, e2, q.mono vis2 (own a (List.mem_append.mpr (.inr (mem_addrs.mpr ?_))))⟩
      subst e
      exact List.mem_of_getElem? h2
theorem hid_upd_in {S : List Addr} {H : Hp} {D : Addr} {o : HO} (h : D ∈ S) : hid S (upd H D o) = hid S H := by
  funext a
  by_cases e : a ∈ S
  · rw [hid_in e, hid_in e]
  · unfold hid
    rw [out_out e, out_out e, upd_ne (fun z => e (by rw [z]; exact h))]
theorem lift_lc {vs : List Nat} {wi : TI} {s : A3} {g : TG} {g3 : TG3} {tt : TT} {b : B3} {te : TE} {e3 : E3} (hi : LiftI K c W wi s) (hg : LiftTg K c vs g g3) (ht : LiftT K c W tt b) (he : Lift K c W te e3)
    (hW : ∀ cls dd σ σ' H, W cls dd σ H → W cls dd σ' H) : Lift K c W (tLc wi g tt te vs) (lc3 s g3 b e3 vs) := by
  intro σ3 Q3 X h Hb G A σ H Q R k e
  obtain ⟨no, h⟩ := h
  refine hi _ _ _ h Hb G A σ H _ R (fun J ds H1 L1 w q => ?_) e
  have R1 := R.le L1
  intro D hD
  have nD : D ∉ c.S G A := R1.free hD
  have RW := R1.wiped (vs := vs) no
  refine ⟨fun i m H' => m = ds.length - i ∧ i ≤ ds.length ∧ ∃ accV acc, H' D = some (.lst accV) ∧ RepL K (hid (D :: c.S G A) H') accV acc ∧ comp3 g3 b e3 (wipe3 σ3 vs) X (fun ys => Q3 (.lst ys)) (ds.drop i) acc ∧
    Same (hid (c.S G A) H1) (hid (D :: c.S G A) H') ∧ (∀ a ∈ G ++ addrs A, H' a = H1 a) ∧ c.I H', ⟨ds.length, rfl, Nat.zero_le _, [], [], upd_same, .nil, by simpa using q, ?_, ?_, ?_⟩, ?_⟩
  · rw [hid_upd_in (List.mem_cons_self ..)]
    intro a o z
    obtain ⟨z1, z2⟩ := hid_some z
    exact hid_mk z1 fun y => by
      rcases List.mem_cons.mp y with y | y
      · subst y; rw [hD] at z1; cases z1
      · exact z2 y
  · exact (R1.new (o := .lst []) hD).own
  · exact (R1.new (o := .lst []) hD).inv
  rintro i m H2 ⟨rfl, hi, accV, acc, hd2, racc, q2, vis, own, inv⟩
  have vis' : Same (hid (c.S G A) H1) (hid (c.S G A) H2) := Same.trans vis (hid_mono fun a h => List.mem_cons_of_mem _ h)
  by_cases hl : i = ds.length
  · subst hl
    left
    refine ⟨w.stop _ _ vis', ?_⟩
    have e' : ds.drop ds.length = [] := List.drop_length
    rw [e'] at q2
    exact k _ _ H2 (L1.trans ⟨vis', own, inv⟩) (.mkL (hid_mk hd2 nD) (racc.mono (hid_mono fun a h => List.mem_cons_of_mem _ h))) q2
  · right
    have hlt : i < ds.length := Nat.lt_of_le_of_ne hi hl
    have hdd : ds[i]? = some ds[i] := List.getElem?_eq_getElem hlt
    rw [List.drop_eq_getElem_cons hlt] at q2
    refine ⟨w.go i _ _ _ hdd vis', fun H3 => ∃ accV acc, H3 D = some (.lst accV) ∧ RepL K (hid (D :: c.S G A) H3) accV acc ∧ comp3 g3 b e3 (wipe3 σ3 vs) X (fun ys => Q3 (.lst ys)) (ds.drop (i + 1)) acc ∧
      Same (hid (c.S G A) H1) (hid (D :: c.S G A) H3) ∧ (∀ a ∈ G ++ addrs A, H3 a = H1 a) ∧ c.I H3, ?_, ?_⟩
    · rintro H3 ⟨accV, acc, z⟩
      exact ⟨ds.length - (i + 1), by omega, rfl, hlt, accV, acc, z⟩
    · intro x H3 y
      have RU := RW.under hD hd2 vis own inv (c.gL _)
      have sD : ∀ a, a ∈ c.S (D :: G) A ↔ a ∈ D :: c.S G A := fun a => by
        rw [mem_S, List.mem_cons, List.mem_cons, mem_S]
        exact ⟨fun h => by rcases h with h | (h | h) | h <;> simp [h], fun h => by rcases h with h | h | h | h <;> simp [h]⟩
      have sm1 : ∀ H, Same (hid (c.S (D :: G) A) H) (hid (D :: c.S G A) H) := fun H => hid_mono fun a h => (sD a).mpr h
      have sm2 : ∀ H, Same (hid (D :: c.S G A) H) (hid (c.S (D :: G) A) H) := fun H => hid_mono fun a h => (sD a).mp h
      obtain ⟨hn, rx⟩ := w.yld i _ (c.S (D :: G) A) _ x H3 hdd (Same.trans vis (sm2 _)) (fun a h => RU.there h) y
      have L3 : Le c (D :: G) A H2 H3 := by
        rcases hn with rfl | ⟨p, o, hp, rfl⟩
        · exact Le.refl inv
        · exact RU.new hp
      have R3' := RU.le L3
      have back : ∀ H', Le c (D :: G) A H2 H' → Same (hid (c.S G A) H1) (hid (D :: c.S G A) H') ∧ (∀ a ∈ G ++ addrs A, H' a = H1 a) ∧ c.I H' ∧ H' D = some (.lst accV) := fun H' L => by
        refine ⟨Same.trans vis (Same.trans (sm2 _) (Same.trans L.vis (sm1 _))), fun a h => ?_, L.inv, ?_⟩
        · rw [L.own a (by rcases List.mem_append.mp h with h | h <;> simp [h]), own a h]
        · rw [L.own D (by simp), hd2]
      have exn : ∀ (σ' : St) cls dd x H', Le c (D :: G) A H2 H' → XRep K (hid (c.S (D :: G) A) H') cls dd x → X x → W cls dd σ' H' := fun σ' cls dd x H' L r hx => by
        obtain ⟨b1, b2, b3, b4⟩ := back H' L
        refine hW cls dd σ σ' H' (e cls dd x H' (L1.trans ⟨Same.trans b1 (hid_mono fun a h => List.mem_cons_of_mem _ h), b2, b3⟩) ?_ hx)
        have sm : Same (hid (c.S (D :: G) A) H') (hid (c.S G A) H') := Same.trans (sm1 _) (hid_mono fun a h => List.mem_cons_of_mem _ h)
        obtain ⟨r1, r2⟩ := r
        refine ⟨r1, ?_⟩
        cases dd with
        | none => exact r2
        | some d =>
          obtain ⟨fs, f1, f2, f3⟩ := r2
          exact ⟨fs, sm _ _ f1, f2, f3.mono sm⟩
      refine hg _ _ _ q2 _ (D :: G) A _ H3 x _ R3' rx (fun A4 σ4 σ4' H4 R4 e4 st q4 => ?_)
      subst e4
      refine ⟨?_, ?_⟩
      · rw [wipe_eq st.1 (fun j hj => (st.2.1 j hj).1), wipe_wipe]
      have hA4 : A4 = A := by
        apply List.ext_getElem?
        intro j
        by_cases hj : j ∈ vs
        · have l4 : A4.length = A.length := by rw [R4.l1, RW.l1, ← RW.l2, ← R4.l2, st.1]
          by_cases hjl : j < A.length
          · have g4 : j < A4.length := by rw [l4]; exact hjl
            have hno : A[j]? = some none := by
              have h1 : j < (wipe3 σ3 vs).length := by rw [← RW.l1]; exact hjl
              have h2 : j < (wipe σ vs).length := by rw [RW.l2]; exact h1
              have z := RW.at_ j _ _ _ (List.getElem?_eq_getElem h1) (List.getElem?_eq_getElem hjl) (List.getElem?_eq_getElem h2)
              rw [List.getElem?_eq_getElem hjl]
              cases ee : (wipe3 σ3 vs)[j] with
              | no => rw [ee] at z; rw [z]
              | val t => rw [ee] at z; rw [z.1]
              | own t =>
                have w1 : (wipe3 σ3 vs)[j]? = some (.own t) := by rw [List.getElem?_eq_getElem h1, ee]
                exact absurd (wipe3_own w1) (no j hj t)
            rw [hno]
            cases ea : A4[j] with
            | none => rw [List.getElem?_eq_getElem g4, ea]
            | some p =>
              have m4 : p ∈ addrs A4 := mem_addrs.mpr (by rw [← ea]; exact List.getElem_mem g4)
              have m : p ∈ addrs A := st.2.2 p m4
              obtain ⟨i', hi'⟩ := List.getElem?_of_mem (mem_addrs.mp m)
              have hij : i' ≠ j := fun z => by subst z; rw [hno] at hi'; cases hi'
              by_cases hv : i' ∈ vs
              · have hjl' := (List.getElem?_eq_some_iff.mp hi').1
                have h1 : i' < (wipe3 σ3 vs).length := by rw [← RW.l1]; exact hjl'
                have h2 : i' < (wipe σ vs).length := by rw [RW.l2]; exact h1
                have z := RW.at_ i' _ _ _ (List.getElem?_eq_getElem h1) hi' (List.getElem?_eq_getElem h2)
                cases ee : (wipe3 σ3 vs)[i'] with
                | no => rw [ee] at z; cases z
                | val t => rw [ee] at z; cases z.1
                | own t =>
                  have w1 : (wipe3 σ3 vs)[i']? = some (.own t) := by rw [List.getElem?_eq_getElem h1, ee]
                  exact absurd (wipe3_own w1) (no i' hv t)
              · have : A4[i']? = some (some p) := by rw [(st.2.1 i' hv).2]; exact hi'
                have two : ∀ {B : List (Option Addr)} {i j : Nat}, (addrs B).Nodup → B[i]? = some (some p) → B[j]? = some (some p) → i = j := by
                  intro B
                  induction B with
                  | nil => intro i j _ h; simp at h
                  | cons b B ih =>
                    intro i j hN h1 h2
                    cases i with
                    | zero =>
                      cases j with
                      | zero => rfl
                      | succ j =>
                        simp at h1 h2
                        subst h1
                        exact absurd (mem_addrs.mpr (List.mem_of_getElem? h2)) (List.nodup_cons.mp (show (p :: addrs B).Nodup from hN)).1
                    | succ i =>
                      cases j with
                      | zero =>
                        simp at h1 h2
                        subst h2
                        exact absurd (mem_addrs.mpr (List.mem_of_getElem? h1)) (List.nodup_cons.mp (show (p :: addrs B).Nodup from hN)).1
                      | succ j =>
                        simp at h1 h2
                        have hN' : (addrs B).Nodup := by
                          cases b with
                          | none => exact hN
                          | some q => exact (List.nodup_cons.mp (show (q :: addrs B).Nodup from hN)).2
                        rw [ih hN' h1 h2]
                exact absurd (two R4.nd this (by rw [List.getElem?_eq_getElem g4, ea])) hij
          · rw [List.getElem?_eq_none (by omega), List.getElem?_eq_none (by omega)]
        · exact (st.2.1 j hj).2
      subst hA4
      refine ht _ _ _ q4 _ (D :: G) A4 σ4' H4 _ R4 (fun bv bb H5 L5 rb q5 => ?_) (fun cls dd x H' L => exn _ cls dd x H' (L3.trans L))
      subst rb
      cases bv with
      | false =>
        refine iteF ?_
        obtain ⟨b1, b2, b3, b4⟩ := back H5 (L3.trans L5)
        exact ⟨accV, acc, b4, racc.mono (Same.trans (sm2 _) (Same.trans (L3.trans L5).vis (sm1 _))), by simpa using q5, b1, b2, b3⟩
      | true =>
        refine iteT ?_
        refine he _ _ _ (show e3 σ4 _ X by simpa using q5) _ (D :: G) A4 σ4' H5 _ (R4.le L5) (fun y d H6 L6 ry q6 => ?_) (fun cls dd x H' L => exn _ cls dd x H' ((L3.trans L5).trans L))
        obtain ⟨b1, b2, b3, b4⟩ := back H6 ((L3.trans L5).trans L6)
        have racc6 := racc.mono (Same.trans (sm2 _) (Same.trans ((L3.trans L5).trans L6).vis (sm1 _)))
        refine ⟨accV, b4, by rw [racc.length]; exact q6.1, accV ++ [y], acc ++ [d], upd_same, ?_, q6.2, ?_, ?_, ?_⟩
        · rw [hid_upd_in (List.mem_cons_self ..)]
          exact racc6.append (.cons (ry.mono (sm1 _)) .nil)
        · rw [hid_upd_in (List.mem_cons_self ..)]
          exact b1
        · intro a ha
          have : a ≠ D := fun z => by
            subst z
            exact nD (mem_S.mpr (by rcases List.mem_append.mp ha with z | z; exact .inr (.inl z); exact .inr (.inr z)))
          rw [upd_ne this]
          exact b2 a ha
        · exact c.st H6 _ (fun a ha => by rw [upd_ne (fun z => nD (by rw [← z]; exact mem_S.mpr (.inl ha)))]) (fun a φ e => by rw [upd_ne (ne_of e b4 (by intro z; cases z))]; exact e) b3
end
end M3

/-! L3E: calls of defs by their promises, keywords, slices, further operations. -/
namespace M3
open PySem L2
/-! ### a def that may be called with positional arguments, the defaults dvs behind them -/
structure Cl (P : Program) (w : World) (K : PySem.W.Frag) (mg : Str → Option Value) (base : Heap) (CX : CXT) (x : Str) (k : Nat) (dvs : List V) (sp : Sp) : Prop where
  ex : ∃ (f : Addr) (fd : FuncData) (ps : List Str) (ds : List Value), FnOk P w K mg base CX k f fd ps sp ∧ mg x = some (.ref f) ∧ PySem.W.keepIn K (.ref f) = true ∧ Binds K fd ps ds ∧ Vals dvs ds
/-- .. with n positional arguments and the keywords ks -/
structure ClN (P : Program) (w : World) (K : PySem.W.Frag) (mg : Str → Option Value) (base : Heap) (CX : CXT) (x : Str) (k n : Nat) (ks : List Str) (gV : List V → List V → List V) (sp : Sp) : Prop where
  ex : ∃ (f : Addr) (fd : FuncData) (ps : List Str) (g : List Value → List Value → List Value), FnOk P w K mg base CX k f fd ps sp ∧ mg x = some (.ref f) ∧ PySem.W.keepIn K (.ref f) = true ∧ KBn K fd ps n ks g gV
section
variable {X : Cx} {CX : CXT} {k n : Nat} {sp : Sp} {dvs : List V} {E : XK} {x : Str} {p pos : Pos} {e : Expr} {es : List Expr} {kws : List Keyword} {ks : List Str} {t tk : TA} {gV : List V → List V → List V}
theorem pe_cl (C : Cl X.prog X.w X.K X.mg X.base CX x k dvs sp) (hr : Room k X.A) (hg : Gl X x) (hx : Passes CX X E)
    (ha : PA X (e :: es) t) (hdb : (x == ("__debug__" : Str)) = false := by decide) (he : starEach (e :: es) X.env = (false, eval e X.env) :: starEach es X.env := by rfl) (hpl : (backTo pos (starEach es X.env)).any (·.1) = false := by rfl) :
    PE X (.Call (.Name x p) (e :: es) [] pos) (tCall sp dvs E t) := by
  obtain ⟨f, fd, ps, ds, F, hm, hk, hb, hd⟩ := C.ex
  exact pe_call F hr hg hm hk hb hd hx ha hdb he hpl
theorem pe_cl0 (C : Cl X.prog X.w X.K X.mg X.base CX x k dvs sp) (hr : Room k X.A) (hg : Gl X x) (hx : Passes CX X E)
    (hdb : (x == ("__debug__" : Str)) = false := by decide) : PE X (.Call (.Name x p) [] [] pos) (tCall sp dvs E tNil) := by
  obtain ⟨f, fd, ps, ds, F, hm, hk, hb, hd⟩ := C.ex
  exact pe_call0 F hr hg hm hk hb hd hx hdb
theorem pe_clN (C : ClN X.prog X.w X.K X.mg X.base CX x k n ks gV sp) (hr : Room k X.A) (hg : Gl X x) (hx : Passes CX X E)
    (ha : PA X (e :: es) t) (hkw : PK X kws tk) (hall : (backToKw pos (keywordEach kws X.env)).all (·.1.isSome) = true := by rfl) (hks : (backToKw pos (keywordEach kws X.env)).filterMap (·.1) = ks := by rfl)
    (hdb : (x == ("__debug__" : Str)) = false := by decide) (he : starEach (e :: es) X.env = (false, eval e X.env) :: starEach es X.env := by rfl)
    (hpl : ((backTo pos (starEach (e :: es) X.env)).any (·.1) || (backToKw pos (keywordEach kws X.env)).any (·.1.isNone)) = false := by rfl) :
    PE X (.Call (.Name x p) (e :: es) kws pos) (tCallN n ks.length sp gV E t tk) := by
  obtain ⟨f, fd, ps, g, F, hm, hk, hb⟩ := C.ex
  exact pe_callN F hr hg hm hk hb hx ha hkw hall hks hdb he hpl
theorem pe_clN0 (C : ClN X.prog X.w X.K X.mg X.base CX x k 0 ks gV sp) (hr : Room k X.A) (hg : Gl X x) (hx : Passes CX X E)
    (hkw : PK X kws tk) (hall : (backToKw pos (keywordEach kws X.env)).all (·.1.isSome) = true := by rfl) (hks : (backToKw pos (keywordEach kws X.env)).filterMap (·.1) = ks := by rfl)
    (hdb : (x == ("__debug__" : Str)) = false := by decide)
    (hpl : ((backTo pos (starEach [] X.env)).any (·.1) || (backToKw pos (keywordEach kws X.env)).any (·.1.isNone)) = false := by rfl) :
    PE X (.Call (.Name x p) [] kws pos) (tCallN 0 ks.length sp gV E tNil tk) := by
  obtain ⟨f, fd, ps, g, F, hm, hk, hb⟩ := C.ex
  refine ⟨fun pins s σ H Q I h => ?_⟩
  refine wpAny_Call_Name_kw (ld_glob I hg hm ?_ hdb)
  refine PySem.W.callWith_KW0 (h₀ := X.base) I.ok.mod.kin hk hall ?_ hpl
  refine thn (hkw.run pos pins s σ H _ I h) fun ws s2 ⟨zs, H2, I2, rz, l1, l2, q2⟩ => ⟨I2.kIn, ?_⟩
  rw [hks]
  exact run_fnN (us := []) (vs := []) F hr hb hx I2 .nil rz rfl l2 q2
end
/-- f(e, .., k = v, ..) at trees -/
def fnN30 (n : Nat) (f : F3) (g : List T → List T → List T) (m j : Nat) (x y : A3) : E3 := fun σ Q X => x σ (fun ds => y σ (fun es => ds.length = m ∧ es.length = j ∧ (g ds es).length = n ∧ f (g ds es) Q (fun _ => False)) X) X
def fnN3 (n : Nat) (f : F3) (g : List T → List T → List T) (m j : Nat) (x y : A3) : E3 := fun σ Q X => x σ (fun ds => y σ (fun es => ds.length = m ∧ es.length = j ∧ (g ds es).length = n ∧ f (g ds es) Q X) X) X
section
variable {K : PySem.W.Frag} {c : Cf} {W : WX}
theorem lift_callN0 {n m j : Nat} {f : F3} {E : XK} {t tk : TA} {x y : A3} {gV : List V → List V → List V} {g : List T → List T → List T} (hg : ∀ H vs ds ws es, RepL K H vs ds → RepL K H ws es → ds.length = m → es.length = j → RepL K H (gV vs ws) (g ds es))
    (ha : LiftA K c W t x) (hb : LiftA K c W tk y) : Lift K c W (tCallN m j (sp3 K n f) gV E t tk) (fnN30 n f g m j x y) := by
  intro σ3 Q3 X h Hb G A σ H Q R k e
  refine ha _ _ _ h Hb G A σ H _ R (fun vs ds H1 L1 rx hx => ?_) e
  refine hb _ _ _ hx Hb G A σ H1 _ (R.le L1) (fun ws es H2 L2 ry hy => ?_) (fun cls dd x H' L => e cls dd x H' (L1.trans L))
  obtain ⟨h1, h2, h3, h4⟩ := hy
  refine ⟨by rw [rx.length]; exact h1, by rw [ry.length]; exact h2, ?_⟩
  exact sp3_call ((R.le L1).le L2) (hg _ _ _ _ _ (rx.mono L2.vis) ry h1 h2) h3 h4 (fun v d H' L r q => k v d H' ((L1.trans L2).trans L) r q) (fun cls dd x H' L r q => q.elim)
theorem lift_callN {n m j : Nat} {f : F3} {E : XK} {t tk : TA} {x y : A3} {gV : List V → List V → List V} {g : List T → List T → List T} (hE : ∀ cls dd σ H, W cls dd σ H → E cls dd H) (hg : ∀ H vs ds ws es, RepL K H vs ds → RepL K H ws es → ds.length = m → es.length = j → RepL K H (gV vs ws) (g ds es))
    (ha : LiftA K c W t x) (hb : LiftA K c W tk y) : Lift K c W (tCallN m j (sp3 K n f) gV E t tk) (fnN3 n f g m j x y) := by
  intro σ3 Q3 X h Hb G A σ H Q R k e
  refine ha _ _ _ h Hb G A σ H _ R (fun vs ds H1 L1 rx hx => ?_) e
  refine hb _ _ _ hx Hb G A σ H1 _ (R.le L1) (fun ws es H2 L2 ry hy => ?_) (fun cls dd x H' L => e cls dd x H' (L1.trans L))
  obtain ⟨h1, h2, h3, h4⟩ := hy
  refine ⟨by rw [rx.length]; exact h1, by rw [ry.length]; exact h2, ?_⟩
  exact sp3_call ((R.le L1).le L2) (hg _ _ _ _ _ (rx.mono L2.vis) ry h1 h2) h3 h4 (fun v d H' L r q => k v d H' ((L1.trans L2).trans L) r q) (fun cls dd x H' L r q => hE _ _ σ _ (e cls dd x H' ((L1.trans L2).trans L) r q))
/-! ### slices -/
theorem lift_po0 : LiftO K c W tNoPart (fun _ Q _ => Q none) := by
  intro σ3 Q3 X h Hb G A σ H Q R k e
  exact k none none H (Le.refl R.inv) rfl h
def part3 (a : E3) : G3 (Option Int) := fun σ Q X => a σ (fun x => ob (asI x) fun i => Q (some i)) X
theorem lift_po {ta : TE} {a : E3} (ha : Lift K c W ta a) : LiftO K c W (tPart ta) (part3 a) := by
  intro σ3 Q3 X h Hb G A σ H Q R k e
  refine ha _ _ _ h Hb G A σ H _ R (fun vx x H1 L1 rx hx => ?_) e
  obtain ⟨i, ei, q⟩ := ob_iff.mp hx
  cases asI_is ei
  exact ⟨i, rx.intI, k _ _ H1 L1 rfl q⟩
def cut {α : Type} (xs : List α) (lo hi : Option Int) : List α := (xs.drop (HT.sIx xs.length 0 lo)).take (HT.sIx xs.length xs.length hi - HT.sIx xs.length 0 lo)
theorem RepL.cut {H : Hp} {vs : List V} {ts : List T} (r : RepL K H vs ts) (lo hi : Option Int) : RepL K H (cutV vs lo hi) (M3.cut ts lo hi) := by
  unfold cutV M3.cut
  rw [r.length]
  exact (r.drop _).take _
def sl3 (q : T → Option Int → Option Int → (T → Prop) → Prop) (a : E3) (l h : G3 (Option Int)) : E3 := fun σ Q X => a σ (fun x => l σ (fun lo => h σ (fun hi => q x lo hi Q) X) X) X
def RLs (K : PySem.W.Frag) (r : V → Option Int → Option Int → Hp → VK → Prop) (q : T → Option Int → Option Int → (T → Prop) → Prop) : Prop :=
  ∀ (c : Cf) x lo hi Q3, q x lo hi Q3 → ∀ Hb G A σ3 σ H vx Q, R3 K c Hb G A σ3 σ H → Rep K (hid (c.S G A) H) vx x →
    (∀ v d H', Le c G A H H' → Rep K (hid (c.S G A) H') v d → Q3 d → Q v H') → r vx lo hi H Q
theorem lift_sl {r : V → Option Int → Option Int → Hp → VK → Prop} {q : T → Option Int → Option Int → (T → Prop) → Prop} {ta : TE} {a : E3} {tl th : TO} {l h : G3 (Option Int)} (hr : RLs K r q) (ha : Lift K c W ta a) (hl : LiftO K c W tl l) (hh : LiftO K c W th h) :
    Lift K c W (tSl r ta tl th) (sl3 q a l h) := by
  intro σ3 Q3 X hq Hb G A σ H Q R k e
  refine ha _ _ _ hq Hb G A σ H _ R (fun vx x H1 L1 rx hx => ?_) e
  refine hl _ _ _ hx Hb G A σ H1 _ (R.le L1) (fun lo lo' H2 L2 e2 hy => ?_) (fun cls dd x H' L => e cls dd x H' (L1.trans L))
  subst e2
  refine hh _ _ _ hy Hb G A σ H2 _ ((R.le L1).le L2) (fun hi hi' H3 L3 e3 hz => ?_) (fun cls dd x H' L => e cls dd x H' ((L1.trans L2).trans L))
  subst e3
  exact hr c _ _ _ _ hz Hb G A σ3 σ H3 vx Q (((R.le L1).le L2).le L3) (rx.mono (Same.trans L2.vis L3.vis)) (fun v d H' L => k v d H' (((L1.trans L2).trans L3).trans L))
def cutL3 : T → Option Int → Option Int → (T → Prop) → Prop := fun x lo hi Q => ob (asL x) fun xs => Q (.lst (cut xs lo hi))
def cutT3 : T → Option Int → Option Int → (T → Prop) → Prop := fun x lo hi Q => ob (asT x) fun xs => Q (.tup (cut xs lo hi))
def cutS3 : T → Option Int → Option Int → (T → Prop) → Prop := fun x lo hi Q => ob (asS x) fun z => z.length ≤ sizeLine ∧ Q (.str (cutS z lo hi))
theorem rl_slL : RLs K (rSlL K) cutL3 := by
  intro c x lo hi Q3 hh Hb G A σ3 σ H vx Q R rx k
  obtain ⟨xs, ex, q⟩ := ob_iff.mp hh
  cases asL_is ex
  obtain ⟨a, vs, rfl, ha, rl⟩ := rx.lstI
  refine ⟨a, vs, rfl, SqL.of (hid_same _ _ ha), fun p hp => ?_⟩
  have L := R.new (o := .lst (cutV vs lo hi)) hp
  exact k _ _ _ L (.mkL (R.newAt hp) ((rl.mono L.vis).cut lo hi)) q
theorem cut_whole {α : Type} {xs : List α} {lo hi : Option Int} (h : HT.sIx xs.length 0 lo = 0 ∧ HT.sIx xs.length xs.length hi = xs.length) : cut xs lo hi = xs := by
  unfold cut
  rw [h.1, h.2, List.drop_zero, Nat.sub_zero, List.take_length]
theorem rl_slT : RLs K (rSlA K) cutT3 := by
  intro c x lo hi Q3 hh Hb G A σ3 σ H vx Q R rx k
  obtain ⟨xs, ex, q⟩ := ob_iff.mp hh
  cases asT_is ex
  obtain ⟨a, vs, rfl, ha, rl⟩ := rx.tupI
  refine ⟨a, vs, rfl, Same.sqT hid_same ha, fun hw => ?_, fun _ p hp => ?_⟩
  · rw [rl.length] at hw
    refine k _ _ _ (Le.refl R.inv) rx ?_
    rw [cut_whole hw] at q
    exact q
  · have L := R.new (o := .tup (cutV vs lo hi)) hp
    exact k _ _ _ L (.mkT (SqT.of (R.newAt hp)) ((rl.mono L.vis).cut lo hi)) q
theorem rl_slS : RLs K rSlS cutS3 := by
  intro c x lo hi Q3 hh Hb G A σ3 σ H vx Q R rx k
  obtain ⟨z, ez, hz, q⟩ := ob_iff.mp hh
  cases asS_is ez
  exact ⟨z, rx.strI, hz, k _ _ H (Le.refl R.inv) (.str _) q⟩
/-! ### + of lists, tuples, texts; list * int -/
def catL3 : T → T → (T → Prop) → Prop := fun x y Q => ob (asL x) fun xs => ob (asL y) fun ys => xs.length + ys.length ≤ sizeLine ∧ Q (.lst (xs ++ ys))
def catT3 : T → T → (T → Prop) → Prop := fun x y Q => ob (asT x) fun xs => ob (asT y) fun ys => xs.length + ys.length ≤ sizeLine ∧ Q (.tup (xs ++ ys))
def catS3 : T → T → (T → Prop) → Prop := fun x y Q => ob (asS x) fun a => ob (asS y) fun b => a.length + b.length ≤ sizeLine ∧ Q (.str (a ++ b))
def repL3 : T → T → (T → Prop) → Prop := fun x y Q => ob (asL x) fun xs => ob (asI y) fun k => -(2 ^ 63) ≤ k ∧ k < 2 ^ 63 ∧ xs.length * k.toNat ≤ sizeLine ∧ Q (.lst (List.replicate k.toNat xs).flatten)
theorem rl_catL : RL2 K rCat catL3 := by
  intro c x y Q3 hh Hb G A σ3 σ H vx vy Q R rx ry k
  obtain ⟨xs, ex, hh1⟩ := ob_iff.mp hh
  obtain ⟨ys, ey, hl, q⟩ := ob_iff.mp hh1
  cases asL_is ex
  cases asL_is ey
  obtain ⟨a, vs, rfl, ha, rl⟩ := rx.lstI
  obtain ⟨b, ws, rfl, hb, rm⟩ := ry.lstI
  refine ⟨a, b, vs, ws, rfl, rfl, hid_same _ _ ha, hid_same _ _ hb, by rw [rl.length, rm.length]; exact hl, fun p hp => ?_⟩
  have L := R.new (o := .lst (vs ++ ws)) hp
  exact k _ _ _ L (.mkL (R.newAt hp) ((rl.mono L.vis).append (rm.mono L.vis))) q
theorem rl_catT : RL2 K (rCatA K) catT3 := by
  intro c x y Q3 hh Hb G A σ3 σ H vx vy Q R rx ry k
  obtain ⟨xs, ex, hh1⟩ := ob_iff.mp hh
  obtain ⟨ys, ey, hl, q⟩ := ob_iff.mp hh1
  cases asT_is ex
  cases asT_is ey
  obtain ⟨a, vs, rfl, ha, rl⟩ := rx.tupI
  obtain ⟨b, ws, rfl, hb, rm⟩ := ry.tupI
  refine ⟨a, b, vs, ws, rfl, rfl, Same.sqT hid_same ha, Same.sqT hid_same hb, by rw [rl.length, rm.length]; exact hl, fun h => ?_, fun _ h => ?_, fun _ _ p hp => ?_⟩
  · subst h
    cases rl
    exact k _ _ _ (Le.refl R.inv) ry q
  · subst h
    cases rm
    rw [List.append_nil] at q
    exact k _ _ _ (Le.refl R.inv) rx q
  · have L := R.new (o := .tup (vs ++ ws)) hp
    exact k _ _ _ L (.mkT (SqT.of (R.newAt hp)) ((rl.mono L.vis).append (rm.mono L.vis))) q
theorem rl_catS : RL2 K (fun x y H Q => ∃ i j, x = .str i ∧ y = .str j ∧ i.length + j.length ≤ sizeLine ∧ Q (.str (i ++ j)) H) catS3 := by
  intro c x y Q3 hh Hb G A σ3 σ H vx vy Q R rx ry k
  obtain ⟨a, ea, hh1⟩ := ob_iff.mp hh
  obtain ⟨b, eb, hl, q⟩ := ob_iff.mp hh1
  cases asS_is ea
  cases asS_is eb
  exact ⟨a, b, rx.strI, ry.strI, hl, k _ _ H (Le.refl R.inv) (.str _) q⟩
theorem RepL.times {H : Hp} {vs : List V} {ts : List T} (r : RepL K H vs ts) : ∀ n : Nat, RepL K H (List.replicate n vs).flatten (List.replicate n ts).flatten
  | 0 => .nil
  | n + 1 => by
    rw [List.replicate_succ, List.replicate_succ, List.flatten_cons, List.flatten_cons]
    exact r.append (RepL.times r n)
theorem rl_repL : RL2 K rRep repL3 := by
  intro c x y Q3 hh Hb G A σ3 σ H vx vy Q R rx ry k
  obtain ⟨xs, ex, hh1⟩ := ob_iff.mp hh
  obtain ⟨n, en, h1, h2, hl, q⟩ := ob_iff.mp hh1
  cases asL_is ex
  cases asI_is en
  obtain ⟨a, vs, rfl, ha, rl⟩ := rx.lstI
  refine ⟨a, n, vs, rfl, ry.intI, hid_same _ _ ha, h1, h2, by rw [rl.length]; exact hl, fun p hp => ?_⟩
  have L := R.new (o := .lst (List.replicate n.toNat vs).flatten) hp
  exact k _ _ _ L (.mkL (R.newAt hp) ((rl.mono L.vis).times _)) q
/-! ### tuple(..), list(..), int(..) -/
def tuple3 : List T → (T → Prop) → Prop := fun xs Q => ob (one xs) fun x => ob (items x) fun ys => Q (.tup ys)
def list3 : List T → (T → Prop) → Prop := fun xs Q => ob (one xs) fun x => ob (items x) fun ys => Q (.lst ys)
theorem items_cases {x : T} {ys : List T} (h : items x = some ys) : x = .lst ys ∨ x = .tup ys := by
  cases x <;> simp [items] at h <;> subst h <;> simp
theorem rl_tuple : RLn K (fun xs H Q => ∃ p ys, xs = [.ref p] ∧ ((SqL K H p ys ∧ ∀ l, H l = none → Q (.ref l) (upd H l (.tup ys))) ∨ (SqT K H p ys ∧ Q (.ref p) H))) tuple3 := by
  intro c xs Q3 hh Hb G A σ3 σ H vs Q R rx k
  obtain ⟨x, ex, hh1⟩ := ob_iff.mp hh
  obtain ⟨ys, hi, q⟩ := ob_iff.mp hh1
  cases one_is ex
  obtain ⟨v, rfl, r⟩ := repL_one rx
  rcases items_cases hi with rfl | rfl
  · obtain ⟨a, vs, rfl, ha, rl⟩ := r.lstI
    refine ⟨a, vs, rfl, .inl ⟨SqL.of (hid_same _ _ ha), fun p hp => ?_⟩⟩
    have L := R.new (o := .tup vs) hp
    exact k _ _ _ L (.mkT (SqT.of (R.newAt hp)) (rl.mono L.vis)) q
  · obtain ⟨a, vs, rfl, ha, rl⟩ := r.tupI
    exact ⟨a, vs, rfl, .inr ⟨Same.sqT hid_same ha, k _ _ _ (Le.refl R.inv) r q⟩⟩
theorem rl_list : RLn K (fun xs H Q => ∃ p ys, xs = [.ref p] ∧ (SqL K H p ys ∨ SqT K H p ys) ∧ ∀ l, H l = none → Q (.ref l) (upd H l (.lst ys))) list3 := by
  intro c xs Q3 hh Hb G A σ3 σ H vs Q R rx k
  obtain ⟨x, ex, hh1⟩ := ob_iff.mp hh
  obtain ⟨ys, hi, q⟩ := ob_iff.mp hh1
  cases one_is ex
  obtain ⟨v, rfl, r⟩ := repL_one rx
  rcases items_cases hi with rfl | rfl
  · obtain ⟨a, vs, rfl, ha, rl⟩ := r.lstI
    refine ⟨a, vs, rfl, .inl (SqL.of (hid_same _ _ ha)), fun p hp => ?_⟩
    have L := R.new (o := .lst vs) hp
    exact k _ _ _ L (.mkL (R.newAt hp) (rl.mono L.vis)) q
  · obtain ⟨a, vs, rfl, ha, rl⟩ := r.tupI
    refine ⟨a, vs, rfl, .inr (Same.sqT hid_same ha), fun p hp => ?_⟩
    have L := R.new (o := .lst vs) hp
    exact k _ _ _ L (.mkL (R.newAt hp) (rl.mono L.vis)) q
end
end M3

/-! L3P: the law's pot: hidden for good; a draw is any number below its bound. -/
namespace M3
open PySem L2
/-- the pot at p, its cells at cc -/
def PotAt (p cc : Addr) (H : Hp) : Prop :=
  ∃ (cs : List Int) (i n s : Int), H p = some (.lst [.ref cc, .int i, .int n, .int s]) ∧ H cc = some (.lst (cs.map V.int)) ∧ 0 ≤ i ∧ i < cs.length ∧ cs.length ≤ 1000 ∧ (∀ z ∈ cs, 0 ≤ z) ∧ 0 ≤ s ∧ s < 2147483647
theorem PotAt.ne {p cc : Addr} {H : Hp} (h : PotAt p cc H) : p ≠ cc := by
  obtain ⟨cs, i, n, s, h1, h2, _⟩ := h
  refine ne_of h1 h2 fun z => ?_
  have z : [V.ref cc, V.int i, V.int n, V.int s] = cs.map V.int := HO.lst.inj z
  cases cs with
  | nil => cases z
  | cons a cs => rw [List.map_cons] at z; injection z with z _; cases z
theorem PotAt.stay {p cc : Addr} {H H' : Hp} (h : PotAt p cc H) (e1 : H' p = H p) (e2 : H' cc = H cc) : PotAt p cc H' := by
  obtain ⟨cs, i, n, s, h1, h2, r⟩ := h
  exact ⟨cs, i, n, s, by rw [e1]; exact h1, by rw [e2]; exact h2, r⟩
theorem tabs_stay {T : List (Addr × Str)} {H H' : Hp} (h : LamX.Tabs T H) (e : ∀ a ∈ T.map (·.1), H' a = H a) (x : SameX H H') : LamX.Tabs T H' := fun q hq => by
  obtain ⟨ps, h1, h2, h3⟩ := h q hq
  refine ⟨ps, by rw [e q.1 (List.mem_map.mpr ⟨q, hq, rfl⟩)]; exact h1, h2, fun pos cv z => ?_⟩
  obtain ⟨c, e1, e2⟩ := h3 pos cv z
  exact ⟨c, e1, x _ _ e2⟩
/-- the pot, and the tables of code objects T -/
def potT (p cc : Addr) (T : List (Addr × Str)) : Cf where
  S0 := p :: cc :: T.map (·.1)
  I := fun H => PotAt p cc H ∧ LamX.Tabs T H
  st := fun H H' e x h => ⟨h.1.stay (e p (by simp)) (e cc (by simp)), tabs_stay h.2 (fun a ha => e a (by simp at ha ⊢; exact .inr (.inr ha))) x⟩
  on := fun H h a ha => by
    obtain ⟨⟨cs, i, n, s, h1, h2, r⟩, ht⟩ := h
    rcases List.mem_cons.mp ha with rfl | ha
    · rw [h1]; intro z; cases z
    · rcases List.mem_cons.mp ha with rfl | ha
      · rw [h2]; intro z; cases z
      · obtain ⟨q, hq, rfl⟩ := List.mem_map.mp ha
        obtain ⟨ps, z, _⟩ := ht q hq
        rw [z]; intro y; cases y
  gOk := fun o => T = [] ∨ vis o = true
  gL := fun _ => .inr rfl
abbrev potCf (p cc : Addr) : Cf := potT p cc []
theorem tabs_nil {H : Hp} : LamX.Tabs [] H := fun q hq => by cases hq
/-- a def that draws from the pot, its first argument -/
def spP (K : PySem.W.Frag) (n : Nat) (f : F3) : Sp := fun vs H Q E => ∃ p cc G ds, PotAt p cc H ∧ (∀ a ∈ G, H a ≠ none ∧ a ∉ (potCf p cc).S0) ∧ (T.ref p :: ds).length = n ∧ RepL K (hid ((potCf p cc).S0 ++ G) H) vs (T.ref p :: ds) ∧ ∃ Q3 X, f (T.ref p :: ds) Q3 X ∧
  (∀ v d H', PotAt p cc H' → Same (hid ((potCf p cc).S0 ++ G) H) (hid ((potCf p cc).S0 ++ G) H') → (∀ a ∈ G, H' a = H a) → Rep K (hid ((potCf p cc).S0 ++ G) H') v d → Q3 d → Q v H') ∧
  (∀ cls dd x H', PotAt p cc H' → Same (hid ((potCf p cc).S0 ++ G) H) (hid ((potCf p cc).S0 ++ G) H') → (∀ a ∈ G, H' a = H a) → XRep K (hid ((potCf p cc).S0 ++ G) H') cls dd x → X x → E cls dd H')
theorem spP_len {K : PySem.W.Frag} {n : Nat} {f : F3} {ps : List Str} (h : ps.length = n) : ∀ vs H Q E, spP K n f vs H Q E → vs.length = ps.length := by
  intro vs H Q E h'
  obtain ⟨p, cc, G, ds, _, _, hl, r, _⟩ := h'
  rw [r.length, hl, h]
theorem bodyP {K : PySem.W.Frag} {n : Nat} {f : F3} {N : List Str} {t : TS} {x : Addr → S3} {W : WX} {vs : List V} {H : Hp} {Q : VK} {E : XK} (h : spP K n f vs H Q E) (hW : ∀ cls dd σ H', E cls dd H' → W cls dd σ H')
    (lt : ∀ p cc, LiftS K (potCf p cc) W t (x p)) (hb : ∀ p ds Q3 X, (T.ref p :: ds).length = n → f (T.ref p :: ds) Q3 X → x p { nx := fun _ => Q3 .non, rt := Q3, xn := fun _ => X } (start3 N.length (T.ref p :: ds))) : t { nx := fun _ H' => Q .non H', rt := Q } (start N vs) H := by
  obtain ⟨p, cc, G, ds, hp, hG, hl, r, Q3, X, hf, hq, hx⟩ := h
  refine lt p cc _ _ (hb p ds Q3 X hl hf) H G _ _ H _ (r3_start (c := potCf p cc) (N := N) ⟨hp, tabs_nil⟩ hG (fun _ => .inl rfl) r) ⟨?_, ?_, fun _ _ _ _ _ z => z.elim, fun _ _ _ _ _ z => z.elim, ?_⟩
  · intro A σ3 σ H' R q
    exact hq _ _ _ R.inv.1 R.fin.base (fun a h => R.fin.gk a h) .non q
  · intro v d H' F rv q
    exact hq _ _ _ F.inv.1 F.base (fun a h => F.gk a h) rv q
  · intro A σ3 σ H' cls dd xn R rx q
    refine hW _ _ _ _ (hx cls dd xn H' R.inv.1 R.fin.base (fun a h => R.fin.gk a h) ?_ q)
    obtain ⟨e, rx⟩ := rx
    refine ⟨e, ?_⟩
    cases dd with
    | none => exact rx
    | some d =>
      obtain ⟨fs, h1, h2, h3⟩ := rx
      exact ⟨fs, hid_fin _ _ h1, h2, h3.mono hid_fin⟩
/-- f(pot, e, ..) -/
def fnP30 (p : Addr) (n : Nat) (f : F3) (x : A3) (dvs : List T) : E3 := fun σ Q X => x σ (fun ds => ds.head? = some (T.ref p) ∧ (ds ++ dvs).length = n ∧ f (ds ++ dvs) Q (fun _ => False)) X
def fnP3 (p : Addr) (n : Nat) (f : F3) (x : A3) (dvs : List T) : E3 := fun σ Q X => x σ (fun ds => ds.head? = some (T.ref p) ∧ (ds ++ dvs).length = n ∧ f (ds ++ dvs) Q X) X
theorem spP_call {K : PySem.W.Frag} {p cc : Addr} {Ts : List (Addr × Str)} {n : Nat} {f : F3} {Hb H1 : Hp} {G : List Addr} {A : List (Option Addr)} {σ3 : List Sl} {σ : St} {vs : List V} {ds : List T} {Q : VK} {E : XK} {Q3 : T → Prop} {X : X3} (R1 : R3 K (potT p cc Ts) Hb G A σ3 σ H1)
    (rx : RepL K (hid ((potT p cc Ts).S G A) H1) vs (T.ref p :: ds)) (hl : (T.ref p :: ds).length = n) (hf : f (T.ref p :: ds) Q3 X) (k : ∀ v d H', Le (potT p cc Ts) G A H1 H' → Rep K (hid ((potT p cc Ts).S G A) H') v d → Q3 d → Q v H')
    (e : ∀ cls dd x H', Le (potT p cc Ts) G A H1 H' → XRep K (hid ((potT p cc Ts).S G A) H') cls dd x → X x → E cls dd H') : spP K n f vs H1 Q E := by
  -- a table may stand at the pot's own place in the list of names: take it out
  have eS : ∀ a, a ∈ (potCf p cc).S0 ++ (((potT p cc Ts).S G A).filter fun a => decide (a ≠ p ∧ a ≠ cc)) ↔ a ∈ (potT p cc Ts).S G A := fun a => by
    have h0 : p ∈ (potT p cc Ts).S G A := mem_S.mpr (.inl (by simp [potT]))
    have h1 : cc ∈ (potT p cc Ts).S G A := mem_S.mpr (.inl (by simp [potT]))
    constructor
    · intro h
      rcases List.mem_append.mp h with h | h
      · simp [potCf, potT] at h
        rcases h with rfl | rfl
        · exact h0
        · exact h1
      · exact (List.mem_filter.mp h).1
    · intro h
      by_cases z : a ≠ p ∧ a ≠ cc
      · exact List.mem_append.mpr (.inr (List.mem_filter.mpr ⟨h, by simpa using z⟩))
      · refine List.mem_append.mpr (.inl ?_)
        simp only [potCf, potT, List.map_nil, List.mem_cons, List.not_mem_nil, or_false]
        by_cases q : a = p
        · exact .inl q
        · by_cases q' : a = cc
          · exact .inr q'
          · exact absurd ⟨q, q'⟩ z
  have eH : ∀ H, hid ((potCf p cc).S0 ++ (((potT p cc Ts).S G A).filter fun a => decide (a ≠ p ∧ a ≠ cc))) H = hid ((potT p cc Ts).S G A) H := fun H => by
    funext a
    by_cases h : a ∈ (potT p cc Ts).S G A
    · rw [hid_in h, hid_in ((eS a).mpr h)]
    · have h' := fun z => h ((eS a).mp z)
      unfold hid
      rw [out_out h, out_out h']
  have hG : ∀ a ∈ ((potT p cc Ts).S G A).filter (fun a => decide (a ≠ p ∧ a ≠ cc)), H1 a ≠ none ∧ a ∉ (potCf p cc).S0 := fun a ha => by
    obtain ⟨h1, h2⟩ := List.mem_filter.mp ha
    have h2 : a ≠ p ∧ a ≠ cc := by simpa using h2
    exact ⟨R1.there h1, by simp [potCf, potT, h2.1, h2.2]⟩
  have le : ∀ H', PotAt p cc H' → Same (hid ((potT p cc Ts).S G A) H1) (hid ((potT p cc Ts).S G A) H') → (∀ a ∈ ((potT p cc Ts).S G A).filter (fun a => decide (a ≠ p ∧ a ≠ cc)), H' a = H1 a) → Le (potT p cc Ts) G A H1 H' := fun H' hp s1 s2 => by
    have s3 : ∀ a ∈ (potT p cc Ts).S G A, a ≠ p → a ≠ cc → H' a = H1 a := fun a h1 h2 h3 => s2 a (List.mem_filter.mpr ⟨h1, by simp [h2, h3]⟩)
    obtain ⟨hp0, ht⟩ := R1.inv
    have npc : ∀ a o, H1 a = some o → (∀ vs, o ≠ .lst vs) → a ≠ p ∧ a ≠ cc := fun a o e hne => by
      obtain ⟨cs, i, n, s, h1, h2, _⟩ := hp0
      exact ⟨ne_of e h1 (hne _), ne_of e h2 (hne _)⟩
    refine ⟨s1, fun a ha => ?_, hp, ?_⟩
    · have hm : a ∈ (potT p cc Ts).S G A := mem_S.mpr (by rcases List.mem_append.mp ha with z | z; exact .inr (.inl z); exact .inr (.inr z))
      have hn : a ∉ (potT p cc Ts).S0 := by
        rcases List.mem_append.mp ha with z | z
        · exact (R1.gk a z).2.2
        · exact fun q => R1.ns a z (List.mem_append.mpr (.inl q))
      exact s3 a hm (fun z => hn (by simp [potT, z])) (fun z => hn (by simp [potT, z]))
    · refine tabs_stay ht (fun a ha => ?_) (fun a φ e => ?_)
      · obtain ⟨q, hq, rfl⟩ := List.mem_map.mp ha
        obtain ⟨ps, z, _⟩ := ht q hq
        have := npc _ _ z (fun vs y => by cases y)
        exact s3 _ (mem_S.mpr (.inl (by simp [potT]; exact .inr (.inr ⟨_, hq⟩)))) this.1 this.2
      · by_cases h : a ∈ (potT p cc Ts).S G A
        · have := npc _ _ e (fun vs y => by cases y)
          rw [s3 a h this.1 this.2]; exact e
        · exact (hid_some (s1 _ _ (hid_mk e h))).1
  refine ⟨p, cc, _, ds, R1.inv.1, hG, hl, by rw [eH]; exact rx, Q3, X, hf, ?_, ?_⟩
  · rw [eH]
    intro v d H' hp s1 s2 rv q
    rw [eH] at s1 rv
    exact k v d H' (le H' hp s1 s2) rv q
  · rw [eH]
    intro cls dd xn H' hp s1 s2 rv q
    rw [eH] at s1 rv
    exact e cls dd xn H' (le H' hp s1 s2) rv q
theorem lift_callP0 {K : PySem.W.Frag} {p cc : Addr} {Ts : List (Addr × Str)} {n : Nat} {f : F3} {W : WX} {E : XK} {t : TA} {x : A3} {dvs : List V} {dts : List T} (ha : LiftA K (potT p cc Ts) W t x) (hd : ∀ H, RepL K H dvs dts) :
    Lift K (potT p cc Ts) W (tCall (spP K n f) dvs E t) (fnP30 p n f x dts) := by
  intro σ3 Q3 X h Hb G A σ H Q R k e
  refine ha _ _ _ h Hb G A σ H _ R (fun vs ds H1 L1 rx hx => ?_) e
  obtain ⟨hd0, hl, hf⟩ := hx
  obtain ⟨r, rfl⟩ : ∃ r, ds = T.ref p :: r := by
    cases ds with
    | nil => cases hd0
    | cons a r => cases hd0; exact ⟨r, rfl⟩
  exact spP_call (R.le L1) (rx.append (hd _)) hl hf (fun v d H' L r q => k v d H' (L1.trans L) r q) (fun cls dd x H' L r q => q.elim)
theorem lift_callP {K : PySem.W.Frag} {p cc : Addr} {Ts : List (Addr × Str)} {n : Nat} {f : F3} {W : WX} {E : XK} {t : TA} {x : A3} {dvs : List V} {dts : List T} (hE : ∀ cls dd σ H, W cls dd σ H → E cls dd H) (ha : LiftA K (potT p cc Ts) W t x) (hd : ∀ H, RepL K H dvs dts) :
    Lift K (potT p cc Ts) W (tCall (spP K n f) dvs E t) (fnP3 p n f x dts) := by
  intro σ3 Q3 X h Hb G A σ H Q R k e
  refine ha _ _ _ h Hb G A σ H _ R (fun vs ds H1 L1 rx hx => ?_) e
  obtain ⟨hd0, hl, hf⟩ := hx
  obtain ⟨r, rfl⟩ : ∃ r, ds = T.ref p :: r := by
    cases ds with
    | nil => cases hd0
    | cons a r => cases hd0; exact ⟨r, rfl⟩
  exact spP_call (R.le L1) (rx.append (hd _)) hl hf (fun v d H' L r q => k v d H' (L1.trans L) r q) (fun cls dd x H' L r q => hE _ _ σ _ (e cls dd x H' (L1.trans L) r q))
/-- the draw -/
def take3 : F3 := fun ds Q _ => ob (two ds) fun p => ob (asI p.2) fun m => 0 < m ∧ m < 2 ^ 200 ∧ ∀ r, 0 ≤ r → r < m → Q (.int r)
/-- the draw, by values: nothing but the pot changes -/
def spTake : Sp := fun vs H Q _ => ∃ p cc m, vs = [.ref p, .int m] ∧ PotAt p cc H ∧ 0 < m ∧ m < 2 ^ 200 ∧ ∀ r H', 0 ≤ r → r < m → PotAt p cc H' → (∀ a, a ≠ p → a ≠ cc → H' a = H a) → Q (.int r) H'
theorem take_imp {K : PySem.W.Frag} : ∀ vs H Q E, spP K 2 take3 vs H Q E → spTake vs H Q E := by
  intro vs H Q E h
  obtain ⟨p, cc, G, ds, hp, hG, hl, r, Q3, X, hf, hq, hx⟩ := h
  obtain ⟨⟨p', m'⟩, e, hf⟩ := ob_iff.mp hf
  obtain ⟨m, em, h0, h1, hd⟩ := ob_iff.mp hf
  cases asI_is em
  have e := two_is e
  injection e with e1 e2
  subst e2
  obtain ⟨v, w, rfl, rv, rw'⟩ := repL_two r
  cases rv.refI
  cases rw'.intI
  refine ⟨p, cc, m, rfl, hp, h0, h1, fun r H' r0 r1 hp' he => ?_⟩
  have nin : ∀ a, a ∉ (potCf p cc).S0 → a ≠ p ∧ a ≠ cc := fun a ha => ⟨fun z => ha (by rw [z]; exact List.mem_cons_self ..), fun z => ha (by rw [z]; exact List.mem_cons_of_mem _ (List.mem_cons_self ..))⟩
  refine hq _ (.int r) H' hp' (fun a o e => ?_) (fun a ha => ?_) (.int r) (hd r r0 r1)
  · obtain ⟨e1, e2⟩ := hid_some e
    have ha := nin a fun z => e2 (List.mem_append.mpr (.inl z))
    exact hid_mk (by rw [he a ha.1 ha.2]; exact e1) e2
  · have := nin a (hG a ha).2
    exact he a this.1 this.2
/-! ### xs[i] op= e -/
theorem get_list {X : Cx} : PGet X (rIxL X.K) := by
  intro pins s σ H x y v u Q I rx ry h
  obtain ⟨p, xs, i, z, rfl, rfl, hq, he, q⟩ := h
  cases rx
  obtain ⟨t, rfl⟩ := ry
  obtain ⟨its, r, pl, hz⟩ := I.list hq
  obtain ⟨j, h1, h2, h3, h4, h5⟩ := atI_get he
  obtain ⟨w, ew, rw'⟩ := r.get h2
  have hl := r.length
  have hn := line63
  have fin : EP X pins σ Q w s := ⟨z, H, I, rw', q⟩
  by_cases h0 : 0 ≤ i
  · have hj : i.toNat = j := by
      rw [seqIndex_of h0 h5] at h1
      exact Option.some.inj h1
    exact wpAny_getItem_list pl.isList h0 (by omega) (by rw [hj]; simpa using ew) fin
  · have hj : (i + (its.toArray.size : Int)).toNat = j := by
      rw [seqIndex_neg (by omega) h4] at h1
      rw [List.size_toArray, ← hl]
      exact Option.some.inj h1
    exact wpAny_getItem_list_neg pl.isList (by omega) (by rw [List.size_toArray] <;> omega) (by omega) (by rw [hj]; simpa using ew) fin
/-! ### is True, is False -/
section
variable {K : PySem.W.Frag}
def isB3 : T → T → (T → Prop) → Prop := fun x y Q => ob (asB x) fun a => ob (asB y) fun b => Q (.bl (decide (a = b)))
theorem rl_isB : RL2 K rIsB isB3 := by
  intro c x y Q3 hh Hb G A σ3 σ H vx vy Q R rx ry k
  obtain ⟨a, ea, hh1⟩ := ob_iff.mp hh
  obtain ⟨b, eb, q⟩ := ob_iff.mp hh1
  cases asB_is ea
  cases asB_is eb
  exact ⟨a, b, rx.blI, ry.blI, k _ _ H (Le.refl R.inv) (.bl _) q⟩
def toI : T → Option Int
  | .int i => some i
  | .bl b => some (if b then 1 else 0)
  | _ => none
def int13 : List T → (T → Prop) → Prop := fun xs Q => ob (one xs) fun x => ob (toI x) fun i => Q (.int i)
theorem rl_int1 : RLn K (fun xs H Q => (∃ i, xs = [.int i] ∧ Q (.int i) H) ∨ ∃ k, xs = [.bl k] ∧ Q (.int (if k then 1 else 0)) H) int13 := by
  intro c xs Q3 hh Hb G A σ3 σ H vs Q R rx k
  obtain ⟨x, ex, hh1⟩ := ob_iff.mp hh
  obtain ⟨i, ei, q⟩ := ob_iff.mp hh1
  cases one_is ex
  obtain ⟨v, rfl, r⟩ := repL_one rx
  cases x with
  | int i =>
    cases ei
    cases r.intI
    exact .inl ⟨_, rfl, k _ _ H (Le.refl R.inv) (.int _) q⟩
  | bl b =>
    cases ei
    cases r.blI
    exact .inr ⟨b, rfl, k _ _ H (Le.refl R.inv) (.int _) q⟩
  | _ => cases ei
end
end M3

/-! L3K: the rules with the written part told by its own letter (so that a comprehension's block can be read). -/
namespace M3
open PySem L2
section
variable {X : Cx} {K : PySem.W.Frag} {pos : Pos}
theorem ix_listK (h : X.K = K) : IxR X (rIxL K) := h ▸ ix_list
theorem ix_tupK (h : X.K = K) : IxR X (rIxT K) := h ▸ ix_tup
theorem ix_strK (h : X.K = K) : IxR X rIxS := ix_str
theorem call_lenK (h : X.K = K) : CallR X (.builtin "len") (fun xs H Q => ∃ x n, xs = [x] ∧ LenV K x H n ∧ Q (.int n) H) := h ▸ call_len
theorem call_isiK' (h : X.K = K) : CallR X (.builtin "isinstance") (rIsi K) := h ▸ call_isi
theorem cr_allK (h : X.K = K) (hc : X.calm = true) : CallR X (.builtin "all") (rAll K) := h ▸ cr_all hc
theorem cr_anyK (h : X.K = K) (hc : X.calm = true) : CallR X (.builtin "any") (rAny K) := h ▸ cr_any hc
theorem sl_listK (h : X.K = K) : SlR X (rSlL K) := h ▸ sl_list
theorem sl_tupK (h : X.K = K) : SlR X (rSlA K) := h ▸ sl_tupA
theorem sl_strK (h : X.K = K) : SlR X rSlS := sl_str
theorem op_catTK (h : X.K = K) : OpR X (binaryOp .Add) (rCatA K) := h ▸ op_catA
theorem call_tupleK (h : X.K = K) : CallR X (.type "tuple") (fun xs H Q => ∃ p ys, xs = [.ref p] ∧ ((SqL K H p ys ∧ ∀ l, H l = none → Q (.ref l) (upd H l (.tup ys))) ∨ (SqT K H p ys ∧ Q (.ref p) H))) := h ▸ call_tuple_of
theorem call_listK (h : X.K = K) : CallR X (.type "list") (fun xs H Q => ∃ p ys, xs = [.ref p] ∧ (SqL K H p ys ∨ SqT K H p ys) ∧ ∀ l, H l = none → Q (.ref l) (upd H l (.lst ys))) := h ▸ call_list_of
theorem pi_listK {tg l : Expr} {tl : TE} (h : X.K = K) (hl : PE X l tl) : PI X tg l (iList K tl) := h ▸ pi_list hl
theorem pi_tupK {tg l : Expr} {tl : TE} (h : X.K = K) (hl : PE X l tl) : PI X tg l (iTup K tl) := h ▸ pi_tup hl
theorem pi_zipK {e e2 : Expr} {ta : TA} {p tpos : Pos} {elts : List Expr} {kk : Nat} (h : X.K = K) (hg : Gl X "zip") (hm : X.mg "zip" = none) (ha : PA X [e, e2] ta)
    (hs : starEach [e, e2] X.env = (false, eval e X.env) :: starEach [e2] X.env := by rfl) (hpl : (backTo pos (starEach [e2] X.env)).any (·.1) = false := by rfl) :
    PI X (.Tuple elts kk tpos) (.Call (.Name "zip" p) [e, e2] [] pos) (RZ.iZipA K ta) := h ▸ RZ.pi_zipA hg hm ha hs hpl
theorem pi_enumK {e : Expr} {ta : TA} {p tpos : Pos} {elts : List Expr} {kk : Nat} (h : X.K = K) (hg : Gl X "enumerate") (hm : X.mg "enumerate" = none) (ha : PA X [e] ta) (hs : starEach [e] X.env = [(false, eval e X.env)] := by rfl) :
    PI X (.Tuple elts kk tpos) (.Call (.Name "enumerate" p) [e] [] pos) (iEnum K ta) := h ▸ pi_enum hg hm ha hs
theorem pg_tupK {es : List Expr} {k : Nat} {t : TGs} {n : Nat} (h : X.K = K) (hc : X.calm = true) (hp : PGs X es t)
    (hn : (assignEach es X.env).length = n := by rfl) (hst : (assignEach es X.env).findIdx? (·.1) = none := by rfl) : PG X (.Tuple es k pos) (gTup K n t) := h ▸ pg_tup hc hp hn hst
/-- any value's truth, by its tree -/
def tTrK (K : PySem.W.Frag) (ta : TE) : TT := fun σ H Q => ta σ H fun x H' => ∃ k, TruV K x H' k ∧ Q k H'
theorem pt_truthK {a : Expr} {ta : TE} (h : X.K = K) (ha : PE X a ta) (he : ∀ whole, isTrue a X.env whole = (do let v ← whole; standAt a.pos; holding [v] (truthy v))) : PT X a (tTrK K ta) := h ▸ pt_truth ha he
end
section
variable {K : PySem.W.Frag} {c : Cf} {W : WX}
def truT : T → Option Bool
  | .non => some false
  | .bl b => some b
  | .int i => some (i != 0)
  | .str y => if y.length ≤ sizeLine then some ((y.length : Int) != 0) else none
  | .lst xs => some (!xs.isEmpty)
  | .tup xs => some (!xs.isEmpty)
  | _ => none
def truth3 (a : E3) : B3 := fun σ Q X => a σ (fun x => ob (truT x) Q) X
theorem RepL.isEmpty {H : Hp} {vs : List V} {ts : List T} (r : RepL K H vs ts) : vs.isEmpty = ts.isEmpty := by cases r <;> rfl
theorem lift_truth {ta : TE} {a : E3} (ha : Lift K c W ta a) : LiftT K c W (tTrK K ta) (truth3 a) := by
  intro σ3 Q3 X h Hb G A σ H Q R k e
  refine ha _ _ _ h Hb G A σ H _ R (fun vx x H1 L1 rx hx => ?_) e
  obtain ⟨b, hb, q⟩ := ob_iff.mp hx
  refine ⟨b, ?_, k b b H1 L1 rfl q⟩
  cases x with
  | non => cases rx.nonI; cases hb; exact rfl
  | bl i => cases rx.blI; cases hb; exact rfl
  | int i => cases rx.intI; cases hb; exact rfl
  | str y =>
    cases rx.strI
    replace hb : (if y.length ≤ sizeLine then some ((y.length : Int) != 0) else none) = some b := hb
    by_cases hy : y.length ≤ sizeLine
    · rw [if_pos hy] at hb; cases hb; exact ⟨hy, rfl⟩
    · rw [if_neg hy] at hb; cases hb
  | lst xs =>
    obtain ⟨a, vs, rfl, hq, rl⟩ := rx.lstI
    cases hb
    exact .inl ⟨vs, SqL.of (hid_same _ _ hq), by rw [rl.isEmpty]⟩
  | tup xs =>
    obtain ⟨a, vs, rfl, hq, rl⟩ := rx.tupI
    cases hb
    exact .inr (.inl ⟨vs, Same.sqT hid_same hq, by rw [rl.isEmpty]⟩)
  | _ => cases hb
end
end M3

/-! L3L: the law's own body behind the making of its pot; draws by cases. -/
namespace M3
open PySem L2
theorem RepL.rev {K : PySem.W.Frag} {H : Hp} : ∀ {vs : List V} {ts : List T}, RepL K H vs ts → RepL K H vs.reverse ts.reverse
  | _, _, .nil => .nil
  | _, _, .cons r q => by
    rw [List.reverse_cons, List.reverse_cons]
    exact (RepL.rev q).append (.cons r .nil)
/-- the law's promise -/
def spLaw (K : PySem.W.Frag) : Sp := fun vs H Q _ => ∃ (a : Addr) (ns : List Int), vs = [.ref a] ∧ SqL K H a (ns.map V.int) ∧ ∀ H', Q (.bl true) H'
theorem r3_pot {K : PySem.W.Frag} {p cc : Addr} {Ts : List (Addr × Str)} {H : Hp} (m : Nat) (a : Addr) (hp : PotAt p cc H) (ht : LamX.Tabs Ts H) :
    R3 K (potT p cc Ts) H [] (List.replicate (m + 2) none) (Sl.no :: Sl.val (.ref p) :: List.replicate m Sl.no) (some (V.ref a) :: some (V.ref p) :: List.replicate m none) H := by
  have hA : addrs (List.replicate (m + 2) (none : Option Addr)) = [] := by
    unfold addrs
    rw [List.filterMap_replicate_of_none rfl]
  refine ⟨⟨hp, ht⟩, ?_, fun a h => (by cases h), fun a h => (by cases h), (by rw [hA]; exact List.nodup_nil), fun a h => (by rw [hA] at h; cases h), (by simp), (by simp), ?_⟩
  · unfold Cf.S
    rw [hA, List.append_nil, List.append_nil]
    exact Same.refl _
  · intro i s o x h1 h2 h3
    have ho : o = none := (List.mem_replicate.mp (List.mem_of_getElem? h2)).2
    subst ho
    match i, h1, h3 with
    | 0, h1, h3 => cases h1; exact rfl
    | 1, h1, h3 => cases h1; cases h3; exact ⟨rfl, _, rfl, .ref p⟩
    | i + 2, h1, h3 =>
      have hs : s = .no := (List.mem_replicate.mp (List.mem_of_getElem? (show (List.replicate m Sl.no)[i]? = some s by simpa using h1))).2
      subst hs
      exact rfl
theorem law_restT {K : PySem.W.Frag} {p cc : Addr} {Ts : List (Addr × Str)} {W : WX} {t : TS} {x : S3} {H : Hp} {Q : VK} {a : Addr} (m : Nat) (lt : LiftS K (potT p cc Ts) W t x) (hp : PotAt p cc H) (ht : LamX.Tabs Ts H) (hQ : ∀ H', Q (.bl true) H')
    (hx : x { nx := fun _ => False, rt := fun d => d = .bl true } (Sl.no :: Sl.val (.ref p) :: List.replicate m Sl.no)) : t { nx := fun _ H' => Q .non H', rt := Q } (some (V.ref a) :: some (V.ref p) :: List.replicate m none) H := by
  refine lt _ _ hx H [] _ _ H _ (r3_pot m a hp ht) ⟨fun _ _ _ _ _ z => z.elim, fun v d H' _ r e => ?_, fun _ _ _ _ _ z => z.elim, fun _ _ _ _ _ z => z.elim, fun _ _ _ _ _ _ _ _ _ z => z.elim⟩
  subst e
  rw [r.blI]
  exact hQ H'
theorem law_rest {K : PySem.W.Frag} {p cc : Addr} {W : WX} {t : TS} {x : S3} {H : Hp} {Q : VK} {a : Addr} (m : Nat) (lt : LiftS K (potCf p cc) W t x) (hp : PotAt p cc H) (hQ : ∀ H', Q (.bl true) H')
    (hx : x { nx := fun _ => False, rt := fun d => d = .bl true } (Sl.no :: Sl.val (.ref p) :: List.replicate m Sl.no)) : t { nx := fun _ H' => Q .non H', rt := Q } (some (V.ref a) :: some (V.ref p) :: List.replicate m none) H := law_restT m lt hp tabs_nil hQ hx
/-! ### draws -/
theorem ob_atI {xs : List T} {r : Int} {Q : T → Prop} (h0 : 0 ≤ r) (h1 : r < xs.length) (h : ∀ x ∈ xs, Q x) : ob (atI xs r) Q := by
  obtain ⟨j, rfl⟩ : ∃ j : Nat, r = (j : Int) := ⟨r.toNat, by omega⟩
  have hj : j < xs.length := by omega
  have e : atI xs (j : Int) = some xs[j] := atI_nat (List.getElem?_eq_getElem hj)
  rw [e]
  exact h _ (List.getElem_mem hj)
/-- a draw of an item by its place -/
theorem draw_all {xs : List T} {n : Int} {Q : T → Prop} (hn : n = xs.length) (h : ∀ x ∈ xs, Q x) : ∀ r : Int, 0 ≤ r → r < n → ob (atI xs r) Q := fun r h0 h1 => ob_atI h0 (by omega) h
/-- a statement by what it makes known, whatever follows -/
theorem seq_by {t u : S3} {N : N3} {σ : List Sl} (M : List Sl → Prop) (h : ∀ nx : List Sl → Prop, (∀ σ', M σ' → nx σ') → t { N with nx := nx } σ) (k : ∀ σ', M σ' → u N σ') : seq3 t u N σ := h (u N) k
theorem loop_name {i : Nat} {tb : S3} {N : N3} (P : List T → List Sl → Prop) (ds : List T) (σ : List Sl) (h : P ds σ) (h0 : ∀ σ, P [] σ → N.nx σ)
    (hs : ∀ x r σ, P (x :: r) σ → ∀ nx : List Sl → Prop, (∀ σ2, P r σ2 → nx σ2) → tb { nx := nx, ct := nx, bk := N.nx, rt := N.rt, xn := N.xn } (σ.set i (.val x))) : loop3 (name3 i) tb N ds σ :=
  loop3_inv P ds σ h h0 (fun x r σ hp => fun nx hn => hs x r σ hp nx hn) (fun d σ Q Q' hq h => hq _ h)
/-- a cut behind a statement: M is what is known there -/
def cut3 (t u : S3) : S3 := fun N σ => ∃ M : List Sl → Prop, t { N with nx := M } σ ∧ ∀ σ', M σ' → u N σ'
theorem lift_cut {K : PySem.W.Frag} {c : Cf} {W : WX} {t u : TS} {x y : S3} (h1 : LiftS K c W t x) (h2 : LiftS K c W u y) : LiftS K c W (tSeq t u) (cut3 x y) := by
  intro N σ3 h Hb G A σ H D R Z
  obtain ⟨M, hx, hy⟩ := h
  exact h1 _ _ hx Hb G A σ H _ R ⟨fun A' σ3' σ' H' R' q => h2 _ _ (hy σ3' q) Hb G A' σ' H' D R' Z, Z.rt, Z.bk, Z.ct, Z.xn⟩
end M3

/-! L3M: in, not in; further operations. -/
namespace M3
open PySem L2
section
variable {X : Cx} {K : PySem.W.Frag}
theorem op_inK (h : X.K = K) : OpR X (compareOp .In) (rIn K false) := h ▸ op_in_seq
theorem op_notInK (h : X.K = K) : OpR X (compareOp .NotIn) (rIn K true) := h ▸ op_notIn_seq
end
section
variable {K : PySem.W.Frag}
/-- flat items as values -/
def flats : List T → Option (List V)
  | [] => some []
  | t :: ts => (flatT t).bind fun v => (flats ts).map (v :: ·)
theorem flat_flat {t : T} {v : V} (h : flatT t = some v) : flatV v = true := by cases t <;> cases h <;> rfl
theorem RepL.flats {H : Hp} : ∀ {vs : List V} {ts : List T} {ws : List V}, RepL K H vs ts → M3.flats ts = some ws → vs = ws ∧ ws.all flatV = true
  | _, [], ws, .nil, h => by cases h; exact ⟨rfl, rfl⟩
  | _, t :: ts, ws, .cons r q, h => by
    have h : (flatT t).bind (fun v => (M3.flats ts).map (v :: ·)) = some ws := h
    cases e : flatT t with
    | none => rw [e] at h; cases h
    | some v =>
      rw [e] at h
      cases e2 : M3.flats ts with
      | none => rw [e2] at h; cases h
      | some l =>
        rw [e2] at h
        cases h
        obtain ⟨h1, h2⟩ := RepL.flats q e2
        rw [r.flat e, h1]
        exact ⟨rfl, by rw [List.all_cons, flat_flat e, h2]; rfl⟩
def in3 (neg : Bool) : T → T → (T → Prop) → Prop := fun x y Q => ob (flatT x) fun v => ob (items y) fun ys => ob (flats ys) fun vs => Q (.bl (if neg then !inV v vs else inV v vs))
theorem rl_in (neg : Bool) : RL2 K (rIn K neg) (in3 neg) := by
  intro c x y Q3 hh Hb G A σ3 σ H vx vy Q R rx ry k
  obtain ⟨v, ev, h1⟩ := ob_iff.mp hh
  obtain ⟨ys, ey, h2⟩ := ob_iff.mp h1
  obtain ⟨vs, es, q⟩ := ob_iff.mp h2
  have e := rx.flat ev
  subst e
  rcases items_cases ey with rfl | rfl
  · obtain ⟨a, ws, rfl, ha, rl⟩ := ry.lstI
    obtain ⟨e1, e2⟩ := rl.flats es
    subst e1
    exact ⟨a, ws, rfl, .inl (SqL.of (hid_same _ _ ha)), flat_flat ev, e2, k _ _ H (Le.refl R.inv) (.bl _) q⟩
  · obtain ⟨a, ws, rfl, ha, rl⟩ := ry.tupI
    obtain ⟨e1, e2⟩ := rl.flats es
    subst e1
    exact ⟨a, ws, rfl, .inr (Same.sqT hid_same ha), flat_flat ev, e2, k _ _ H (Le.refl R.inv) (.bl _) q⟩
end
theorem for_v {i : Nat} {xs : List T} {g : TG3} {tb : S3} {N : N3} {σ : List Sl} (h : slot σ i = some (.lst xs)) (k : loop3 g tb N xs σ) : for3 (iterL3 (v3 i)) g tb N σ := by
  unfold for3 iterL3 v3
  rw [h]
  exact k
theorem for_vT {i : Nat} {xs : List T} {g : TG3} {tb : S3} {N : N3} {σ : List Sl} (h : slot σ i = some (.tup xs)) (k : loop3 g tb N xs σ) : for3 (iterT3 (v3 i)) g tb N σ := by
  unfold for3 iterT3 v3
  rw [h]
  exact k
end M3

/-! L3X: raise; a lambda handed to a def that calls it in a try. -/
namespace M3
open PySem L2
section
variable {K : PySem.W.Frag} {c : Cf} {W : WX}
/-- raise C('..') -/
def raise3 (cls : Value) : S3 := fun N σ => N.xn σ ⟨cls, []⟩
theorem lift_raise {cls : Value} : LiftS K c W (fun _ σ H => W cls none σ H) (raise3 cls) := by
  intro N σ3 h Hb G A σ H D R Z
  exact Z.xn A σ3 σ H cls none ⟨cls, []⟩ R ⟨rfl, rfl⟩ h
end
/-! ### try: act() / except C: return (text,) .. / return (text,) -/
def tOne (s : Str) : TS := tRet (tTup (tCons (tC (.str s)) tNil))
def whyL (l : List (Value × Str)) : List (Value × (Addr → Value → Option Addr → TS)) := l.map fun p => (p.1, fun _ _ _ => tOne p.2)
def TTwhy (K : PySem.W.Frag) (l : List (Value × Str)) (s0 : Str) : (XK → Hp → VK → Prop) → Hp → VK → Prop := fun tl H Q =>
  tl (fun cls d H' => ∀ σ' : St, wMany K (fun _ _ _ _ => False) { nx := fun _ _ => False, rt := Q } (whyL l) cls d σ' H') H (fun _ H' => tOne s0 { nx := fun _ _ => False, rt := Q } [] H')
theorem wMany_rt {K : PySem.W.Frag} {Wo : WX} {D D' : Ends} (e : D.rt = D'.rt) : ∀ (l : List (Value × Str)) cls d σ H, wMany K Wo D (whyL l) cls d σ H → wMany K Wo D' (whyL l) cls d σ H
  | [], cls, d, σ, H, h => h
  | (v, s) :: l, cls, d, σ, H, h => by
    obtain ⟨b, h1, h2, h3⟩ := h
    refine ⟨b, h1, fun hb a ha => ?_, fun hb => wMany_rt e l cls d σ H (h3 hb)⟩
    have := h2 hb a ha
    show tTup (tCons (tC (.str s)) tNil) σ H D'.rt
    rw [← e]
    exact this
theorem wMany_slots {K : PySem.W.Frag} {D : Ends} : ∀ (l : List (Value × Str)) cls d σ σ' H, wMany K (fun _ _ _ _ => False) D (whyL l) cls d σ H → wMany K (fun _ _ _ _ => False) D (whyL l) cls d σ' H
  | [], cls, d, σ, σ', H, h => h
  | (v, s) :: l, cls, d, σ, σ', H, h => by
    obtain ⟨b, h1, h2, h3⟩ := h
    exact ⟨b, h1, fun hb a ha => h2 hb a ha, fun hb => wMany_slots l cls d σ σ' H (h3 hb)⟩
theorem why_gives {X : Cx} {Ng : List Str} {x a q s0 : Str} {sg : Scope} {g : Addr} {cdg : Value} {j k0 : Nat} {p1 p2 p3 p4 p5 p6 p7 : Pos} {h₀ : ExceptHandler} {hds : List ExceptHandler} {l : List (Value × Str)}
    (hh : ∀ s H, HdsOk (cxOf C8.CX0 X.prog X.w X.K X.mg X.base Ng x sg g cdg X.A X.stack s H C8.E0).nox (h₀ :: hds) (whyL l)) (h0 : ∀ f : Addr, (L2.start Ng [V.ref f])[0]? = some (some (V.ref f))) :
    LamX.GivesTo X Ng x sg g cdg [.Try [.Expr (.Call (.Name a p1) [] [] p2) p3] (h₀ :: hds) [] [] p4, .Return (some (.Tuple [.Constant (.str s0) j p5] k0 p6)) p7] a q (TTwhy X.K l s0) := by
  intro f c' s H Q tl act hc h
  refine ⟨_, pss_cons (ps_try_many (X := (cxOf C8.CX0 X.prog X.w X.K X.mg X.base Ng x sg g cdg X.A X.stack s H C8.E0).nox)
      (tb := fun W D σ H => ∃ Ech : XK, (∀ cls d σ' H', Ech cls d H' → W cls d σ' H') ∧ σ[0]? = some (some (.ref f)) ∧ H c' = some (LamX.CodeO c' q) ∧ tl Ech H (fun _ H' => D.nx σ H'))
      rfl rfl takes0 (fun W pn xe tk _ => ?_) (hh s H)) (pss_one (ps_ret (pe_tup (pa_cons pe_str pa_nil)))), ?_⟩
  · refine ⟨fun pins s' σ H' D I h' => ?_⟩
    obtain ⟨Ech, hW, h1, h2, h3⟩ := h'
    have hp := act W pn xe Ech p1 p2 tk hW
    have hq := pss_one (ps_expr (pos := p3) hp)
    exact hq.run pins s' σ H' D I ⟨h1, h2, h3⟩
  · refine ⟨fun cls d H' => ∀ σ' : St, wMany X.K (fun _ _ _ _ => False) { nx := fun _ _ => False, rt := Q } (whyL l) cls d σ' H', fun cls d σ' H' z => wMany_rt (K := X.K) (D := { nx := fun _ _ => False, rt := Q }) (D' := { nx := tRet (tTup (tCons (tC (V.str s0)) tNil)) { nx := fun x H' => Q V.non H', rt := Q }, rt := Q }) rfl l cls d σ' H' (z σ'), h0 f, hc, ?_⟩
    exact h
/-- the same at trees -/
def whyX (K : PySem.W.Frag) (x : Xn) (Q : T → Prop) : List (Value × Str) → Prop
  | [] => False
  | (c, s) :: l => ob (PySem.W.exmOne K x.cls c) fun b => if b = true then Q (.tup [.str s]) else whyX K x Q l
def why3 (K : PySem.W.Frag) (l : List (Value × Str)) (s0 : Str) (t : E3) : E3 := fun σ Q _ => t σ (fun _ => Q (.tup [.str s0])) (fun x => whyX K x Q l)
theorem one_line : (1 : Nat) ≤ sizeLine := by decide
theorem lift_lam {K : PySem.W.Frag} {p cc : Addr} {P : Addr × Str} {Ts : List (Addr × Str)} {W : WX} {l : List (Value × Str)} {s0 : Str} {t : XK → TE} {t3 : E3} (ht : ∀ E : XK, Lift K (potT p cc (P :: Ts)) (fun cls d _ H => E cls d H) (t E) t3) :
    Lift K (potT p cc (P :: Ts)) W (LamX.tLam (P :: Ts) (TTwhy K l s0) t) (why3 K l s0 t3) := by
  intro σ3 Q3 X h Hb G A σ H Q R k e
  refine ⟨R.inv.2, fun H1 ex tb => ?_⟩
  have own : ∀ a o, H a = some o → vis o = true → H1 a = some o := fun a o e v => ex a o e (fun ps z => by rw [z] at v; cases v)
  have L1 : Le (potT p cc (P :: Ts)) G A H H1 := by
    refine ⟨fun a o z => ?_, fun a ha => ?_, ?_, tb⟩
    · obtain ⟨z1, z2, z3⟩ := hid_all z
      exact hid_mk (own a o z1 z3) z2 z3
    · rcases List.mem_append.mp ha with ha | ha
      · cases eo : H a with
        | none => exact absurd eo (R.gk a ha).2.1
        | some o =>
          rcases R.gv a ha o eo with z | z
          · cases z
          · exact own a o eo z
      · have hm := mem_addrs.mp ha
        obtain ⟨i, hi⟩ := List.getElem?_of_mem hm
        have hl : i < A.length := (List.getElem?_eq_some_iff.mp hi).1
        have h1 : i < σ3.length := by rw [← R.l1]; exact hl
        have h2 : i < σ.length := by rw [R.l2]; exact h1
        have z := R.at_ i _ _ _ (List.getElem?_eq_getElem h1) hi (List.getElem?_eq_getElem h2)
        cases es : σ3[i] with
        | no => rw [es] at z; cases z
        | val t => rw [es] at z; cases z.1
        | own t =>
          rw [es] at z
          obtain ⟨b, e1, e2, q⟩ := z
          cases e1
          cases t with
          | lst xs => obtain ⟨vs, q1, _⟩ := q; rw [q1]; exact own a _ q1 rfl
          | dic xs => obtain ⟨vs, q1, _⟩ := q; rw [q1]; exact own a _ q1 rfl
          | _ => exact q.elim
    · obtain ⟨cs, i, n, s, h1, h2, r⟩ := R.inv.1
      exact ⟨cs, i, n, s, own _ _ h1 rfl, own _ _ h2 rfl, r⟩
  have R1 := R.le L1
  have out1 : ∀ (s : Str) (H2 : Hp) (σ' : St), Le (potT p cc (P :: Ts)) G A H1 H2 → Q3 (.tup [.str s]) → tOne s { nx := fun _ _ => False, rt := Q } σ' H2 := fun s H2 σ' L2 q => by
    refine ⟨one_line, fun a ha => ?_⟩
    have R2 := R1.le L2
    have L3 := R2.new (o := .tup [.str s]) ha
    exact k _ _ _ ((L1.trans L2).trans L3) (.mkT (SqT.of (R2.newAt ha)) (.cons (.str s) .nil)) q
  refine ht _ σ3 _ _ h Hb G A σ H1 _ R1 (fun v d H2 L2 _ q => out1 s0 H2 [] L2 q) (fun cls dd x H2 L2 rx hx σ' => ?_)
  have ec : x.cls = cls := rx.1
  subst ec
  clear h
  induction l with
  | nil => exact hx.elim
  | cons v l ih =>
    obtain ⟨c1, s1⟩ := v
    obtain ⟨b, hb, hy⟩ := ob_iff.mp hx
    refine ⟨b, hb, fun hb1 a _ => ?_, fun hb1 => ?_⟩
    · subst hb1
      exact out1 s1 H2 σ' L2 (by simpa using hy)
    · subst hb1
      exact ih (by simpa using hy)
end M3

/-! L3Q: == and != of data at any depth. -/
namespace M3
open PySem L2
section
variable {X : Cx} {K : PySem.W.Frag}
theorem op_eqDK (h : X.K = K) (hu : X.A.units + 64 < cLine) : OpR X (compareOp .Eq) (rEqD K) := h ▸ op_eqD hu
theorem op_neDK (h : X.K = K) (hu : X.A.units + 64 < cLine) : OpR X (compareOp .NotEq) (rNeD K) := h ▸ op_neD hu
end
mutual
/-- a tree as plain data -/
def dat : T → Option PyData
  | .non => some .none
  | .bl b => some (.bool b)
  | .int i => some (.int i)
  | .str x => some (.str x)
  | .tup xs => (dats xs).map .tuple
  | .lst xs => (dats xs).map .list
  | .ty _ => none
  | .ref _ => none
  | .dic _ => none
  | .ins _ _ => none
def dats : List T → Option (List PyData)
  | [] => some []
  | t :: ts => (dat t).bind fun d => (dats ts).map (d :: ·)
end
mutual
theorem dp_of {K : PySem.W.Frag} {H H' : Hp} (s : Same H H') : ∀ (t : T) (v : V) (d : PyData), Rep K H v t → dat t = some d → Dp K H' v d
  | .non, v, d, r, h => by
    cases h
    cases r
    exact .non
  | .bl b, v, d, r, h => by
    cases h
    cases r
    exact .bl _
  | .int i, v, d, r, h => by
    cases h
    cases r
    exact .int _
  | .str x, v, d, r, h => by
    cases h
    cases r
    exact .str _
  | .tup xs, v, d, r, h => by
    obtain ⟨a, vs, rfl, ha, rl⟩ := r.tupI
    have h : (dats xs).map PyData.tuple = some d := by simpa [dat] using h
    cases e : dats xs with
    | none => rw [e] at h; cases h
    | some ds =>
      rw [e] at h
      cases h
      exact .tup (Same.sqT s ha) (dps_of s xs vs ds rl e)
  | .lst xs, v, d, r, h => by
    obtain ⟨a, vs, rfl, ha, rl⟩ := r.lstI
    have h : (dats xs).map PyData.list = some d := by simpa [dat] using h
    cases e : dats xs with
    | none => rw [e] at h; cases h
    | some ds =>
      rw [e] at h
      cases h
      exact .lst (SqL.of (s _ _ ha)) (dps_of s xs vs ds rl e)
  | .ty _, v, d, r, h => by simp [dat] at h
  | .ref _, v, d, r, h => by simp [dat] at h
  | .dic _, v, d, r, h => by simp [dat] at h
  | .ins _ _, v, d, r, h => by simp [dat] at h
theorem dps_of {K : PySem.W.Frag} {H H' : Hp} (s : Same H H') : ∀ (ts : List T) (vs : List V) (ds : List PyData), RepL K H vs ts → dats ts = some ds → DpAll K H' vs ds
  | [], vs, ds, r, h => by
    cases h
    cases r
    exact .nil
  | t :: ts, vs, ds, r, h => by
    have h : (dat t).bind (fun d => (dats ts).map (d :: ·)) = some ds := by simpa [dats] using h
    cases e : dat t with
    | none => rw [e] at h; cases h
    | some d =>
      rw [e] at h
      cases e2 : dats ts with
      | none => rw [e2] at h; cases h
      | some es =>
        rw [e2] at h
        cases h
        cases r with
        | cons r1 r2 => exact .cons (dp_of s t _ _ r1 e) (dps_of s ts _ _ r2 e2)
end
section
variable {K : PySem.W.Frag}
def eqD3 : T → T → (T → Prop) → Prop := fun x y Q => ob (dat x) fun d => ob (dat y) fun e => SeqAt.shaped d = true ∧ SeqAt.shaped e = true ∧ Q (.bl (PyData.eqv d e))
def neD3 : T → T → (T → Prop) → Prop := fun x y Q => ob (dat x) fun d => ob (dat y) fun e => SeqAt.shaped d = true ∧ SeqAt.shaped e = true ∧ Q (.bl (!PyData.eqv d e))
theorem rl_eqD : RL2 K (rEqD K) eqD3 := by
  intro c x y Q3 hh Hb G A σ3 σ H vx vy Q R rx ry k
  obtain ⟨d, ed, h1⟩ := ob_iff.mp hh
  obtain ⟨e, ee, s1, s2, q⟩ := ob_iff.mp h1
  exact ⟨d, e, dp_of hid_same _ _ _ rx ed, dp_of hid_same _ _ _ ry ee, s1, s2, k _ _ H (Le.refl R.inv) (.bl _) q⟩
theorem rl_neD : RL2 K (rNeD K) neD3 := by
  intro c x y Q3 hh Hb G A σ3 σ H vx vy Q R rx ry k
  obtain ⟨d, ed, h1⟩ := ob_iff.mp hh
  obtain ⟨e, ee, s1, s2, q⟩ := ob_iff.mp h1
  exact ⟨d, e, dp_of hid_same _ _ _ rx ed, dp_of hid_same _ _ _ ry ee, s1, s2, k _ _ H (Le.refl R.inv) (.bl _) q⟩
end
end M3

/-! L4A: operations that look at the kind of their trees; calls by selection; classes. -/
namespace M3
open PySem L2
/-- the classes of the text by name, and the look of an except clause -/
structure Cs where
  at_ : Str → Addr
  em : Value → Value → Option Bool
def csOf (K : PySem.W.Frag) (mg : Str → Option Value) : Cs := ⟨fun x => match mg x with | some (.ref a) => a | _ => 0, PySem.W.exmOne K⟩
theorem csOf_at {K : PySem.W.Frag} {mg : Str → Option Value} {x : Str} {a : Addr} (h : mg x = some (.ref a)) : (csOf K mg).at_ x = a := by
  show (match mg x with | some (.ref a) => a | _ => 0) = a
  rw [h]
theorem OpR.or {X : Cx} {f : Value → Value → Sem Value} {r r' : R2} (a : OpR X f r) (b : OpR X f r') : OpR X f (fun x y H Q => r x y H Q ∨ r' x y H Q) := fun pins s σ H x y v u Q I rx ry h => by
  rcases h with h | h
  · exact a pins s σ H x y v u Q I rx ry h
  · exact b pins s σ H x y v u Q I rx ry h
theorem ixR_or {X : Cx} {r r' : R2} (a : IxR X r) (b : IxR X r') : IxR X (fun x y H Q => r x y H Q ∨ r' x y H Q) := by
  intro e1 e2 pins s σ H x y v u Q I rx ry h hs
  rcases h with h | h
  · exact a e1 e2 pins s σ H x y v u Q I rx ry h hs
  · exact b e1 e2 pins s σ H x y v u Q I rx ry h hs
/-- a rule by the kind: one of two -/
theorem RL2.or2 {K : PySem.W.Frag} {r r' : R2} {q q' m : T → T → (T → Prop) → Prop} (h : RL2 K r q) (h' : RL2 K r' q') (hm : ∀ x y Q, m x y Q → q x y Q ∨ q' x y Q) : RL2 K (fun x y H Q => r x y H Q ∨ r' x y H Q) m := by
  intro c x y Q3 hh Hb G A σ3 σ H vx vy Q R rx ry k
  rcases hm _ _ _ hh with hh | hh
  · exact .inl (h c x y Q3 hh Hb G A σ3 σ H vx vy Q R rx ry k)
  · exact .inr (h' c x y Q3 hh Hb G A σ3 σ H vx vy Q R rx ry k)
section
variable {X : Cx} {K : PySem.W.Frag}
/-! ### + -/
abbrev rAdd (K : PySem.W.Frag) : R2 := fun x y H Q => rI0 (fun i j => .int (i + j)) x y H Q ∨ (fun x y H Q => (fun x y H Q => ∃ i j, x = .str i ∧ y = .str j ∧ i.length + j.length ≤ sizeLine ∧ Q (.str (i ++ j)) H) x y H Q ∨ (fun x y H Q => rCat x y H Q ∨ rCatA K x y H Q) x y H Q) x y H Q
theorem op_addP (h : X.K = K) : OpR X (binaryOp .Add) (rAdd K) := OpR.or op_add (OpR.or op_add_str (OpR.or op_cat (op_catTK h)))
def addP : T → T → (T → Prop) → Prop
  | .int i, .int j, Q => Q (.int (i + j))
  | .str a, .str b, Q => a.length + b.length ≤ sizeLine ∧ Q (.str (a ++ b))
  | .lst a, .lst b, Q => a.length + b.length ≤ sizeLine ∧ Q (.lst (a ++ b))
  | .tup a, .tup b, Q => a.length + b.length ≤ sizeLine ∧ Q (.tup (a ++ b))
  | _, _, _ => False
theorem rl_addP : RL2 K (rAdd K) addP := by
  refine RL2.or2 rl_add (RL2.or2 rl_catS (RL2.or2 rl_catL rl_catT (m := fun x y Q => match x, y with | .lst a, .lst b => catL3 (.lst a) (.lst b) Q | .tup a, .tup b => catT3 (.tup a) (.tup b) Q | _, _ => False) ?_)
    (m := fun x y Q => match x, y with | .str a, .str b => catS3 (.str a) (.str b) Q | .lst a, .lst b => catL3 (.lst a) (.lst b) Q | .tup a, .tup b => catT3 (.tup a) (.tup b) Q | _, _ => False) ?_) ?_
  · intro x y Q h
    cases x <;> cases y <;> first | exact .inl h | exact .inr h | exact h.elim
  · intro x y Q h
    cases x <;> cases y <;> first | exact .inl h | exact .inr h | exact h.elim
  · intro x y Q h
    cases x <;> cases y <;> first | exact .inl h | exact .inr h | exact h.elim
/-! ### * -/
abbrev rMul : R2 := fun x y H Q => rI CMulW (fun i j => .int (i * j)) x y H Q ∨ rRep x y H Q
theorem op_mulP : OpR X (binaryOp .Mult) rMul := OpR.or op_mulW op_rep
def mulP : T → T → (T → Prop) → Prop
  | .int i, .int j, Q => CMulW i j ∧ Q (.int (i * j))
  | .lst xs, .int k, Q => -(2 ^ 63) ≤ k ∧ k < 2 ^ 63 ∧ xs.length * k.toNat ≤ sizeLine ∧ Q (.lst (List.replicate k.toNat xs).flatten)
  | _, _, _ => False
theorem rl_mulP : RL2 K rMul mulP := by
  refine RL2.or2 rl_mulW rl_repL ?_
  intro x y Q h
  cases x <;> cases y <;> first | exact .inl h | exact .inr h | exact h.elim
/-! ### xs[i] -/
abbrev rIx (K : PySem.W.Frag) : R2 := fun x y H Q => rIxL K x y H Q ∨ (fun x y H Q => rIxT K x y H Q ∨ rIxS x y H Q) x y H Q
theorem ix_P (h : X.K = K) : IxR X (rIx K) := ixR_or (ix_listK h) (ixR_or (ix_tupK h) (ix_strK h))
def ixP : T → T → (T → Prop) → Prop
  | .lst xs, .int i, Q => ob (atI xs i) Q
  | .tup xs, .int i, Q => ob (atI xs i) Q
  | .str z, .int i, Q => z.length ≤ sizeLine ∧ ob (atI z.cps.toList i) fun c => Q (.str ⟨#[c]⟩)
  | _, _, _ => False
theorem rl_ixP : RL2 K (rIx K) ixP := by
  refine RL2.or2 rl_ixL (RL2.or2 rl_ixT rl_ixS (m := fun x y Q => match x, y with | .tup xs, .int i => ob (atI xs i) Q | .str z, .int i => z.length ≤ sizeLine ∧ ob (atI z.cps.toList i) fun c => Q (.str ⟨#[c]⟩) | _, _ => False) ?_) ?_
  · intro x y Q h
    cases x <;> cases y <;> first | exact .inl h | exact .inr h | exact h.elim
  · intro x y Q h
    cases x <;> cases y <;> first | exact .inl h | exact .inr h | exact h.elim
/-! ### xs[a:b] -/
theorem RLs.or2 {r r' : V → Option Int → Option Int → Hp → VK → Prop} {q q' m : T → Option Int → Option Int → (T → Prop) → Prop} (h : RLs K r q) (h' : RLs K r' q') (hm : ∀ x l u Q, m x l u Q → q x l u Q ∨ q' x l u Q) : RLs K (fun x l u H Q => r x l u H Q ∨ r' x l u H Q) m := by
  intro c x lo hi Q3 hh Hb G A σ3 σ H vx Q R rx k
  rcases hm _ _ _ _ hh with hh | hh
  · exact .inl (h c x lo hi Q3 hh Hb G A σ3 σ H vx Q R rx k)
  · exact .inr (h' c x lo hi Q3 hh Hb G A σ3 σ H vx Q R rx k)
abbrev rSl (K : PySem.W.Frag) : V → Option Int → Option Int → Hp → VK → Prop := fun x l u H Q => rSlL K x l u H Q ∨ (fun x l u H Q => rSlA K x l u H Q ∨ rSlS x l u H Q) x l u H Q
theorem sl_P (h : X.K = K) : SlR X (rSl K) := L2.SlR.or (sl_listK h) (L2.SlR.or (sl_tupK h) (sl_strK h))
def slP : T → Option Int → Option Int → (T → Prop) → Prop
  | .lst xs, l, u, Q => Q (.lst (cut xs l u))
  | .tup xs, l, u, Q => Q (.tup (cut xs l u))
  | .str z, l, u, Q => z.length ≤ sizeLine ∧ Q (.str (cutS z l u))
  | _, _, _, _ => False
theorem rl_slP : RLs K (rSl K) slP := by
  refine RLs.or2 rl_slL (RLs.or2 rl_slT rl_slS (m := fun x l u Q => match x with | .tup xs => Q (.tup (cut xs l u)) | .str z => z.length ≤ sizeLine ∧ Q (.str (cutS z l u)) | _ => False) ?_) ?_
  · intro x l u Q h
    cases x <;> first | exact .inl h | exact .inr h | exact h.elim
  · intro x l u Q h
    cases x <;> first | exact .inl h | exact .inr h | exact h.elim
/-! ### == -/
abbrev rEq' (K : PySem.W.Frag) : R2 := fun x y H Q => rEq x y H Q ∨ rEqD K x y H Q
abbrev rNe' (K : PySem.W.Frag) : R2 := fun x y H Q => rNe x y H Q ∨ rNeD K x y H Q
theorem op_eqP (h : X.K = K) (hu : X.A.units + 64 < cLine) : OpR X (compareOp .Eq) (rEq' K) := OpR.or op_eq (op_eqDK h hu)
theorem op_neP (h : X.K = K) (hu : X.A.units + 64 < cLine) : OpR X (compareOp .NotEq) (rNe' K) := OpR.or op_ne (op_neDK h hu)
def isSeq : T → Bool
  | .lst _ => true
  | .tup _ => true
  | _ => false
def eqP (x y : T) (Q : T → Prop) : Prop := if (isSeq x || isSeq y) = true then eqD3 x y Q else eqS3 x y Q
def neP (x y : T) (Q : T → Prop) : Prop := if (isSeq x || isSeq y) = true then neD3 x y Q else neS3 x y Q
theorem rl_eqP : RL2 K (rEq' K) eqP := by
  refine RL2.or2 rl_eqS rl_eqD fun x y Q h => ?_
  unfold eqP at h
  split at h
  · exact .inr h
  · exact .inl h
theorem rl_neP : RL2 K (rNe' K) neP := by
  refine RL2.or2 rl_neS rl_neD fun x y Q h => ?_
  unfold neP at h
  split at h
  · exact .inr h
  · exact .inl h
end
/-! ### what is walked: a list, a tuple, a text -/
section
variable {K : PySem.W.Frag} {c : Cf} {W : WX} {X : Cx}
def rIt (K : PySem.W.Frag) (x : V) (H : Hp) (R : It → Hp → Prop) : Prop :=
  (∃ a xs, x = .ref a ∧ SqL K H a xs ∧ R (Itl K a) H) ∨ (∃ a xs, x = .ref a ∧ SqT K H a xs ∧ R (Itt K a) H) ∨ ∃ z, x = .str z ∧ R (Its z) H
def iP (K : PySem.W.Frag) (t : TE) : TI := fun σ H R => t σ H fun x H' => rIt K x H' R
theorem pi_P {tg e : Expr} {t : TE} (h : X.K = K) (he : PE X e t) : PI X tg e (iP K t) := by
  subst h
  constructor
  intro pins s σ H R I hw
  refine thn (he.run pins s σ H _ I hw) ?_
  rintro v s1 ⟨x, H1, I1, r1, q1⟩
  have fp : ∀ b ∈ [s1.heap.objs.size], FpOk X pins H1 b := by
    intro b hb
    cases List.mem_singleton.mp hb
    exact I1.fpOk (Nat.le_refl _) (I1.hok.fresh (Nat.le_refl _))
  rcases q1 with ⟨a, xs, rfl, hq, q⟩ | ⟨a, xs, rfl, hq, q⟩ | ⟨z, rfl, q⟩
  · cases r1
    obtain ⟨its, _, pl, _⟩ := I1.list hq
    exact wpAny_pyIter_list pl.isList ⟨_, [_], _, _, H1, rfl, I1.kept (t' := s1.toks) (fun _ _ e => Heap.get?_push_of_some _ e), turn_list a _, ⟨_, Heap.get?_push_size _ rfl, rfl, rfl⟩, fp, q⟩
  · cases r1
    obtain ⟨its, _, pl, _⟩ := I1.tuple hq
    exact wpAny_pyIter_tuple (show s1.heap.IsTuple a its.toArray from pl) ⟨_, [_], _, _, H1, rfl, I1.kept (t' := s1.toks) (fun _ _ e => Heap.get?_push_of_some _ e), turn_tuple a _, ⟨_, Heap.get?_push_size _ rfl, rfl, rfl⟩, fp, q⟩
  · obtain ⟨t, rfl⟩ := r1
    cases ha : z.cps.all (· < 128)
    · exact wpAny_pyIter_wide ha (pi_one (tk := s1.toks) I1 _ (turn_str _ z t "str_iterator" (.inr rfl)) ⟨_, Heap.get?_push_size _ rfl, rfl, rfl⟩ q)
    · exact wpAny_pyIter_ascii ha (pi_one (tk := s1.toks) I1 _ (turn_str _ z t "str_ascii_iterator" (.inl rfl)) ⟨_, Heap.get?_push_size _ rfl, rfl, rfl⟩ q)
def chT (c : Nat) : T := .str ⟨#[c]⟩
def itemsP : T → Option (List T)
  | .lst xs => some xs
  | .tup xs => some xs
  | .str z => some (z.cps.toList.map chT)
  | _ => none
def iterP (a : E3) : A3 := fun σ Q X => a σ (fun d => ob (itemsP d) Q) X
theorem walks_str {V0 : Hp} (z : Str) : Walks K V0 (Its z) (z.cps.toList.map chT) where
  go := fun i d S H hd e => by
    have := (List.getElem?_eq_some_iff.mp hd).1
    show i < z.cps.size
    simpa using this
  yld := fun i d S H x H' hd e _ y => by
    obtain ⟨rfl, c, hc, rfl⟩ := y
    rw [List.getElem?_map] at hd
    have hc' : z.cps.toList[i]? = some c := by simpa using hc
    rw [hc'] at hd
    cases hd
    exact ⟨.inl rfl, .str _⟩
  stop := fun S H e => by
    show z.cps.size ≤ _
    simp
theorem lift_iP {ta : TE} {a : E3} (ha : Lift K c W ta a) : LiftI K c W (iP K ta) (iterP a) := by
  intro σ3 Q3 X h Hb G A σ H R' R k e
  refine ha _ _ _ h Hb G A σ H _ R (fun v d H1 L1 r q => ?_) e
  obtain ⟨xs, ex, q1⟩ := ob_iff.mp q
  cases d with
  | lst ys =>
    cases ex
    obtain ⟨p, vs, rfl, hp, rl⟩ := r.lstI
    exact .inl ⟨p, vs, rfl, SqL.of (hid_same _ _ hp), k _ _ H1 L1 (walks_list hp rl) q1⟩
  | tup ys =>
    cases ex
    obtain ⟨p, vs, rfl, hp, rl⟩ := r.tupI
    exact .inr (.inl ⟨p, vs, rfl, Same.sqT hid_same hp, k _ _ H1 L1 (walks_tup hp rl) q1⟩)
  | str z =>
    cases ex
    cases r.strI
    exact .inr (.inr ⟨z, rfl, k _ _ H1 L1 (walks_str z) q1⟩)
  | _ => cases ex
end
/-! ### calls by selection -/
def sel {α : Type} (is : List Nat) (xs : List α) : List α := is.filterMap fun i => xs[i]?
theorem vals_get : ∀ {vs : List V} {us : List Value} {i : Nat}, Vals vs us → (∃ v u, vs[i]? = some v ∧ us[i]? = some u ∧ RelV v u) ∨ (vs[i]? = none ∧ us[i]? = none)
  | _, _, _, .nil => .inr ⟨rfl, rfl⟩
  | _, _, 0, .cons r _ => .inl ⟨_, _, rfl, rfl, r⟩
  | _, _, i + 1, .cons _ q => by simpa using vals_get (i := i) q
theorem vals_sel : ∀ (is : List Nat) {vs : List V} {us : List Value}, Vals vs us → Vals (sel is vs) (sel is us)
  | [], _, _, _ => .nil
  | i :: is, vs, us, r => by
    unfold sel
    rw [List.filterMap_cons, List.filterMap_cons]
    rcases vals_get (i := i) r with ⟨v, u, e1, e2, q⟩ | ⟨e1, e2⟩
    · rw [e1, e2]
      exact .cons q (vals_sel is r)
    · rw [e1, e2]
      exact vals_sel is r
theorem repL_sel {K : PySem.W.Frag} {H : Hp} : ∀ (is : List Nat) {vs : List V} {ts : List T}, RepL K H vs ts → RepL K H (sel is vs) (sel is ts)
  | [], _, _, _ => .nil
  | i :: is, vs, ts, r => by
    unfold sel
    rw [List.filterMap_cons, List.filterMap_cons]
    cases e : ts[i]? with
    | some t =>
      obtain ⟨v, e1, q⟩ := r.get e
      rw [e1]
      exact .cons q (repL_sel is r)
    | none =>
      have : vs[i]? = none := by
        rw [List.getElem?_eq_none_iff] at e ⊢
        rw [r.length]; exact e
      rw [this]
      exact repL_sel is r
end M3

/-! L4B: defs of the text with defaults that are trees; how they are called; the law's lambda. -/
namespace M3
open PySem L2
/-- a def as it stands behind the top; its defaults are trees -/
structure DefAt (K : PySem.W.Frag) (mg : Str → Option Value) (x qual : Str) (st : Stmt) (dts : List T) (kns : List Str) (kts : List T) : Prop where
  ex : ∃ f fd dvs kvs, (∀ H, RepL K H dvs dts) ∧ (∀ H, RepL K H kvs kts) ∧ FunD K x qual (defArgs st) (defBody st) (defScope st) dvs (kns.zip kvs) f fd ∧ mg x = some (.ref f)
structure OkF (P : Program) (w : World) (K : PySem.W.Frag) (mg : Str → Option Value) (base : Heap) (CX : CXT) (x qual : Str) (st : Stmt) (dts : List T) (kns : List Str) (kts : List T) (lv : Nat) (ps : List Str) (sp : Sp) : Prop where
  ex : ∃ f fd dvs kvs, (∀ H, RepL K H dvs dts) ∧ (∀ H, RepL K H kvs kts) ∧ FunD K x qual (defArgs st) (defBody st) (defScope st) dvs (kns.zip kvs) f fd ∧ mg x = some (.ref f) ∧ FnOk P w K mg base CX lv f fd ps sp
/-- it may be called: the defaults behind the written arguments are the trees dts -/
structure ClT (P : Program) (w : World) (K : PySem.W.Frag) (mg : Str → Option Value) (base : Heap) (CX : CXT) (x : Str) (k : Nat) (dts : List T) (sp : Sp) : Prop where
  ex : ∃ dvs, (∀ H, RepL K H dvs dts) ∧ Cl P w K mg base CX x k dvs sp
/-- .. with keywords: the parameters are picked (is) from the positional values, the defaults mts, the keywords' values -/
structure ClNT (P : Program) (w : World) (K : PySem.W.Frag) (mg : Str → Option Value) (base : Heap) (CX : CXT) (x : Str) (k n : Nat) (ks : List Str) (is : List Nat) (mts : List T) (sp : Sp) : Prop where
  ex : ∃ mvs, (∀ H, RepL K H mvs mts) ∧ ClN P w K mg base CX x k n ks (fun vs zs => sel is (vs ++ (mvs ++ zs))) sp
section
variable {P : Program} {w : World} {K : PySem.W.Frag} {mg : Str → Option Value} {base : Heap} {CX : CXT} {x qual : Str} {st : Stmt} {dts kts : List T} {kns : List Str} {lv : Nat} {ps : List Str} {sp : Sp}
theorem RepL.len0 {H : Hp} {vs : List V} (r : RepL K H vs []) : vs = [] := by cases r; rfl
theorem RepL.ne {vs : List V} {ts : List T} (r : ∀ H, RepL K H vs ts) (h : ts ≠ []) : vs ≠ [] := fun e => by
  subst e
  have := (r (fun _ => none)).length
  cases ts with
  | nil => exact h rfl
  | cons => simp at this
theorem zip_ne {kns : List Str} {kvs : List V} {kts : List T} (r : ∀ H, RepL K H kvs kts) (h : kts ≠ []) (hl : kns.length = kts.length) : kns.zip kvs ≠ [] := by
  have l := (r (fun _ => none)).length
  cases kns with
  | nil => cases kts with
    | nil => exact fun _ => h rfl
    | cons => simp at hl
  | cons a kns => cases kvs with
    | nil => cases kts with
      | nil => exact fun _ => h rfl
      | cons => simp at l
    | cons => simp
theorem zip_fst {kns : List Str} {kvs : List V} (hl : kns.length = kvs.length) : (kns.zip kvs).map (·.1) = kns := by
  rw [List.map_fst_zip (by omega)]
theorem zip_snd {kns : List Str} {kvs : List V} (hl : kns.length = kvs.length) : (kns.zip kvs).map (·.2) = kvs := by
  rw [List.map_snd_zip (by omega)]
theorem OkF.fun_ (O : OkF P w K mg base CX x qual st [] [] [] lv ps sp) : ∃ f fd, Fun K x qual st f fd ∧ mg x = some (.ref f) ∧ FnOk P w K mg base CX lv f fd ps sp := by
  obtain ⟨f, fd, dvs, kvs, rd, rk, F, hm, O⟩ := O.ex
  have e := (rd (fun _ => none)).len0
  subst e
  obtain ⟨oc, od, dV, kV, doc, pm, an, cdv, ct, osl, e, lk, hcd, hD, hK⟩ := F.ex
  rcases hD with ⟨_, e2⟩ | ⟨z, _⟩
  · subst e2
    exact ⟨f, fd, ⟨⟨oc, od, kV, doc, pm, an, cdv, ct, osl, e, lk, hcd⟩, F.kp⟩, hm, O⟩
  · exact absurd rfl z
/-- every parameter is written -/
theorem OkF.cl (O : OkF P w K mg base CX x qual st [] kns kts lv ps sp) (h : ∀ (kV doc pm : Value) (an : Option Addr) (cdv ct : Value) (us : List Value), us.length = ps.length → bindArgs (PySem.W.fnOf x qual (defArgs st) (defBody st) (defScope st) .none kV doc pm an cdv ct) ⟨us, []⟩ = pure (ps.zip us)) :
    ClT P w K mg base CX x lv [] sp := by
  obtain ⟨f, fd, dvs, kvs, rd, rk, F, hm, O⟩ := O.ex
  have e := (rd (fun _ => none)).len0
  subst e
  exact ⟨[], fun _ => .nil, f, fd, ps, [], O, hm, F.kp, F.bindsN h, .nil⟩
/-- positional defaults fill up, no keyword-only ones -/
theorem OkF.cl1 (O : OkF P w K mg base CX x qual st dts [] [] lv ps sp) (n j : Nat) (hd : dts ≠ []) (hn : n + (dts.length - j) = ps.length)
    (h : ∀ (T : Addr) (kV doc pm : Value) (an : Option Addr) (cdv ct : Value) (us its : List Value), us.length = n → its.length = dts.length →
      ∃ k, bindArgs (PySem.W.fnOf x qual (defArgs st) (defBody st) (defScope st) (.ref T) kV doc pm an cdv ct) ⟨us, []⟩ = seqItems? (.ref T) >>= k ∧ k (some its.toArray) = pure (ps.zip (us ++ its.drop j))) : ClT P w K mg base CX x lv (dts.drop j) sp := by
  obtain ⟨f, fd, dvs, kvs, rd, rk, F, hm, O⟩ := O.ex
  have l := (rd (fun _ => none)).length
  obtain ⟨ds, v, b⟩ := F.binds1 (ps := ps) n j (RepL.ne rd hd) (by rw [l]; exact hn) (by rw [l]; exact h)
  exact ⟨dvs.drop j, fun H => (rd H).drop j, f, fd, ps, ds, O, hm, F.kp, b, v⟩
/-- keyword-only defaults fill up, no positional ones -/
theorem OkF.cl0 (O : OkF P w K mg base CX x qual st [] kns kts lv ps sp) (n : Nat) (hk : kts ≠ []) (hl : kns.length = kts.length) (hn : n + kns.length = ps.length)
    (h : ∀ (D : Addr) (doc pm : Value) (an : Option Addr) (cdv ct : Value) (us ks : List Value), us.length = n → ks.length = kns.length →
      KwChain D (kns.zip ks) (bindArgs (PySem.W.fnOf x qual (defArgs st) (defBody st) (defScope st) .none (.ref D) doc pm an cdv ct) ⟨us, []⟩) (ps.zip (us ++ ks))) : ClT P w K mg base CX x lv kts sp := by
  obtain ⟨f, fd, dvs, kvs, rd, rk, F, hm, O⟩ := O.ex
  have e := (rd (fun _ => none)).len0
  subst e
  have l : kns.length = kvs.length := hl.trans (rk (fun _ => none)).length.symm
  have lz : (kns.zip kvs).length = kns.length := by rw [List.length_zip]; omega
  obtain ⟨ds, v, b⟩ := F.binds0 (ps := ps) n (zip_ne rk hk hl) (by rw [lz]; exact hn) (by
    intro D doc pm an cdv ct us ks h1 h2
    rw [zip_fst l]
    exact h D doc pm an cdv ct us ks h1 (by rw [h2, lz]))
  rw [zip_snd l] at v
  exact ⟨kvs, rk, f, fd, ps, ds, O, hm, F.kp, b, v⟩
/-- keywords, no positional defaults; ms: the places of the keyword-only parameters that lack -/
theorem OkF.clN0 (O : OkF P w K mg base CX x qual st [] kns kts lv ps sp) (n : Nat) (ks : List Str) (ms is : List Nat) (hk : kts ≠ []) (hl : kns.length = kts.length) (hms : ∀ i ∈ ms, i < kns.length)
    (h : ∀ (D : Addr) (doc pm : Value) (an : Option Addr) (cdv ct : Value) (us mv ws : List Value), us.length = n → mv.length = ms.length → ws.length = ks.length →
      KwChain D ((sel ms kns).zip mv) (bindArgs (PySem.W.fnOf x qual (defArgs st) (defBody st) (defScope st) .none (.ref D) doc pm an cdv ct) ⟨us, ks.zip ws⟩) (ps.zip (sel is (us ++ (mv ++ ws))))) : ClNT P w K mg base CX x lv n ks is (sel ms kts) sp := by
  obtain ⟨f, fd, dvs, kvs, rd, rk, F, hm, O⟩ := O.ex
  have e := (rd (fun _ => none)).len0
  subst e
  have l : kns.length = kvs.length := hl.trans (rk (fun _ => none)).length.symm
  have len_sel : ∀ {α : Type} (ms : List Nat) (xs : List α), (∀ i ∈ ms, i < xs.length) → (sel ms xs).length = ms.length := by
    intro α ms xs hm
    induction ms with
    | nil => rfl
    | cons i ms ih =>
      unfold sel
      rw [List.filterMap_cons, List.getElem?_eq_getElem (hm i (List.mem_cons_self ..))]
      show (sel ms xs).length + 1 = _
      rw [ih fun j hj => hm j (List.mem_cons_of_mem _ hj)]
      rfl
  have zsel : ∀ ms : List Nat, (∀ i ∈ ms, i < kns.length) → (sel ms (kns.zip kvs)).map (·.1) = sel ms kns ∧ (sel ms (kns.zip kvs)).map (·.2) = sel ms kvs := by
    intro ms hm
    induction ms with
    | nil => exact ⟨rfl, rfl⟩
    | cons i ms ih =>
      obtain ⟨h1, h2⟩ := ih fun j hj => hm j (List.mem_cons_of_mem _ hj)
      have hi := hm i (List.mem_cons_self ..)
      have hi2 : i < kvs.length := by omega
      have e1 : kns[i]? = some kns[i] := List.getElem?_eq_getElem hi
      have e2 : kvs[i]? = some kvs[i] := List.getElem?_eq_getElem hi2
      have e3 : (kns.zip kvs)[i]? = some (kns[i], kvs[i]) := by rw [List.getElem?_zip_eq_some]; exact ⟨e1, e2⟩
      unfold sel
      rw [List.filterMap_cons, List.filterMap_cons, List.filterMap_cons, e1, e2, e3]
      exact ⟨by rw [List.map_cons]; exact congrArg _ h1, by rw [List.map_cons]; exact congrArg _ h2⟩
  obtain ⟨z1, z2⟩ := zsel ms hms
  have lz : (sel ms (kns.zip kvs)).length = ms.length := len_sel ms _ (fun i hi => by rw [List.length_zip]; have := hms i hi; omega)
  obtain ⟨mv, B⟩ := F.kbinds0 (ps := ps) n ks (sel ms (kns.zip kvs)) (fun us mv ws => sel is (us ++ (mv ++ ws))) (zip_ne rk hk hl) (fun q hq => by
      unfold sel at hq
      obtain ⟨i, _, e⟩ := List.mem_filterMap.mp hq
      exact List.mem_of_getElem? e) (fun a b c => vals_sel is (a.append (b.append c))) (by
      intro D doc pm an cdv ct us mv ws h1 h2 h3
      rw [z1]
      exact h D doc pm an cdv ct us mv ws h1 (by rw [h2, lz]) h3)
  rw [z2] at B
  exact ⟨sel ms kvs, fun H => repL_sel ms (rk H), f, fd, ps, _, O, hm, F.kp, B⟩
theorem fnOk_no {k : Nat} {f : Addr} {fd : FuncData} (h : ∀ vs H Q E, ¬ sp vs H Q E) : FnOk P w K mg base CX k f fd ps sp :=
  ⟨fun vs H Q E z => (h vs H Q E z).elim, fun A outer s H args us vs Q E _ _ _ _ z => (h vs H Q E z).elim⟩
/-- no fuel -/
def f0 : F3 := fun _ _ _ => False
theorem DefAt.no (D : DefAt K mg x qual st dts kns kts) (n : Nat) : OkF P w K mg base CX x qual st dts kns kts lv ps (sp3 K n f0) := by
  obtain ⟨f, fd, dvs, kvs, rd, rk, F, hm⟩ := D.ex
  exact ⟨f, fd, dvs, kvs, rd, rk, F, hm, fnOk_no fun vs H Q E z => by
    obtain ⟨_, _, _, _, _, _, _, z, _⟩ := z
    exact z⟩
theorem DefAt.noP (D : DefAt K mg x qual st dts kns kts) (n : Nat) : OkF P w K mg base CX x qual st dts kns kts lv ps (spP K n f0) := by
  obtain ⟨f, fd, dvs, kvs, rd, rk, F, hm⟩ := D.ex
  exact ⟨f, fd, dvs, kvs, rd, rk, F, hm, fnOk_no fun vs H Q E z => by
    obtain ⟨_, _, _, _, _, _, _, _, _, _, z, _⟩ := z
    exact z⟩
end
/-- an exception class of the text, without an own __init__ -/
structure ExcC (K : PySem.W.Frag) (mg : Str → Option Value) (x : Str) : Prop where
  x_ : PySem.W.excIn K ((csOf K mg).at_ x) [.type "ValueError", .type "Exception", .type "BaseException", .type "object"] "ValueError.__new__" = true
  g : mg x = some (.ref ((csOf K mg).at_ x))
  k : PySem.W.keepIn K (.ref ((csOf K mg).at_ x)) = true
  b : PySem.W.subIn K (.ref ((csOf K mg).at_ x)) (.type "BaseException") = some true
  t : PySem.W.typeIn K (.ref ((csOf K mg).at_ x)) = some (.type "type")
/-! ### the law's lambda: try: act() / except C: return (text,) .. / return (text,) -/
def whyX4 (em : Value → Value → Option Bool) (x : Xn) (Q : T → Prop) : List (Value × Str) → Prop
  | [] => False
  | (c, s) :: l => ob (em x.cls c) fun b => if b = true then Q (.tup [.str s]) else whyX4 em x Q l
def why4 (em : Value → Value → Option Bool) (l : List (Value × Str)) (s0 : Str) (t : E3) : E3 := fun σ Q _ => t σ (fun _ => Q (.tup [.str s0])) (fun x => whyX4 em x Q l)
theorem whyX4_eq {K : PySem.W.Frag} {x : Xn} {Q : T → Prop} : ∀ l, whyX4 (PySem.W.exmOne K) x Q l = whyX K x Q l
  | [] => rfl
  | (c, s) :: l => by
    unfold whyX4 whyX
    rw [whyX4_eq l]
theorem lift_lam4 {K : PySem.W.Frag} {p cc : Addr} {P : Addr × Str} {Ts : List (Addr × Str)} {W : WX} {l : List (Value × Str)} {s0 : Str} {t : XK → TE} {t3 : E3} (ht : ∀ E : XK, Lift K (potT p cc (P :: Ts)) (fun cls d _ H => E cls d H) (t E) t3) :
    Lift K (potT p cc (P :: Ts)) W (LamX.tLam (P :: Ts) (TTwhy K l s0) t) (why4 (PySem.W.exmOne K) l s0 t3) := by
  have e : why4 (PySem.W.exmOne K) l s0 t3 = why3 K l s0 t3 := by
    unfold why4 why3
    funext σ Q X
    congr 1
    funext x
    exact whyX4_eq l
  rw [e]
  exact lift_lam ht
/-- the law's promise, its table of codes empty -/
def spLawT (K : PySem.W.Frag) (PL : Addr) : Sp := fun vs H Q _ => ∃ (a : Addr) (ns : List Int), vs = [.ref a] ∧ SqL K H a (ns.map V.int) ∧ H PL = some (.tbl #[]) ∧ ∀ H', Q (.bl true) H'
def no3 : G3 (Option Int) := fun _ Q _ => Q none
theorem ifs_by {t : B3} {x y : S3} {N : N3} {σ : List Sl} (b : Bool) (ht : ∀ Q X, Q b → t σ Q X) (h : if b = true then x N σ else y N σ) : ifs3 t x y N σ := ht _ _ h
theorem for_by {s : A3} {g : TG3} {tb : S3} {N : N3} {σ : List Sl} (P : List T → Prop) (hs : ∀ Q X, (∀ ds, P ds → Q ds) → s σ Q X) (k : ∀ ds, P ds → loop3 g tb N ds σ) : for3 s g tb N σ := hs _ _ k
end M3
namespace M3
open PySem L2
/-! ### what the top wrote -/
def TreeAt (K : PySem.W.Frag) (t : T) (u : Value) : Prop := ∃ v, RelV v u ∧ ∀ H, Rep K H v t
theorem treeAt_int {K : PySem.W.Frag} {i : Int} {t : Tok} : TreeAt K (.int i) (.int i t) := ⟨.int i, ⟨t, rfl⟩, fun _ => .int i⟩
theorem treeAt_str {K : PySem.W.Frag} {i : Str} {t : Tok} : TreeAt K (.str i) (.str i t) := ⟨.str i, ⟨t, rfl⟩, fun _ => .str i⟩
theorem treeAt_bl {K : PySem.W.Frag} {b : Bool} : TreeAt K (.bl b) (.bool b) := ⟨.bl b, rfl, fun _ => .bl b⟩
theorem treeAt_non {K : PySem.W.Frag} : TreeAt K .non .none := ⟨.non, rfl, fun _ => .non⟩
inductive TreesAt (K : PySem.W.Frag) : List T → List Value → Prop where
  | nil : TreesAt K [] []
  | cons {t : T} {u : Value} {ts : List T} {us : List Value} : TreeAt K t u → TreesAt K ts us → TreesAt K (t :: ts) (u :: us)
theorem TreesAt.vals {K : PySem.W.Frag} : ∀ {ts : List T} {us : List Value}, TreesAt K ts us → ∃ vs, Vals vs us ∧ ∀ H, RepL K H vs ts
  | _, _, .nil => ⟨[], .nil, fun _ => .nil⟩
  | _, _, .cons ⟨v, h1, h2⟩ q => by
    obtain ⟨vs, q1, q2⟩ := TreesAt.vals q
    exact ⟨v :: vs, .cons h1 q1, fun H => .cons (h2 H) (q2 H)⟩
theorem treeAt_tup {K : PySem.W.Frag} {ts : List T} {us : List Value} {a : Addr} {o : Obj} {its : Array Value} {n : Nat} (h : K.lookup a = some o) (hc : o.cls = .type "tuple") (hd : o.data = .seq its n) (hs : its.size ≤ sizeLine) (he : its.toList = us) (r : TreesAt K ts us) : TreeAt K (.tup ts) (.ref a) := by
  obtain ⟨vs, q1, q2⟩ := r.vals
  subst he
  exact ⟨.ref a, rfl, fun H => .mkT (.inr ⟨o, its, n, h, hc, hd, hs, q1⟩) (q2 H)⟩
theorem exm_mk {K : PySem.W.Frag} {cls : Value} {C : Addr} {b : Bool} (hb : PySem.W.subIn K (.ref C) (.type "BaseException") = some true) (hi : PySem.W.isClsIn K C = true) (ht : PySem.W.typeIn K (.ref C) = some (.type "type")) (hs : PySem.W.subIn K cls (.ref C) = some b) : PySem.W.exmOne K cls (.ref C) = some b := by
  have h1 : (PySem.W.subIn K (.ref C) (.type "BaseException") == some true) = true := by rw [hb]; rfl
  have h2 : ((PySem.W.clsIn K C).isSome && PySem.W.typeIn K (.ref C) == some (.type "type")) = true := by
    have hi' : (PySem.W.clsIn K C).isSome = true := hi
    rw [hi', ht]
    rfl
  show (if (PySem.W.subIn K (.ref C) (.type "BaseException") == some true) = true then PySem.W.kitCls K cls (.ref C) else none) = some b
  rw [if_pos h1]
  show (if ((PySem.W.clsIn K C).isSome && PySem.W.typeIn K (.ref C) == some (.type "type")) = true then PySem.W.subIn K cls (.ref C) else none) = some b
  rw [if_pos h2, hs]
theorem no_of_type {K : PySem.W.Frag} {a : Addr} (h : PySem.W.typeIn K (.ref a) = none) : K.lookup a = none := by
  have h : (K.lookup a).map (·.cls) = none := h
  cases e : K.lookup a with
  | none => rfl
  | some o => rw [e] at h; cases h
theorem defAt_mk {K : PySem.W.Frag} {mg : Str → Option Value} {x qual : Str} {st : Stmt} {dts kts : List T} {kns : List Str} {f : Addr} {oc dV kV doc pm cdv ct : Value} {od an : Option Addr} {osl : Array (Option Value)} (hm : mg x = some (.ref f))
    (l : K.lookup f = some ⟨oc, od, .func (PySem.W.fnOf x qual (defArgs st) (defBody st) (defScope st) dV kV doc pm an cdv ct), osl⟩) (c : PySem.W.codeIn K cdv qual = true) (k : PySem.W.keepIn K (.ref f) = true)
    (hd : (dts = [] ∧ dV = .none) ∨ (dts ≠ [] ∧ ∃ (Ta : Addr) (o : Obj) (its : List Value) (n : Nat), dV = .ref Ta ∧ K.lookup Ta = some o ∧ o.data = .seq its.toArray n ∧ TreesAt K dts its))
    (hk : (kns = [] ∧ kts = []) ∨ ∃ (D : Addr) (us : List Value), kV = .ref D ∧ TreesAt K kts us ∧ kns.length = us.length ∧ ∀ q ∈ kns.zip us, PySem.W.nsIn K D q.1 = some (some q.2)) : DefAt K mg x qual st dts kns kts := by
  obtain ⟨dvs, h1, h2⟩ : ∃ dvs, (∀ H, RepL K H dvs dts) ∧ DflV K dV dvs := by
    rcases hd with ⟨rfl, rfl⟩ | ⟨hn, Ta, o, its, n, rfl, a1, a2, a3⟩
    · exact ⟨[], fun _ => .nil, .inl ⟨rfl, rfl⟩⟩
    · obtain ⟨vs, q1, q2⟩ := a3.vals
      exact ⟨vs, q2, .inr ⟨RepL.ne q2 hn, Ta, o, its, n, rfl, a1, a2, q1⟩⟩
  obtain ⟨kvs, h3, h4⟩ : ∃ kvs, (∀ H, RepL K H kvs kts) ∧ KwdV K kV (kns.zip kvs) := by
    rcases hk with ⟨rfl, rfl⟩ | ⟨D, us, rfl, a1, a2, a3⟩
    · exact ⟨[], fun _ => .nil, .inl rfl⟩
    · obtain ⟨vs, q1, q2⟩ := a1.vals
      refine ⟨vs, q2, .inr ⟨D, rfl, fun q hq => ?_⟩⟩
      obtain ⟨i, hi⟩ := List.getElem?_of_mem hq
      obtain ⟨i1, i2⟩ := List.getElem?_zip_eq_some.mp hi
      rcases vals_get (i := i) q1 with ⟨v, u, e1, e2, r⟩ | ⟨e1, _⟩
      · rw [i2] at e1
        cases e1
        refine ⟨u, a3 (q.1, u) (List.mem_of_getElem? (List.getElem?_zip_eq_some.mpr ⟨i1, e2⟩)), r⟩
      · rw [i2] at e1; cases e1
  exact ⟨f, _, dvs, kvs, h1, h3, ⟨⟨oc, od, dV, kV, doc, pm, an, cdv, ct, osl, rfl, l, c, h2, h4⟩, k⟩, hm⟩
end M3

namespace Law
open PySem L2 M3
def whyT (C : Cs) : List (Value × Str) := [(.ref (C.at_ "TooGreat"), "TooGreat"), (.ref (C.at_ "PourError"), "PourError")]
structure CsOk (C : Cs) : Prop where
  e_TooGreat_TooGreat : C.em (.ref (C.at_ "TooGreat")) (.ref (C.at_ "TooGreat")) = some true
  e_TooGreat_PourError : C.em (.ref (C.at_ "TooGreat")) (.ref (C.at_ "PourError")) = some true
def need_numberB (C : Cs) : S3 := (seq3 (ifs3 (not3 (tst3 (chain3 le3 le3 (un3 neg3 (v3 1)) (v3 0) (v3 1)))) (raise3 (.ref (C.at_ "TooGreat"))) next3) (ret3 (v3 0)))
def need_numberD (C : Cs) : F3 := fun ds Q X => need_numberB C { nx := fun _ => Q .non, rt := Q, xn := fun _ => X } (start3 2 ds)
theorem need_number_ex (C : Cs) : ∃ f : F3, f = need_numberD C := ⟨_, rfl⟩
noncomputable def need_number (C : Cs) : F3 := Classical.choose (need_number_ex C)
theorem need_number_def (C : Cs) : need_number C = need_numberD C := Classical.choose_spec (need_number_ex C)
def plusB (C : Cs) : S3 := (seq3 (ifs3 (or3 (tst3 (op3 isN3 (v3 0) (k3 .non))) (tst3 (op3 isN3 (v3 1) (k3 .non)))) (ret3 (k3 .non)) next3) (ret3 (fn3 2 (need_number C) (cons3 (op3 addP (v3 0) (v3 1)) (cons3 (v3 2) nil3)) [])))
def plusD (C : Cs) : F3 := fun ds Q X => plusB C { nx := fun _ => Q .non, rt := Q, xn := fun _ => X } (start3 3 ds)
theorem plus_ex (C : Cs) : ∃ f : F3, f = plusD C := ⟨_, rfl⟩
noncomputable def plus (C : Cs) : F3 := Classical.choose (plus_ex C)
theorem plus_def (C : Cs) : plus C = plusD C := Classical.choose_spec (plus_ex C)
def minusB (C : Cs) : S3 := (seq3 (ifs3 (or3 (tst3 (op3 isN3 (v3 0) (k3 .non))) (tst3 (op3 isN3 (v3 1) (k3 .non)))) (ret3 (k3 .non)) next3) (ret3 (fn3 2 (need_number C) (cons3 (op3 sub3 (v3 0) (v3 1)) (cons3 (v3 2) nil3)) [])))
def minusD (C : Cs) : F3 := fun ds Q X => minusB C { nx := fun _ => Q .non, rt := Q, xn := fun _ => X } (start3 3 ds)
theorem minus_ex (C : Cs) : ∃ f : F3, f = minusD C := ⟨_, rfl⟩
noncomputable def minus (C : Cs) : F3 := Classical.choose (minus_ex C)
theorem minus_def (C : Cs) : minus C = minusD C := Classical.choose_spec (minus_ex C)
def timesB (C : Cs) : S3 := (seq3 (ifs3 (or3 (tst3 (op3 isN3 (v3 0) (k3 .non))) (tst3 (op3 isN3 (v3 1) (k3 .non)))) (ret3 (k3 .non)) next3) (ret3 (fn3 2 (need_number C) (cons3 (op3 mulP (v3 0) (v3 1)) (cons3 (v3 2) nil3)) [])))
def timesD (C : Cs) : F3 := fun ds Q X => timesB C { nx := fun _ => Q .non, rt := Q, xn := fun _ => X } (start3 3 ds)
theorem times_ex (C : Cs) : ∃ f : F3, f = timesD C := ⟨_, rfl⟩
noncomputable def times (C : Cs) : F3 := Classical.choose (times_ex C)
theorem times_def (C : Cs) : times C = timesD C := Classical.choose_spec (times_ex C)
def leastB (C : Cs) : S3 := (ret3 (if3 (or3 (tst3 (op3 isN3 (v3 0) (k3 .non))) (tst3 (op3 isN3 (v3 1) (k3 .non)))) (k3 .non) (call3 min23 (cons3 (v3 0) (cons3 (v3 1) nil3)))))
def leastD (C : Cs) : F3 := fun ds Q X => leastB C { nx := fun _ => Q .non, rt := Q, xn := fun _ => X } (start3 2 ds)
theorem least_ex (C : Cs) : ∃ f : F3, f = leastD C := ⟨_, rfl⟩
noncomputable def least (C : Cs) : F3 := Classical.choose (least_ex C)
theorem least_def (C : Cs) : least C = leastD C := Classical.choose_spec (least_ex C)
def most_ofB (C : Cs) : S3 := (ret3 (if3 (or3 (tst3 (op3 isN3 (v3 0) (k3 .non))) (tst3 (op3 isN3 (v3 1) (k3 .non)))) (k3 .non) (call3 max23 (cons3 (v3 0) (cons3 (v3 1) nil3)))))
def most_ofD (C : Cs) : F3 := fun ds Q X => most_ofB C { nx := fun _ => Q .non, rt := Q, xn := fun _ => X } (start3 2 ds)
theorem most_of_ex (C : Cs) : ∃ f : F3, f = most_ofD C := ⟨_, rfl⟩
noncomputable def most_of (C : Cs) : F3 := Classical.choose (most_of_ex C)
theorem most_of_def (C : Cs) : most_of C = most_ofD C := Classical.choose_spec (most_of_ex C)
def LsameB (C : Cs) (r_Lsame : F3) : S3 := (seq3 (ifs3 (tst3 (op3 isN3 (v3 1) (k3 .non))) (ret3 (op3 isN3 (v3 0) (k3 .non))) next3) (seq3 (ifs3 (tst3 (call3 isi3 (cons3 (v3 1) (cons3 (k3 (.ty "bool")) nil3)))) (ret3 (andV3 (call3 isi3 (cons3 (v3 0) (cons3 (k3 (.ty "bool")) nil3))) (op3 eqP (v3 0) (v3 1)))) next3) (seq3 (ifs3 (tst3 (call3 isi3 (cons3 (v3 1) (cons3 (k3 (.ty "int")) nil3)))) (ret3 (andV3 (call3 isi3 (cons3 (v3 0) (cons3 (k3 (.ty "int")) nil3))) (andV3 (notV3 (call3 isi3 (cons3 (v3 0) (cons3 (k3 (.ty "bool")) nil3)))) (op3 eqP (v3 0) (v3 1))))) next3) (seq3 (ifs3 (tst3 (call3 isi3 (cons3 (v3 1) (cons3 (k3 (.ty "str")) nil3)))) (ret3 (andV3 (call3 isi3 (cons3 (v3 0) (cons3 (k3 (.ty "str")) nil3))) (op3 eqP (v3 0) (v3 1)))) next3) (seq3 (ifs3 (tst3 (call3 isi3 (cons3 (v3 1) (cons3 (k3 (.ty "list")) nil3)))) (ifs3 (or3 (not3 (tst3 (call3 isi3 (cons3 (v3 0) (cons3 (k3 (.ty "list")) nil3))))) (tst3 (op3 neP (call3 len3 (cons3 (v3 0) nil3)) (call3 len3 (cons3 (v3 1) nil3))))) (ret3 (k3 (.bl false))) next3) (ifs3 (or3 (not3 (tst3 (call3 isi3 (cons3 (v3 0) (cons3 (k3 (.ty "tuple")) nil3))))) (tst3 (op3 neP (call3 len3 (cons3 (v3 0) nil3)) (call3 len3 (cons3 (v3 1) nil3))))) (ret3 (k3 (.bl false))) next3)) (ret3 (call3 all3 (cons3 (lc3 (iterZ3 (cons3 (v3 0) (cons3 (v3 1) nil3))) (gtup3 2 (gcons3 (name3 2) (gcons3 (name3 3) gnil3))) yes3 (fn30 2 r_Lsame (cons3 (v3 2) (cons3 (v3 3) nil3)) []) [2, 3]) nil3))))))))
def Lsame_ (C : Cs) : Nat → F3
  | 0 => f0
  | n + 1 => (fun ds Q X => LsameB C (Lsame_ C n) { nx := fun _ => Q .non, rt := Q, xn := fun _ => X } (start3 4 ds))
theorem Lsame_ex (C : Cs) (n : Nat) : ∃ f : F3, f = Lsame_ C n := ⟨_, rfl⟩
noncomputable def Lsame (C : Cs) (n : Nat) : F3 := Classical.choose (Lsame_ex C n)
theorem Lsame_def (C : Cs) (n : Nat) : Lsame C n = Lsame_ C n := Classical.choose_spec (Lsame_ex C n)
theorem Lsame_zero (C : Cs) : Lsame C 0 = f0 := by rw [Lsame_def]; rfl
theorem Lsame_succ (C : Cs) (n : Nat) : Lsame C (n + 1) = fun ds Q X => LsameB C (Lsame C n) { nx := fun _ => Q .non, rt := Q, xn := fun _ => X } (start3 4 ds) := by
  rw [Lsame_def, Lsame_def]
  rfl
def LcellB (C : Cs) (p : Addr) : S3 := (seq3 (asg3 (fnP30 p 2 take3 (cons3 (v3 0) (cons3 (k3 (.int 16)) nil3)) []) (name3 1)) (seq3 (ifs3 (tst3 (op3 lt3 (v3 1) (k3 (.int 2)))) (ret3 (k3 .non)) next3) (seq3 (ifs3 (tst3 (op3 lt3 (v3 1) (k3 (.int 15)))) (ret3 (if3 (tst3 (op3 lt3 (v3 1) (k3 (.int 13)))) (op3 sub3 (fnP30 p 2 take3 (cons3 (v3 0) (cons3 (k3 (.int 5)) nil3)) []) (k3 (.int 1))) (op3 sub3 (fnP30 p 2 take3 (cons3 (v3 0) (cons3 (k3 (.int 41)) nil3)) []) (k3 (.int 20))))) next3) (seq3 (asg3 (op3 sub3 (op3 pow3 (k3 (.int 10)) (k3 (.int 30))) (k3 (.int 1))) (name3 2)) (ret3 (op3 ixP (lst3 (cons3 (v3 2) (cons3 (un3 neg3 (v3 2)) (cons3 (op3 addP (op3 pow3 (k3 (.int 10)) (k3 (.int 15))) (fnP30 p 2 take3 (cons3 (v3 0) (cons3 (op3 pow3 (k3 (.int 10)) (k3 (.int 9))) nil3)) [])) (cons3 (fnP30 p 2 take3 (cons3 (v3 0) (cons3 (op3 addP (v3 2) (k3 (.int 1))) nil3)) []) nil3))))) (fnP30 p 2 take3 (cons3 (v3 0) (cons3 (k3 (.int 4)) nil3)) [])))))))
def LcellD (C : Cs) : F3 := fun ds Q X => match ds with | .ref p :: r => LcellB C p { nx := fun _ => Q .non, rt := Q, xn := fun _ => X } (start3 3 (.ref p :: r)) | _ => False
theorem Lcell_ex (C : Cs) : ∃ f : F3, f = LcellD C := ⟨_, rfl⟩
noncomputable def Lcell (C : Cs) : F3 := Classical.choose (Lcell_ex C)
theorem Lcell_def (C : Cs) : Lcell C = LcellD C := Classical.choose_spec (Lcell_ex C)
def LactedB (C : Cs) : S3 := (seq3 (ifs3 (tst3 (op3 eqP (v3 0) (k3 (.int 0)))) (ret3 (fnN3 3 (plus C) (fun ds es => sel [0, 1, 2] (ds ++ ([] ++ es))) 2 1 (cons3 (v3 1) (cons3 (v3 2) nil3)) (cons3 (v3 3) nil3))) next3) (seq3 (ifs3 (tst3 (op3 eqP (v3 0) (k3 (.int 1)))) (ret3 (fnN3 3 (minus C) (fun ds es => sel [0, 1, 2] (ds ++ ([] ++ es))) 2 1 (cons3 (v3 1) (cons3 (v3 2) nil3)) (cons3 (v3 3) nil3))) next3) (ret3 (fnN3 3 (times C) (fun ds es => sel [0, 1, 2] (ds ++ ([] ++ es))) 2 1 (cons3 (v3 1) (cons3 (v3 2) nil3)) (cons3 (v3 3) nil3)))))
def LactedD (C : Cs) : F3 := fun ds Q X => LactedB C { nx := fun _ => Q .non, rt := Q, xn := fun _ => X } (start3 4 ds)
theorem Lacted_ex (C : Cs) : ∃ f : F3, f = LactedD C := ⟨_, rfl⟩
noncomputable def Lacted (C : Cs) : F3 := Classical.choose (Lacted_ex C)
theorem Lacted_def (C : Cs) : Lacted C = LactedD C := Classical.choose_spec (Lacted_ex C)
def Lacted_plainlyB (C : Cs) : S3 := (seq3 (ifs3 (tst3 (op3 eqP (v3 0) (k3 (.int 0)))) (ret3 (fn3 3 (plus C) (cons3 (v3 1) (cons3 (v3 2) nil3)) [(.int 999999999999999999999999999999)])) next3) (ret3 (if3 (tst3 (op3 eqP (v3 0) (k3 (.int 1)))) (fn3 3 (minus C) (cons3 (v3 1) (cons3 (v3 2) nil3)) [(.int 999999999999999999999999999999)]) (fn3 3 (times C) (cons3 (v3 1) (cons3 (v3 2) nil3)) [(.int 999999999999999999999999999999)]))))
def Lacted_plainlyD (C : Cs) : F3 := fun ds Q X => Lacted_plainlyB C { nx := fun _ => Q .non, rt := Q, xn := fun _ => X } (start3 3 ds)
theorem Lacted_plainly_ex (C : Cs) : ∃ f : F3, f = Lacted_plainlyD C := ⟨_, rfl⟩
noncomputable def Lacted_plainly (C : Cs) : F3 := Classical.choose (Lacted_plainly_ex C)
theorem Lacted_plainly_def (C : Cs) : Lacted_plainly C = Lacted_plainlyD C := Classical.choose_spec (Lacted_plainly_ex C)
def law_1b_1 (C : Cs) (p : Addr) : S3 := (asg3 (fnP30 p 1 (Lcell C) (cons3 (v3 1) nil3) []) (name3 3))
def law_1b_2 (C : Cs) (p : Addr) : S3 := (asg3 (fnP30 p 1 (Lcell C) (cons3 (v3 1) nil3) []) (name3 4))
def law_1b_3t_1 (C : Cs) (p : Addr) : S3 := (asg3 (lst3 (cons3 (fn30 3 (plus C) (cons3 (v3 3) (cons3 (v3 4) nil3)) [(.int 999999999999999999999999999999)]) (cons3 (fn30 3 (minus C) (cons3 (v3 3) (cons3 (v3 4) nil3)) [(.int 999999999999999999999999999999)]) (cons3 (fn30 3 (times C) (cons3 (v3 3) (cons3 (v3 4) nil3)) [(.int 999999999999999999999999999999)]) (cons3 (fn30 2 (least C) (cons3 (v3 3) (cons3 (v3 4) nil3)) []) (cons3 (fn30 2 (most_of C) (cons3 (v3 3) (cons3 (v3 4) nil3)) []) nil3)))))) (name3 5))
def law_1b_3t_2t_1 (C : Cs) (p : Addr) : S3 := (ret3 (k3 (.bl false)))
def law_1b_3t_2 (C : Cs) (p : Addr) : S3 := (ifs3 (not3 (tst3 (fn30 2 (Lsame C 12) (cons3 (v3 5) (cons3 (op3 mulP (lst3 (cons3 (k3 .non) nil3)) (k3 (.int 5))) nil3)) []))) (law_1b_3t_2t_1 C p) next3)
def law_1b_3e_1 (C : Cs) (p : Addr) : S3 := (asg3 (if3 (tst3 (op3 lt3 (v3 3) (v3 4))) (v3 3) (v3 4)) (name3 6))
def law_1b_3e_2t_1 (C : Cs) (p : Addr) : S3 := (ret3 (k3 (.bl false)))
def law_1b_3e_2 (C : Cs) (p : Addr) : S3 := (ifs3 (not3 (tst3 (fn30 2 (Lsame C 12) (cons3 (lst3 (cons3 (fn30 2 (least C) (cons3 (v3 3) (cons3 (v3 4) nil3)) []) (cons3 (fn30 2 (most_of C) (cons3 (v3 3) (cons3 (v3 4) nil3)) []) nil3))) (cons3 (lst3 (cons3 (v3 6) (cons3 (op3 sub3 (op3 addP (v3 3) (v3 4)) (v3 6)) nil3))) nil3)) []))) (law_1b_3e_2t_1 C p) next3)
def law_1b_3e_3b_1 (C : Cs) (p : Addr) : S3 := (asg3 (op3 ixP (lst3 (cons3 (op3 addP (v3 3) (v3 4)) (cons3 (op3 sub3 (v3 3) (v3 4)) (cons3 (op3 mulP (v3 3) (v3 4)) nil3)))) (v3 7)) (name3 8))
def law_1b_3e_3b_2b_1 (C : Cs) (p : Addr) : S3 := (asg3 (if3 (tst3 (op3 le3 (call3 abs3 (cons3 (v3 8) nil3)) (v3 9))) (tup3 (cons3 (k3 (.str "none")) nil3)) (tup3 (cons3 (k3 (.str "TooGreat")) nil3))) (name3 10))
def law_1b_3e_3b_2b_2t_1 (C : Cs) (p : Addr) : S3 := (ret3 (k3 (.bl false)))
def law_1b_3e_3b_2b_2 (C : Cs) (p : Addr) : S3 := (ifs3 (not3 (tst3 (fn30 2 (Lsame C 12) (cons3 (why4 C.em (whyT C) "none" (fn3 4 (Lacted C) (cons3 (v3 7) (cons3 (v3 3) (cons3 (v3 4) (cons3 (v3 9) nil3)))) [])) (cons3 (v3 10) nil3)) []))) (law_1b_3e_3b_2b_2t_1 C p) next3)
def law_1b_3e_3b_2b_3t_1 (C : Cs) (p : Addr) : S3 := (ret3 (k3 (.bl false)))
def law_1b_3e_3b_2b_3 (C : Cs) (p : Addr) : S3 := (ifs3 (and3 (tst3 (op3 eqP (v3 10) (tup3 (cons3 (k3 (.str "none")) nil3)))) (not3 (tst3 (fn30 2 (Lsame C 12) (cons3 (fn30 4 (Lacted C) (cons3 (v3 7) (cons3 (v3 3) (cons3 (v3 4) (cons3 (v3 9) nil3)))) []) (cons3 (v3 8) nil3)) [])))) (law_1b_3e_3b_2b_3t_1 C p) next3)
def law_1b_3e_3b_2b (C : Cs) (p : Addr) : S3 := (seq3 (law_1b_3e_3b_2b_1 C p) (seq3 (law_1b_3e_3b_2b_2 C p) (law_1b_3e_3b_2b_3 C p)))
def law_1b_3e_3b_2 (C : Cs) (p : Addr) : S3 := (for3 (iterP (lst3 (cons3 (call3 abs3 (cons3 (v3 8) nil3)) (cons3 (op3 addP (op3 addP (call3 abs3 (cons3 (v3 8) nil3)) (k3 (.int 1))) (fnP30 p 2 take3 (cons3 (v3 1) (cons3 (k3 (.int 9)) nil3)) [])) (cons3 (call3 max23 (cons3 (k3 (.int 0)) (cons3 (op3 sub3 (call3 abs3 (cons3 (v3 8) nil3)) (k3 (.int 1))) nil3))) nil3))))) (name3 9) (law_1b_3e_3b_2b C p))
def law_1b_3e_3b_3 (C : Cs) (p : Addr) : S3 := (asg3 (if3 (tst3 (op3 lt3 (call3 abs3 (cons3 (v3 8) nil3)) (op3 pow3 (k3 (.int 10)) (k3 (.int 30))))) (tup3 (cons3 (k3 (.str "none")) nil3)) (tup3 (cons3 (k3 (.str "TooGreat")) nil3))) (name3 10))
def law_1b_3e_3b_4t_1 (C : Cs) (p : Addr) : S3 := (ret3 (k3 (.bl false)))
def law_1b_3e_3b_4 (C : Cs) (p : Addr) : S3 := (ifs3 (not3 (tst3 (fn30 2 (Lsame C 12) (cons3 (why4 C.em (whyT C) "none" (fn3 3 (Lacted_plainly C) (cons3 (v3 7) (cons3 (v3 3) (cons3 (v3 4) nil3))) [])) (cons3 (v3 10) nil3)) []))) (law_1b_3e_3b_4t_1 C p) next3)
def law_1b_3e_3b_5t_1 (C : Cs) (p : Addr) : S3 := (ret3 (k3 (.bl false)))
def law_1b_3e_3b_5 (C : Cs) (p : Addr) : S3 := (ifs3 (and3 (tst3 (op3 eqP (v3 10) (tup3 (cons3 (k3 (.str "none")) nil3)))) (not3 (tst3 (fn30 2 (Lsame C 12) (cons3 (fn30 3 (Lacted_plainly C) (cons3 (v3 7) (cons3 (v3 3) (cons3 (v3 4) nil3))) []) (cons3 (v3 8) nil3)) [])))) (law_1b_3e_3b_5t_1 C p) next3)
def law_1b_3e_3b (C : Cs) (p : Addr) : S3 := (seq3 (law_1b_3e_3b_1 C p) (seq3 (law_1b_3e_3b_2 C p) (seq3 (law_1b_3e_3b_3 C p) (seq3 (law_1b_3e_3b_4 C p) (law_1b_3e_3b_5 C p)))))
def law_1b_3e_3 (C : Cs) (p : Addr) : S3 := (for3 (iterR3 (cons3 (k3 (.int 3)) nil3)) (name3 7) (law_1b_3e_3b C p))
def law_1b_3 (C : Cs) (p : Addr) : S3 := (ifs3 (or3 (tst3 (op3 isN3 (v3 3) (k3 .non))) (tst3 (op3 isN3 (v3 4) (k3 .non)))) (seq3 (law_1b_3t_1 C p) (law_1b_3t_2 C p)) (seq3 (law_1b_3e_1 C p) (seq3 (law_1b_3e_2 C p) (law_1b_3e_3 C p))))
def law_1b (C : Cs) (p : Addr) : S3 := (seq3 (law_1b_1 C p) (seq3 (law_1b_2 C p) (law_1b_3 C p)))
def law_1 (C : Cs) (p : Addr) : S3 := (for3 (iterR3 (cons3 (k3 (.int 5)) nil3)) (name3 2) (law_1b C p))
def law_2 (C : Cs) (p : Addr) : S3 := (ret3 (andV3 (op3 eqP (fn30 3 (plus C) (cons3 (k3 (.int 999999999999999999999999999999)) (cons3 (k3 (.int 0)) nil3)) [(.int 999999999999999999999999999999)]) (k3 (.int 999999999999999999999999999999))) (op3 isN3 (fn30 3 (times C) (cons3 (k3 .non) (cons3 (k3 (.int 999999999999999999999999999999)) nil3)) [(.int 999999999999999999999999999999)]) (k3 .non))))
def lawB (C : Cs) (p : Addr) : S3 := (seq3 (law_1 C p) (law_2 C p))
/-- what is left: the law, over trees -/
def Plain (C : Cs) : Prop := ∀ p : Addr, lawB C p { nx := fun _ => False, rt := fun d => d = .bl true } (Sl.no :: Sl.val (.ref p) :: List.replicate 9 Sl.no)
end Law

namespace Law
open PySem L2 M3
def top (i : Nat) : Stmt := PySem.Challenge.pw_onepour_k02_sums_of_cells.main.body.getD i (.Pass ⟨0, 0, 0, 0⟩)
abbrev s_need_number : Stmt := top 6
abbrev N_need_number : List Str := ["number", "most"]
theorem sc_need_number : FnScope N_need_number ["number", "most"] (defScope s_need_number) := ⟨rfl, rfl, rfl, by decide +kernel, rfl, by decide +kernel, by decide +kernel⟩
abbrev s_plus : Stmt := top 7
abbrev N_plus : List Str := ["one", "other", "most"]
theorem sc_plus : FnScope N_plus ["one", "other", "most"] (defScope s_plus) := ⟨rfl, rfl, rfl, by decide +kernel, rfl, by decide +kernel, by decide +kernel⟩
abbrev s_minus : Stmt := top 8
abbrev N_minus : List Str := ["one", "other", "most"]
theorem sc_minus : FnScope N_minus ["one", "other", "most"] (defScope s_minus) := ⟨rfl, rfl, rfl, by decide +kernel, rfl, by decide +kernel, by decide +kernel⟩
abbrev s_times : Stmt := top 9
abbrev N_times : List Str := ["one", "other", "most"]
theorem sc_times : FnScope N_times ["one", "other", "most"] (defScope s_times) := ⟨rfl, rfl, rfl, by decide +kernel, rfl, by decide +kernel, by decide +kernel⟩
abbrev s_least : Stmt := top 10
abbrev N_least : List Str := ["one", "other"]
theorem sc_least : FnScope N_least ["one", "other"] (defScope s_least) := ⟨rfl, rfl, rfl, by decide +kernel, rfl, by decide +kernel, by decide +kernel⟩
abbrev s_most_of : Stmt := top 11
abbrev N_most_of : List Str := ["one", "other"]
theorem sc_most_of : FnScope N_most_of ["one", "other"] (defScope s_most_of) := ⟨rfl, rfl, rfl, by decide +kernel, rfl, by decide +kernel, by decide +kernel⟩
abbrev s_Lsame : Stmt := top 15
abbrev N_Lsame : List Str := ["_law_found", "_law_due", "_law_one", "_law_other"]
theorem sc_Lsame : FnScope N_Lsame ["_law_found", "_law_due"] (defScope s_Lsame) := ⟨rfl, rfl, rfl, by decide +kernel, rfl, by decide +kernel, by decide +kernel⟩
abbrev s_Lcell : Stmt := top 16
abbrev N_Lcell : List Str := ["_law_pot_here", "_law_kind", "_law_top"]
theorem sc_Lcell : FnScope N_Lcell ["_law_pot_here"] (defScope s_Lcell) := ⟨rfl, rfl, rfl, by decide +kernel, rfl, by decide +kernel, by decide +kernel⟩
abbrev s_Lacted : Stmt := top 17
abbrev N_Lacted : List Str := ["_law_kind", "_law_a", "_law_b", "_law_bound"]
theorem sc_Lacted : FnScope N_Lacted ["_law_kind", "_law_a", "_law_b", "_law_bound"] (defScope s_Lacted) := ⟨rfl, rfl, rfl, by decide +kernel, rfl, by decide +kernel, by decide +kernel⟩
abbrev s_Lacted_plainly : Stmt := top 18
abbrev N_Lacted_plainly : List Str := ["_law_kind", "_law_a", "_law_b"]
theorem sc_Lacted_plainly : FnScope N_Lacted_plainly ["_law_kind", "_law_a", "_law_b"] (defScope s_Lacted_plainly) := ⟨rfl, rfl, rfl, by decide +kernel, rfl, by decide +kernel, by decide +kernel⟩
abbrev s_Lwhy : Stmt := top 19
abbrev N_Lwhy : List Str := ["_law_act"]
theorem sc_Lwhy : FnScope N_Lwhy ["_law_act"] (defScope s_Lwhy) := ⟨rfl, rfl, rfl, by decide +kernel, rfl, by decide +kernel, by decide +kernel⟩
abbrev s_law : Stmt := top 20
abbrev N_law : List Str := ["_law_script", "_law_pot_here", "_law_turn", "_law_a", "_law_b", "_law_found", "_law_lower", "_law_kind", "_law_due", "_law_bound", "_law_why_here"]
theorem sc_law : FnScope N_law ["_law_script"] (defScope s_law) := ⟨rfl, rfl, rfl, by decide +kernel, rfl, by decide +kernel, by decide +kernel⟩
section
variable {P : Program} {w : World} {K : PySem.W.Frag} {mg : Str → Option Value} {base : Heap}
/-! ### the pot's draw -/
abbrev s_Ltake : Stmt := top 14
abbrev N_Ltake : List Str := ["_law_pot_here", "_law_many", "_law_cell_here"]
theorem sc_Ltake : FnScope N_Ltake ["_law_pot_here", "_law_many"] (defScope s_Ltake) := ⟨rfl, rfl, rfl, by decide +kernel, rfl, by decide +kernel, by decide +kernel⟩
theorem ok_Ltake {f : Addr} {fd : FuncData} (F : Fun K "_law_take" "_law_take" s_Ltake f fd) (zlen : mg "len" = none) : FnOk P w K mg base CX0 1 f fd ["_law_pot_here", "_law_many"] spTake := by
  refine F.ok sc_Ltake (fun vs H Q E h => ?_) (fun cdv A outer s H vs Q E hr h => ?_)
  · obtain ⟨p, cc, m, rfl, _⟩ := h
    rfl
  · obtain ⟨p, cc, m, rfl, ⟨cs, i, n, sd, hp, hc, i0, i1, hl, hz, s0, s1⟩, m0, m1, k⟩ := h
    have ne : p ≠ cc := PotAt.ne ⟨cs, i, n, sd, hp, hc, i0, i1, hl, hz, s0, s1⟩
    refine ⟨_, pss_cons (ps_augS (pv 0) pe_int get_list pe_int ip_add set_list)
      (pss_cons (ps_set (i := 2) sc_Ltake.nd rfl (Or.inl rfl) (pe_ix ix_list (pe_ix ix_list (pv 0) pe_int (fun _ _ => rfl)) (pe_ix ix_list (pv 0) pe_int (fun _ _ => rfl)) (fun _ _ => rfl)))
      (pss_cons (ps_if (pt_cmpR op_ge (pv 2) (pe_op op_pow pe_int pe_int) (nomark _))
        (pss_cons (ps_asg (pe_op op_fdivW (pv 2) (pv 1)) (pg_sub (pe_ix ix_list (pv 0) pe_int (fun _ _ => rfl)) (pe_ix ix_list (pv 0) pe_int (fun _ _ => rfl)) set_list))
        (pss_one (ps_ret (pe_op op_mod (pv 2) (pv 1))))) pss_nil)
      (pss_cons (ps_asg (pe_op op_mod (pe_op op_add (pe_ix ix_list (pv 0) pe_int (fun _ _ => rfl)) pe_int) (pe_callB call_len_seq (by rfl) zlen (by decide +kernel) (pa_cons (pe_ix ix_list (pv 0) pe_int (fun _ _ => rfl)) pa_nil))) (pg_sub (pv 0) pe_int set_list))
      (pss_cons (ps_asg (pe_op op_mod (pe_op op_add (pe_op op_add (pe_op op_mul (pe_ix ix_list (pv 0) pe_int (fun _ _ => rfl)) pe_int) (pe_op op_mod (pv 2) pe_int)) (pe_ix ix_list (pv 0) pe_int (fun _ _ => rfl))) pe_int) (pg_sub (pv 0) pe_int set_list))
      (pss_one (ps_ret (pe_op op_mod (pe_op op_fdiv (pe_ix ix_list (pv 0) pe_int (fun _ _ => rfl)) pe_int) (pv 1)))))))), ?_⟩
    refine ⟨_, rfl, p, _, 2, _, rfl, rfl, SqL.of hp, rfl, _, _, rfl, rfl, p, _, 2, 2, rfl, rfl, hp, rfl, ?_⟩
    have hp1 : (upd H p (.lst [.ref cc, .int i, .int (n + 1), .int sd])) p = some (.lst [.ref cc, .int i, .int (n + 1), .int sd]) := upd_same
    have hc1 : (upd H p (.lst [.ref cc, .int i, .int (n + 1), .int sd])) cc = some (.lst (cs.map V.int)) := by rw [upd_ne ne.symm]; exact hc
    obtain ⟨j, hj⟩ : ∃ j : Nat, i = (j : Int) := ⟨i.toNat, by omega⟩
    subst hj
    have hjl : j < cs.length := by omega
    obtain ⟨z, ez⟩ : ∃ z, cs[j]? = some z := ⟨cs[j], List.getElem?_eq_getElem hjl⟩
    have ez' : (cs.map V.int)[j]? = some (V.int z) := by rw [List.getElem?_map, ez]; rfl
    have z0 : 0 ≤ z := hz z (List.mem_of_getElem? ez)
    refine ⟨_, rfl, p, _, 0, _, rfl, rfl, SqL.of hp1, rfl, _, rfl, p, _, 1, _, rfl, rfl, SqL.of hp1, rfl, cc, _, _, _, rfl, rfl, SqL.of hc1, atI_nat ez', ?_⟩
    refine ⟨_, rfl, _, _, rfl, rfl, ⟨by decide, by decide, by decide⟩, _, _, rfl, rfl, _, rfl, ?_⟩
    refine ite2 (fun _ => ?_) (fun _ => ?_)
    · -- a great cell
      refine ⟨_, rfl, _, rfl, _, _, rfl, rfl, wide_div (b := 200) m0 (by omega) (by decide) (by decide), ?_⟩
      refine ⟨_, rfl, p, _, 0, _, rfl, rfl, SqL.of hp1, rfl, _, rfl, p, _, 1, _, rfl, rfl, SqL.of hp1, rfl, cc, _, _, j, rfl, rfl, hc1, ?_, ?_⟩
      · rw [List.length_map]
        unfold ixN
        rw [if_pos (by omega), if_pos (by omega)]
        simp
      refine ⟨_, rfl, _, rfl, _, _, rfl, rfl, m0, ?_⟩
      refine k _ _ (Int.emod_nonneg _ (by omega)) (Int.emod_lt_of_pos _ m0) ⟨cs.set j (z / m), (j : Int), n + 1, sd, ?_, ?_, i0, by rw [List.length_set]; exact i1, by rw [List.length_set]; exact hl, ?_, s0, s1⟩ (fun a h1 h2 => by rw [upd_ne h2, upd_ne h1])
      · rw [upd_ne ne]; exact hp1
      · rw [upd_same, List.map_set]
      · intro y hy
        rcases List.mem_or_eq_of_mem_set hy with hy | hy
        · exact hz y hy
        · rw [hy]; exact Int.ediv_nonneg z0 (by omega)
    · -- a small one
      have hcl : (0 : Int) < (cs.map V.int).length := by rw [List.length_map]; omega
      refine ⟨_, rfl, p, _, 1, _, rfl, rfl, SqL.of hp1, rfl, _, _, rfl, rfl, _, rfl, p, _, 0, _, rfl, rfl, SqL.of hp1, rfl, cc, _, rfl, .inl (SqL.of hc1), _, _, rfl, rfl, hcl, ?_⟩
      refine ⟨_, rfl, p, _, 1, 1, rfl, rfl, hp1, rfl, ?_⟩
      have hp2 : (upd (upd H p (.lst [.ref cc, .int (j : Int), .int (n + 1), .int sd])) p (.lst [.ref cc, .int (((j : Int) + 1) % ((cs.map V.int).length : Int)), .int (n + 1), .int sd])) p = some (.lst [.ref cc, .int (((j : Int) + 1) % ((cs.map V.int).length : Int)), .int (n + 1), .int sd]) := upd_same
      refine ⟨_, rfl, p, _, 3, _, rfl, rfl, SqL.of hp2, rfl, _, _, rfl, rfl, .inr ⟨by decide, by decide⟩, _, rfl, _, _, rfl, rfl, (by show (0 : Int) < 2147483647; decide), _, _, rfl, rfl, _, rfl, p, _, 2, _, rfl, rfl, SqL.of hp2, rfl, _, _, rfl, rfl, _, _, rfl, rfl, (by show (0 : Int) < 2147483647; decide), ?_⟩
      refine ⟨_, rfl, p, _, 3, 3, rfl, rfl, hp2, rfl, ?_⟩
      refine ⟨_, rfl, p, _, 3, _, rfl, rfl, SqL.of upd_same, rfl, _, _, rfl, rfl, ⟨by decide, by decide⟩, _, rfl, _, _, rfl, rfl, m0, ?_⟩
      refine k _ _ (Int.emod_nonneg _ (by omega)) (Int.emod_lt_of_pos _ m0) ⟨cs, _, n + 1, _, upd_same, ?_, ?_, ?_, hl, hz, ?_, ?_⟩ (fun a h1 h2 => by rw [upd_ne h1, upd_ne h1, upd_ne h1])
      · rw [upd_ne ne.symm, upd_ne ne.symm]; exact hc1
      · exact Int.emod_nonneg _ (by omega)
      · rw [List.length_map]; exact Int.emod_lt_of_pos _ (by omega)
      · exact Int.emod_nonneg _ (by omega)
      · exact Int.emod_lt_of_pos _ (by omega)
def spPot (K : PySem.W.Frag) : Sp := fun vs H Q _ => ∃ (a : Addr) (ns : List Int), vs = [.ref a] ∧ SqL K H a (ns.map V.int) ∧ ∀ p cc H', H p = none → H cc = none → PotAt p cc H' → Same H H' → Q (.ref p) H'
abbrev s_Lpot : Stmt := top 13
abbrev N_Lpot : List Str := ["_law_script", "_law_cells", "_law_cell_here"]
theorem sc_Lpot : FnScope N_Lpot ["_law_script"] (defScope s_Lpot) := ⟨rfl, rfl, rfl, by decide +kernel, rfl, by decide +kernel, by decide +kernel⟩
theorem ok_Lpot {f : Addr} {fd : FuncData} (F : Fun K "_law_pot" "_law_pot" s_Lpot f fd) (zabs : mg "abs" = none) : FnOk P w K mg base CX0 1 f fd ["_law_script"] (spPot K) := by
  refine F.ok sc_Lpot (fun vs H Q E h => ?_) (fun cdv A outer s H vs Q E hr h => ?_)
  · obtain ⟨a, ns, rfl, _⟩ := h
    rfl
  · obtain ⟨a, ns, rfl, hS, k⟩ := h
    refine ⟨_, pss_cons (ps_setLc (i := 1) (own := [("_law_cell_here", 2)]) (by rfl) sc_Lpot.nd rfl rfl (sw_true rfl rfl rfl (by decide +kernel)) (pi_list (pe_slice sl_list (pv 0) po_none (po_some pe_int))) (blkOk_by (own := [("_law_cell_here", 2)]) (N := N_Lpot) (sc := defScope s_Lpot) (by decide +kernel)) (fun _ _ _ _ _ => (pg_name (i := 2) sc_Lpot.nd rfl (Or.inl rfl))) (fun _ _ _ _ _ => pts_nil) (fun _ _ _ _ _ => (pe_callB call_abs (by rfl) zabs (by decide +kernel) (pa_cons (pv 2) pa_nil))))
      (pss_cons (ps_if (pt_not (pt_truth (pv 1) (by intro _; rfl))) (pss_one (ps_set (i := 1) sc_Lpot.nd rfl (Or.inl rfl) (pe_lst (pa_cons pe_int pa_nil)))) pss_nil)
      (pss_one (ps_ret (pe_lst (pa_cons (pv 1) (pa_cons pe_int (pa_cons pe_int (pa_cons pe_int pa_nil)))))))), ?_⟩
    obtain ⟨ms, ems, lms⟩ : ∃ ms : List Int, cutV (ns.map V.int) none (some 63) = ms.map V.int ∧ ms.length ≤ 63 := by
      refine ⟨(ns.drop (HT.sIx (ns.map V.int).length 0 none)).take (HT.sIx (ns.map V.int).length (ns.map V.int).length (some 63) - HT.sIx (ns.map V.int).length 0 none), ?_, ?_⟩
      · unfold cutV
        rw [List.map_take, List.map_drop]
      · rw [List.length_take]
        have h1 := HT.sIx_nat (ns.map V.int).length (ns.map V.int).length 63
        have h2 : HT.sIx (ns.map V.int).length (ns.map V.int).length (some 63) = min 63 (ns.map V.int).length := h1
        omega
    refine ⟨_, rfl, 63, rfl, a, _, rfl, hS, fun q hq => ?_⟩
    rw [ems]
    refine ⟨q, rfl, ⟨_, SqL.of upd_same⟩, fun D hD => ?_⟩
    have nqD : q ≠ D := ne_of_none upd_same hD
    have s1 : Same H (upd H q (.lst (ms.map V.int))) := fun b o e => by rw [upd_ne (ne_of_none e hq)]; exact e
    have hD0 : H D = none := s1.free hD
    refine lc_list (K := K) (a := q) (xs := ms.map V.int) (fun i H2 => Same H H2 ∧ H2 q = some (.lst (ms.map V.int)) ∧ ∃ as : List Int, H2 D = some (.lst (as.map V.int)) ∧ as.length = i ∧ ∀ z ∈ as, 0 ≤ z) ?_ ?_ ?_ ?_
    · refine ⟨fun b o e => by rw [upd_ne (ne_of_none e hD0)]; exact s1 b o e, by rw [upd_ne nqD]; exact upd_same, [], upd_same, rfl, fun z hz => by cases hz⟩
    · rintro i H2 _ ⟨_, h2, _⟩
      exact SqL.of h2
    · rintro i x H2 hx ⟨s2, h2, as, hd, hl, hz⟩
      have hil : i < (ms.map V.int).length := (List.getElem?_eq_some_iff.mp hx).1
      rw [List.length_map] at hil
      obtain ⟨z, rfl⟩ : ∃ z, x = V.int z := by
        rw [List.getElem?_map] at hx
        cases e : ms[i]? with
        | none => rw [e] at hx; cases hx
        | some z => rw [e] at hx; exact ⟨z, (Option.some.inj hx).symm⟩
      refine ⟨rfl, ?_⟩
      unfold tYes
      refine iteT ?_
      refine ⟨_, rfl, z, rfl, as.map V.int, hd, ?_, ?_⟩
      · rw [List.length_map]
        exact small1000 (by omega)
      · refine ⟨fun b o e => by rw [upd_ne (ne_of_none e hD0)]; exact s2 b o e, by rw [upd_ne nqD]; exact h2, as ++ [if z < 0 then -z else z], by rw [upd_same, List.map_append]; rfl, by rw [List.length_append, hl]; rfl, fun y hy => ?_⟩
        rcases List.mem_append.mp hy with hy | hy
        · exact hz y hy
        · rw [List.mem_singleton.mp hy]
          split <;> omega
    · rintro H2 ⟨s2, h2, as, hd, hl, hz⟩
      rw [List.length_map] at hl
      have fin : ∀ (cc : Addr) (cs : List Int) (H3 : Hp), H cc = none → H3 cc = some (.lst (cs.map V.int)) → Same H H3 → 0 < cs.length → cs.length ≤ 1000 → (∀ z ∈ cs, 0 ≤ z) →
          tRet (tLst (tCons (tVar 1) (tCons (tC (V.int 0)) (tCons (tC (V.int 0)) (tCons (tC (V.int 7)) tNil))))) { nx := fun _ H' => Q .non H', rt := Q } [some (.ref a), some (.ref cc), none] H3 := by
        intro cc cs H3 hcc h3 s3 l0 l1 z0
        refine ⟨_, rfl, (by show 4 ≤ sizeLine; decide), fun p hp => ?_⟩
        have npc : cc ≠ p := ne_of_none h3 hp
        refine k p cc _ (s3.free hp) hcc ⟨cs, 0, 0, 7, upd_same, by rw [upd_ne npc]; exact h3, by decide, by omega, l1, z0, by decide, by decide⟩ (fun b o e => by rw [upd_ne (ne_of_none (s3 b o e) hp)]; exact s3 b o e)
      refine ⟨_, rfl, _, .inl ⟨_, SqL.of hd, rfl⟩, ?_⟩
      cases as with
      | nil =>
        refine iteT ?_
        refine ⟨(by show 1 ≤ sizeLine; decide), fun c2 hc2 => ?_⟩
        exact fin c2 [0] _ (s2.free hc2) upd_same (fun b o e => by rw [upd_ne (ne_of_none (s2 b o e) hc2)]; exact s2 b o e) (by decide) (by decide) (by intro z h; rw [List.mem_singleton.mp h]; decide)
      | cons z as =>
        refine iteF ?_
        exact fin D (z :: as) H2 hD0 hd s2 (by simp) (by omega) hz
end

structure Top (K : PySem.W.Frag) (mg : Str → Option Value) : Prop where
  d_need_number : DefAt K mg "need_number" "need_number" s_need_number [] [] []
  d_plus : DefAt K mg "plus" "plus" s_plus [] ["most"] [(.int 999999999999999999999999999999)]
  d_minus : DefAt K mg "minus" "minus" s_minus [] ["most"] [(.int 999999999999999999999999999999)]
  d_times : DefAt K mg "times" "times" s_times [] ["most"] [(.int 999999999999999999999999999999)]
  d_least : DefAt K mg "least" "least" s_least [] [] []
  d_most_of : DefAt K mg "most_of" "most_of" s_most_of [] [] []
  d_Lpot : DefAt K mg "_law_pot" "_law_pot" s_Lpot [] [] []
  d_Ltake : DefAt K mg "_law_take" "_law_take" s_Ltake [] [] []
  d_Lsame : DefAt K mg "_law_same" "_law_same" s_Lsame [] [] []
  d_Lcell : DefAt K mg "_law_cell" "_law_cell" s_Lcell [] [] []
  d_Lacted : DefAt K mg "_law_acted" "_law_acted" s_Lacted [] [] []
  d_Lacted_plainly : DefAt K mg "_law_acted_plainly" "_law_acted_plainly" s_Lacted_plainly [] [] []
  zb_abs : mg "abs" = none
  zb_all : mg "all" = none
  zb_bool : mg "bool" = none
  zb_int : mg "int" = none
  zb_isinstance : mg "isinstance" = none
  zb_len : mg "len" = none
  zb_list : mg "list" = none
  zb_max : mg "max" = none
  zb_min : mg "min" = none
  zb_range : mg "range" = none
  zb_str : mg "str" = none
  zb_tuple : mg "tuple" = none
  zb_zip : mg "zip" = none
  zc_MOST : ∃ u v, mg "MOST" = some u ∧ RelV v u ∧ ∀ H, Rep K H v (.int 999999999999999999999999999999)
  x_TooGreat : ExcC K mg "TooGreat"
  g_TooGreat : mg "TooGreat" = some (.ref ((csOf K mg).at_ "TooGreat"))
  g_PourError : mg "PourError" = some (.ref ((csOf K mg).at_ "PourError"))
  cs : CsOk (csOf K mg)
section
variable {P : Program} {w : World} {K : PySem.W.Frag} {mg : Str → Option Value}
theorem cl_take (T : Top K mg) (base : Heap) : Cl P w K mg base CX0 "_law_take" 1 [] (spP K 2 take3) := by
  obtain ⟨f, fd, F, hm, _⟩ := (OkF.fun_ (P := P) (w := w) (base := base) (CX := CX0) (lv := 0) (ps := []) (sp := fun _ _ _ _ => False) (by obtain ⟨f, fd, dvs, kvs, rd, rk, F, hm⟩ := T.d_Ltake.ex; exact ⟨f, fd, dvs, kvs, rd, rk, F, hm, fnOk_no fun _ _ _ _ z => z⟩))
  exact ⟨f, fd, _, [], (ok_Ltake F T.zb_len).imp take_imp, hm, F.kp, F.binds (ps := ["_law_pot_here", "_law_many"]) fun _ _ _ _ _ _ us hl => match us, hl with | [_, _], _ => rfl, .nil⟩
theorem cl_pot (T : Top K mg) (base : Heap) : Cl P w K mg base CX0 "_law_pot" 1 [] (spPot K) := by
  obtain ⟨f, fd, F, hm, _⟩ := (OkF.fun_ (P := P) (w := w) (base := base) (CX := CX0) (lv := 0) (ps := []) (sp := fun _ _ _ _ => False) (by obtain ⟨f, fd, dvs, kvs, rd, rk, F, hm⟩ := T.d_Lpot.ex; exact ⟨f, fd, dvs, kvs, rd, rk, F, hm, fnOk_no fun _ _ _ _ z => z⟩))
  exact ⟨f, fd, _, [], ok_Lpot F T.zb_abs, hm, F.kp, F.binds (ps := ["_law_script"]) fun _ _ _ _ _ _ us hl => match us, hl with | [_], _ => rfl, .nil⟩
theorem ok_need_number (T : Top K mg) (base : Heap) : OkF P w K mg base (L2.CX P w) "need_number" "need_number" s_need_number [] [] [] 1 ["number", "most"] (sp3 K 2 (need_number (csOf K mg))) := by
  obtain ⟨f, fd, dvs, kvs, rd, rk, F, hm⟩ := T.d_need_number.ex
  refine ⟨f, fd, dvs, kvs, rd, rk, F, hm, F.ok sc_need_number (sp3_len rfl) (fun cdv A outer s H vs Q E hr h => ?_)⟩
  refine ⟨_, (pss_cons (ps_if (pt_not (pt_chain op_le op_le (pe_un un_neg (pv 1)) (pv 0) (pv 1))) (pss_one (ps_raise rfl (takes_of rfl rfl rfl rfl) (pmk_own PySem.F.excBase_ValueError T.x_TooGreat.x_ T.x_TooGreat.g T.x_TooGreat.k (raises_own T.x_TooGreat.b T.x_TooGreat.t) (by rfl)))) pss_nil)
      (pss_one (ps_ret (pv 0)))), ?_⟩
  exact body3 (x := need_numberB (csOf K mg)) (W := fun cls dd _ H => E cls dd H) h (fun _ _ _ _ z => z) (lift_seq (lift_ifs (lift_not (lift_tst (lift_chain rl_le rl_le (lift_un rl_neg (lift_v 1)) (lift_v 0) (lift_v 1)))) lift_raise lift_next)
      (lift_ret (lift_v 0))) (fun ds Q3 X _ hf => by rw [need_number_def] at hf; exact hf)
theorem ok_plus (T : Top K mg) (base : Heap) : OkF P w K mg base (L2.CX P w) "plus" "plus" s_plus [] ["most"] [(.int 999999999999999999999999999999)] 2 ["one", "other", "most"] (sp3 K 3 (plus (csOf K mg))) := by
  obtain ⟨v_need_number_2, h_need_number_2, c_need_number_2⟩ := ((ok_need_number T base (P := P) (w := w)).cl (fun _ _ _ _ _ _ us hl => match us, hl with | [_, _], _ => rfl)).ex
  obtain ⟨f, fd, dvs, kvs, rd, rk, F, hm⟩ := T.d_plus.ex
  refine ⟨f, fd, dvs, kvs, rd, rk, F, hm, F.ok sc_plus (sp3_len rfl) (fun cdv A outer s H vs Q E hr h => ?_)⟩
  refine ⟨_, (pss_cons (ps_if (PW.pt (pw_or (pt_cmpR op_isN (pv 0) pe_non (nomark _)) (pw_or1 (pt_cmpR op_isN (pv 1) pe_non (nomark _))))) (pss_one (ps_ret pe_non)) pss_nil)
      (pss_one (ps_ret (pe_cl c_need_number_2 (hr.mono (by omega)) (by rfl) (passes_call (takes_of rfl rfl rfl rfl) (fun _ _ _ _ z => z)) (pa_cons (pe_op (op_addP (K := K) rfl) (pv 0) (pv 1)) (pa_cons (pv 2) pa_nil)))))), ?_⟩
  exact body3 (x := plusB (csOf K mg)) (W := fun cls dd _ H => E cls dd H) h (fun _ _ _ _ z => z) (lift_seq (lift_ifs (lift_or (lift_tst (lift_op rl_isN (lift_v 0) lift_non)) (lift_tst (lift_op rl_isN (lift_v 1) lift_non))) (lift_ret lift_non) lift_next)
      (lift_ret (lift_call (fun _ _ _ _ z => z) (lift_cons (lift_op rl_addP (lift_v 0) (lift_v 1)) (lift_cons (lift_v 2) lift_nil)) h_need_number_2))) (fun ds Q3 X _ hf => by rw [plus_def] at hf; exact hf)
theorem ok_minus (T : Top K mg) (base : Heap) : OkF P w K mg base (L2.CX P w) "minus" "minus" s_minus [] ["most"] [(.int 999999999999999999999999999999)] 2 ["one", "other", "most"] (sp3 K 3 (minus (csOf K mg))) := by
  obtain ⟨v_need_number_2, h_need_number_2, c_need_number_2⟩ := ((ok_need_number T base (P := P) (w := w)).cl (fun _ _ _ _ _ _ us hl => match us, hl with | [_, _], _ => rfl)).ex
  obtain ⟨f, fd, dvs, kvs, rd, rk, F, hm⟩ := T.d_minus.ex
  refine ⟨f, fd, dvs, kvs, rd, rk, F, hm, F.ok sc_minus (sp3_len rfl) (fun cdv A outer s H vs Q E hr h => ?_)⟩
  refine ⟨_, (pss_cons (ps_if (PW.pt (pw_or (pt_cmpR op_isN (pv 0) pe_non (nomark _)) (pw_or1 (pt_cmpR op_isN (pv 1) pe_non (nomark _))))) (pss_one (ps_ret pe_non)) pss_nil)
      (pss_one (ps_ret (pe_cl c_need_number_2 (hr.mono (by omega)) (by rfl) (passes_call (takes_of rfl rfl rfl rfl) (fun _ _ _ _ z => z)) (pa_cons (pe_op op_sub (pv 0) (pv 1)) (pa_cons (pv 2) pa_nil)))))), ?_⟩
  exact body3 (x := minusB (csOf K mg)) (W := fun cls dd _ H => E cls dd H) h (fun _ _ _ _ z => z) (lift_seq (lift_ifs (lift_or (lift_tst (lift_op rl_isN (lift_v 0) lift_non)) (lift_tst (lift_op rl_isN (lift_v 1) lift_non))) (lift_ret lift_non) lift_next)
      (lift_ret (lift_call (fun _ _ _ _ z => z) (lift_cons (lift_op rl_sub (lift_v 0) (lift_v 1)) (lift_cons (lift_v 2) lift_nil)) h_need_number_2))) (fun ds Q3 X _ hf => by rw [minus_def] at hf; exact hf)
theorem ok_times (T : Top K mg) (base : Heap) : OkF P w K mg base (L2.CX P w) "times" "times" s_times [] ["most"] [(.int 999999999999999999999999999999)] 2 ["one", "other", "most"] (sp3 K 3 (times (csOf K mg))) := by
  obtain ⟨v_need_number_2, h_need_number_2, c_need_number_2⟩ := ((ok_need_number T base (P := P) (w := w)).cl (fun _ _ _ _ _ _ us hl => match us, hl with | [_, _], _ => rfl)).ex
  obtain ⟨f, fd, dvs, kvs, rd, rk, F, hm⟩ := T.d_times.ex
  refine ⟨f, fd, dvs, kvs, rd, rk, F, hm, F.ok sc_times (sp3_len rfl) (fun cdv A outer s H vs Q E hr h => ?_)⟩
  refine ⟨_, (pss_cons (ps_if (PW.pt (pw_or (pt_cmpR op_isN (pv 0) pe_non (nomark _)) (pw_or1 (pt_cmpR op_isN (pv 1) pe_non (nomark _))))) (pss_one (ps_ret pe_non)) pss_nil)
      (pss_one (ps_ret (pe_cl c_need_number_2 (hr.mono (by omega)) (by rfl) (passes_call (takes_of rfl rfl rfl rfl) (fun _ _ _ _ z => z)) (pa_cons (pe_op op_mulP (pv 0) (pv 1)) (pa_cons (pv 2) pa_nil)))))), ?_⟩
  exact body3 (x := timesB (csOf K mg)) (W := fun cls dd _ H => E cls dd H) h (fun _ _ _ _ z => z) (lift_seq (lift_ifs (lift_or (lift_tst (lift_op rl_isN (lift_v 0) lift_non)) (lift_tst (lift_op rl_isN (lift_v 1) lift_non))) (lift_ret lift_non) lift_next)
      (lift_ret (lift_call (fun _ _ _ _ z => z) (lift_cons (lift_op rl_mulP (lift_v 0) (lift_v 1)) (lift_cons (lift_v 2) lift_nil)) h_need_number_2))) (fun ds Q3 X _ hf => by rw [times_def] at hf; exact hf)
theorem ok_least (T : Top K mg) (base : Heap) : OkF P w K mg base (L2.CX P w) "least" "least" s_least [] [] [] 1 ["one", "other"] (sp3 K 2 (least (csOf K mg))) := by
  obtain ⟨f, fd, dvs, kvs, rd, rk, F, hm⟩ := T.d_least.ex
  refine ⟨f, fd, dvs, kvs, rd, rk, F, hm, F.ok sc_least (sp3_len rfl) (fun cdv A outer s H vs Q E hr h => ?_)⟩
  refine ⟨_, (pss_one (ps_ret (pe_ifExp (PW.pt (pw_or (pt_cmpR op_isN (pv 0) pe_non (nomark _)) (pw_or1 (pt_cmpR op_isN (pv 1) pe_non (nomark _))))) pe_non (pe_callB (call_min2 rfl) (by rfl) T.zb_min (by decide +kernel) (pa_cons (pv 0) (pa_cons (pv 1) pa_nil)))))), ?_⟩
  exact body3 (x := leastB (csOf K mg)) (W := fun cls dd _ H => E cls dd H) h (fun _ _ _ _ z => z) (lift_ret (lift_if (lift_or (lift_tst (lift_op rl_isN (lift_v 0) lift_non)) (lift_tst (lift_op rl_isN (lift_v 1) lift_non))) lift_non (lift_cb rl_min2 (lift_cons (lift_v 0) (lift_cons (lift_v 1) lift_nil))))) (fun ds Q3 X _ hf => by rw [least_def] at hf; exact hf)
theorem ok_most_of (T : Top K mg) (base : Heap) : OkF P w K mg base (L2.CX P w) "most_of" "most_of" s_most_of [] [] [] 1 ["one", "other"] (sp3 K 2 (most_of (csOf K mg))) := by
  obtain ⟨f, fd, dvs, kvs, rd, rk, F, hm⟩ := T.d_most_of.ex
  refine ⟨f, fd, dvs, kvs, rd, rk, F, hm, F.ok sc_most_of (sp3_len rfl) (fun cdv A outer s H vs Q E hr h => ?_)⟩
  refine ⟨_, (pss_one (ps_ret (pe_ifExp (PW.pt (pw_or (pt_cmpR op_isN (pv 0) pe_non (nomark _)) (pw_or1 (pt_cmpR op_isN (pv 1) pe_non (nomark _))))) pe_non (pe_callB (call_max2 rfl) (by rfl) T.zb_max (by decide +kernel) (pa_cons (pv 0) (pa_cons (pv 1) pa_nil)))))), ?_⟩
  exact body3 (x := most_ofB (csOf K mg)) (W := fun cls dd _ H => E cls dd H) h (fun _ _ _ _ z => z) (lift_ret (lift_if (lift_or (lift_tst (lift_op rl_isN (lift_v 0) lift_non)) (lift_tst (lift_op rl_isN (lift_v 1) lift_non))) lift_non (lift_cb rl_max2 (lift_cons (lift_v 0) (lift_cons (lift_v 1) lift_nil))))) (fun ds Q3 X _ hf => by rw [most_of_def] at hf; exact hf)
set_option maxHeartbeats 8000000 in
theorem ok_Lsame (T : Top K mg) (base : Heap) (n : Nat) : OkF P w K mg base (L2.CX P w) "_law_same" "_law_same" s_Lsame [] [] [] (0 + n) ["_law_found", "_law_due"] (sp3 K 2 (Lsame (csOf K mg) n)) := by
  induction n with
  | zero => exact by rw [Lsame_zero]; exact T.d_Lsame.no _
  | succ n ih =>
    obtain ⟨v_Lsame_2, h_Lsame_2, c_Lsame_2⟩ := (ih.cl (fun _ _ _ _ _ _ us hl => match us, hl with | [_, _], _ => rfl)).ex
    obtain ⟨f, fd, dvs, kvs, rd, rk, F, hm⟩ := T.d_Lsame.ex
    refine ⟨f, fd, dvs, kvs, rd, rk, F, hm, F.ok sc_Lsame (sp3_len rfl) (fun cdv A outer s H vs Q E hr h => ?_)⟩
    replace hr : Room (0 + n) _ := hr
    refine ⟨_, (pss_cons (ps_if (pt_cmpR op_isN (pv 1) pe_non (nomark _)) (pss_one (ps_ret (pe_cmpR op_isN (pv 0) pe_non (nomark _)))) pss_nil)
      (pss_cons (ps_if (pt_val (pe_callB (call_isiK' (K := K) rfl) (by rfl) T.zb_isinstance (by decide +kernel) (pa_cons (pv 1) (pa_cons (pe_bltn (v := .ty "bool") (by rfl) T.zb_bool (by decide +kernel) rfl) pa_nil)))) (pss_one (ps_ret (pe_and (pe_callB (call_isiK' (K := K) rfl) (by rfl) T.zb_isinstance (by decide +kernel) (pa_cons (pv 0) (pa_cons (pe_bltn (v := .ty "bool") (by rfl) T.zb_bool (by decide +kernel) rfl) pa_nil))) (pe_one (pe_cmpR (op_eqP (K := K) rfl hr.units) (pv 0) (pv 1) (nomark _)))))) pss_nil)
      (pss_cons (ps_if (pt_val (pe_callB (call_isiK' (K := K) rfl) (by rfl) T.zb_isinstance (by decide +kernel) (pa_cons (pv 1) (pa_cons (pe_bltn (v := .ty "int") (by rfl) T.zb_int (by decide +kernel) rfl) pa_nil)))) (pss_one (ps_ret (pe_and (pe_callB (call_isiK' (K := K) rfl) (by rfl) T.zb_isinstance (by decide +kernel) (pa_cons (pv 0) (pa_cons (pe_bltn (v := .ty "int") (by rfl) T.zb_int (by decide +kernel) rfl) pa_nil))) (pe_and (pe_not (pe_callB (call_isiK' (K := K) rfl) (by rfl) T.zb_isinstance (by decide +kernel) (pa_cons (pv 0) (pa_cons (pe_bltn (v := .ty "bool") (by rfl) T.zb_bool (by decide +kernel) rfl) pa_nil)))) (pe_one (pe_cmpR (op_eqP (K := K) rfl hr.units) (pv 0) (pv 1) (nomark _))))))) pss_nil)
      (pss_cons (ps_if (pt_val (pe_callB (call_isiK' (K := K) rfl) (by rfl) T.zb_isinstance (by decide +kernel) (pa_cons (pv 1) (pa_cons (pe_bltn (v := .ty "str") (by rfl) T.zb_str (by decide +kernel) rfl) pa_nil)))) (pss_one (ps_ret (pe_and (pe_callB (call_isiK' (K := K) rfl) (by rfl) T.zb_isinstance (by decide +kernel) (pa_cons (pv 0) (pa_cons (pe_bltn (v := .ty "str") (by rfl) T.zb_str (by decide +kernel) rfl) pa_nil))) (pe_one (pe_cmpR (op_eqP (K := K) rfl hr.units) (pv 0) (pv 1) (nomark _)))))) pss_nil)
      (pss_cons (ps_if (pt_val (pe_callB (call_isiK' (K := K) rfl) (by rfl) T.zb_isinstance (by decide +kernel) (pa_cons (pv 1) (pa_cons (pe_bltn (v := .ty "list") (by rfl) T.zb_list (by decide +kernel) rfl) pa_nil)))) (pss_one (ps_if (PW.pt (pw_or (pt_not (pt_val (pe_callB (call_isiK' (K := K) rfl) (by rfl) T.zb_isinstance (by decide +kernel) (pa_cons (pv 0) (pa_cons (pe_bltn (v := .ty "list") (by rfl) T.zb_list (by decide +kernel) rfl) pa_nil))))) (pw_or1 (pt_cmpR (op_neP (K := K) rfl hr.units) (pe_callB (call_lenK (K := K) rfl) (by rfl) T.zb_len (by decide +kernel) (pa_cons (pv 0) pa_nil)) (pe_callB (call_lenK (K := K) rfl) (by rfl) T.zb_len (by decide +kernel) (pa_cons (pv 1) pa_nil)) (nomark _))))) (pss_one (ps_ret pe_bl)) pss_nil)) (pss_one (ps_if (PW.pt (pw_or (pt_not (pt_val (pe_callB (call_isiK' (K := K) rfl) (by rfl) T.zb_isinstance (by decide +kernel) (pa_cons (pv 0) (pa_cons (pe_bltn (v := .ty "tuple") (by rfl) T.zb_tuple (by decide +kernel) rfl) pa_nil))))) (pw_or1 (pt_cmpR (op_neP (K := K) rfl hr.units) (pe_callB (call_lenK (K := K) rfl) (by rfl) T.zb_len (by decide +kernel) (pa_cons (pv 0) pa_nil)) (pe_callB (call_lenK (K := K) rfl) (by rfl) T.zb_len (by decide +kernel) (pa_cons (pv 1) pa_nil)) (nomark _))))) (pss_one (ps_ret pe_bl)) pss_nil)))
      (pss_one (ps_ret (pe_callB (cr_allK (K := K) rfl rfl) (by rfl) T.zb_all (by decide +kernel) (pa_cons (pe_lc (own := [("_law_one", 2), ("_law_other", 3)]) (g := (gTup K 2 (gCons (gName 2) (gCons (gName 3) gNil)))) (by rfl) sc_Lsame.nd (pi_zipK (K := K) rfl (by rfl) T.zb_zip (pa_cons (pv 0) (pa_cons (pv 1) pa_nil))) (blkOk_by (own := [("_law_one", 2), ("_law_other", 3)]) (N := N_Lsame) (sc := defScope s_Lsame) (by decide +kernel)) (fun _ _ _ _ _ => (pg_tupK (K := K) rfl rfl (pgs_cons (pg_name (i := 2) sc_Lsame.nd rfl (Or.inl rfl) (Or.inr rfl)) (pgs_cons (pg_name (i := 3) sc_Lsame.nd rfl (Or.inl rfl) (Or.inr rfl)) pgs_nil)))) (fun _ _ _ _ _ => pts_nil) (fun _ _ _ _ _ => (pe_cl c_Lsame_2 (hr.mono (by omega)) (by rfl) passL (pa_cons (pv 2) (pa_cons (pv 3) pa_nil))))) pa_nil))))))))), ?_⟩
    exact body3 (x := LsameB (csOf K mg) (Lsame (csOf K mg) n)) (W := fun cls dd _ H => E cls dd H) h (fun _ _ _ _ z => z) (lift_seq (lift_ifs (lift_tst (lift_op rl_isN (lift_v 1) lift_non)) (lift_ret (lift_op rl_isN (lift_v 0) lift_non)) lift_next)
      (lift_seq (lift_ifs (lift_tB (lift_cb rl_isi (lift_cons (lift_v 1) (lift_cons (lift_ty _) lift_nil)))) (lift_ret (lift_andV (lift_cb rl_isi (lift_cons (lift_v 0) (lift_cons (lift_ty _) lift_nil))) (lift_op rl_eqP (lift_v 0) (lift_v 1)))) lift_next)
      (lift_seq (lift_ifs (lift_tB (lift_cb rl_isi (lift_cons (lift_v 1) (lift_cons (lift_ty _) lift_nil)))) (lift_ret (lift_andV (lift_cb rl_isi (lift_cons (lift_v 0) (lift_cons (lift_ty _) lift_nil))) (lift_andV (lift_notV (lift_cb rl_isi (lift_cons (lift_v 0) (lift_cons (lift_ty _) lift_nil)))) (lift_op rl_eqP (lift_v 0) (lift_v 1))))) lift_next)
      (lift_seq (lift_ifs (lift_tB (lift_cb rl_isi (lift_cons (lift_v 1) (lift_cons (lift_ty _) lift_nil)))) (lift_ret (lift_andV (lift_cb rl_isi (lift_cons (lift_v 0) (lift_cons (lift_ty _) lift_nil))) (lift_op rl_eqP (lift_v 0) (lift_v 1)))) lift_next)
      (lift_seq (lift_ifs (lift_tB (lift_cb rl_isi (lift_cons (lift_v 1) (lift_cons (lift_ty _) lift_nil)))) (lift_ifs (lift_or (lift_not (lift_tB (lift_cb rl_isi (lift_cons (lift_v 0) (lift_cons (lift_ty _) lift_nil))))) (lift_tst (lift_op rl_neP (lift_cb rl_len (lift_cons (lift_v 0) lift_nil)) (lift_cb rl_len (lift_cons (lift_v 1) lift_nil))))) (lift_ret (lift_bl _)) lift_next) (lift_ifs (lift_or (lift_not (lift_tB (lift_cb rl_isi (lift_cons (lift_v 0) (lift_cons (lift_ty _) lift_nil))))) (lift_tst (lift_op rl_neP (lift_cb rl_len (lift_cons (lift_v 0) lift_nil)) (lift_cb rl_len (lift_cons (lift_v 1) lift_nil))))) (lift_ret (lift_bl _)) lift_next))
      (lift_ret (lift_cb rl_all (lift_cons (lift_lc (vs := [2, 3]) (lift_iZ (lift_cons (lift_v 0) (lift_cons (lift_v 1) lift_nil))) (lift_gtup (lift_gcons (lift_name 2 (by decide)) (lift_gcons (lift_name 3 (by decide)) lift_gnil))) lift_yes (lift_call0 (lift_cons (lift_v 2) (lift_cons (lift_v 3) lift_nil)) h_Lsame_2) (fun _ _ _ _ _ z => z)) lift_nil)))))))) (fun ds Q3 X _ hf => by rw [Lsame_succ] at hf; exact hf)
theorem ok_Lcell (T : Top K mg) (base : Heap) : OkF P w K mg base (L2.CX P w) "_law_cell" "_law_cell" s_Lcell [] [] [] 2 ["_law_pot_here"] (spP K 1 (Lcell (csOf K mg))) := by
  have c_Ltake_2 := cl_take T base (P := P) (w := w)
  have h_Ltake_2 : ∀ H, RepL K H [] [] := fun _ => .nil
  obtain ⟨f, fd, dvs, kvs, rd, rk, F, hm⟩ := T.d_Lcell.ex
  refine ⟨f, fd, dvs, kvs, rd, rk, F, hm, F.ok sc_Lcell (spP_len rfl) (fun cdv A outer s H vs Q E hr h => ?_)⟩
  refine ⟨_, (pss_cons (ps_set (i := 1) sc_Lcell.nd rfl (Or.inl rfl) (pe_cl c_Ltake_2 (hr.mono (by omega)) (by rfl) pass0 (pa_cons (pv 0) (pa_cons pe_int pa_nil))))
      (pss_cons (ps_if (pt_cmpR op_lt (pv 1) pe_int (nomark _)) (pss_one (ps_ret pe_non)) pss_nil)
      (pss_cons (ps_if (pt_cmpR op_lt (pv 1) pe_int (nomark _)) (pss_one (ps_ret (pe_ifExp (pt_cmpR op_lt (pv 1) pe_int (nomark _)) (pe_op op_sub (pe_cl c_Ltake_2 (hr.mono (by omega)) (by rfl) pass0 (pa_cons (pv 0) (pa_cons pe_int pa_nil))) pe_int) (pe_op op_sub (pe_cl c_Ltake_2 (hr.mono (by omega)) (by rfl) pass0 (pa_cons (pv 0) (pa_cons pe_int pa_nil))) pe_int)))) pss_nil)
      (pss_cons (ps_set (i := 2) sc_Lcell.nd rfl (Or.inl rfl) (pe_op op_sub (pe_op op_pow pe_int pe_int) pe_int))
      (pss_one (ps_ret (pe_ix (ix_P (K := K) rfl) (pe_lst (pa_cons (pv 2) (pa_cons (pe_un un_neg (pv 2)) (pa_cons (pe_op (op_addP (K := K) rfl) (pe_op op_pow pe_int pe_int) (pe_cl c_Ltake_2 (hr.mono (by omega)) (by rfl) pass0 (pa_cons (pv 0) (pa_cons (pe_op op_pow pe_int pe_int) pa_nil)))) (pa_cons (pe_cl c_Ltake_2 (hr.mono (by omega)) (by rfl) pass0 (pa_cons (pv 0) (pa_cons (pe_op (op_addP (K := K) rfl) (pv 2) pe_int) pa_nil))) pa_nil))))) (pe_cl c_Ltake_2 (hr.mono (by omega)) (by rfl) pass0 (pa_cons (pv 0) (pa_cons pe_int pa_nil))) (fun _ _ => rfl)))))))), ?_⟩
  exact bodyP (x := fun p => LcellB (csOf K mg) p) (W := fun cls dd _ H => E cls dd H) h (fun _ _ _ _ z => z) (fun p cc => (lift_seq (lift_asg (lift_callP0 (lift_cons (lift_v 0) (lift_cons (lift_int _) lift_nil)) h_Ltake_2) (lift_name (vs := [1]) 1 (by decide)))
      (lift_seq (lift_ifs (lift_tst (lift_op rl_lt (lift_v 1) (lift_int _))) (lift_ret lift_non) lift_next)
      (lift_seq (lift_ifs (lift_tst (lift_op rl_lt (lift_v 1) (lift_int _))) (lift_ret (lift_if (lift_tst (lift_op rl_lt (lift_v 1) (lift_int _))) (lift_op rl_sub (lift_callP0 (lift_cons (lift_v 0) (lift_cons (lift_int _) lift_nil)) h_Ltake_2) (lift_int _)) (lift_op rl_sub (lift_callP0 (lift_cons (lift_v 0) (lift_cons (lift_int _) lift_nil)) h_Ltake_2) (lift_int _)))) lift_next)
      (lift_seq (lift_asg (lift_op rl_sub (lift_op rl_pow (lift_int _) (lift_int _)) (lift_int _)) (lift_name (vs := [2]) 2 (by decide)))
      (lift_ret (lift_op rl_ixP (lift_lst (lift_cons (lift_v 2) (lift_cons (lift_un rl_neg (lift_v 2)) (lift_cons (lift_op rl_addP (lift_op rl_pow (lift_int _) (lift_int _)) (lift_callP0 (lift_cons (lift_v 0) (lift_cons (lift_op rl_pow (lift_int _) (lift_int _)) lift_nil)) h_Ltake_2)) (lift_cons (lift_callP0 (lift_cons (lift_v 0) (lift_cons (lift_op rl_addP (lift_v 2) (lift_int _)) lift_nil)) h_Ltake_2) lift_nil))))) (lift_callP0 (lift_cons (lift_v 0) (lift_cons (lift_int _) lift_nil)) h_Ltake_2)))))))) (fun p ds Q3 X _ hf => by rw [Lcell_def] at hf; exact hf)
theorem ok_Lacted (T : Top K mg) (base : Heap) : OkF P w K mg base (L2.CX P w) "_law_acted" "_law_acted" s_Lacted [] [] [] 3 ["_law_kind", "_law_a", "_law_b", "_law_bound"] (sp3 K 4 (Lacted (csOf K mg))) := by
  obtain ⟨v_minus_2_most, h_minus_2_most, c_minus_2_most⟩ := ((ok_minus T base (P := P) (w := w)).clN0 2 ["most"] [] [0, 1, 2] (by simp) rfl (by decide) (fun _ _ _ _ _ _ us mv ws h1 h2 h3 => match us, mv, ws, h1, h2, h3 with | [_, _], [], [_], _, _, _ => rfl)).ex
  obtain ⟨v_plus_2_most, h_plus_2_most, c_plus_2_most⟩ := ((ok_plus T base (P := P) (w := w)).clN0 2 ["most"] [] [0, 1, 2] (by simp) rfl (by decide) (fun _ _ _ _ _ _ us mv ws h1 h2 h3 => match us, mv, ws, h1, h2, h3 with | [_, _], [], [_], _, _, _ => rfl)).ex
  obtain ⟨v_times_2_most, h_times_2_most, c_times_2_most⟩ := ((ok_times T base (P := P) (w := w)).clN0 2 ["most"] [] [0, 1, 2] (by simp) rfl (by decide) (fun _ _ _ _ _ _ us mv ws h1 h2 h3 => match us, mv, ws, h1, h2, h3 with | [_, _], [], [_], _, _, _ => rfl)).ex
  obtain ⟨f, fd, dvs, kvs, rd, rk, F, hm⟩ := T.d_Lacted.ex
  refine ⟨f, fd, dvs, kvs, rd, rk, F, hm, F.ok sc_Lacted (sp3_len rfl) (fun cdv A outer s H vs Q E hr h => ?_)⟩
  refine ⟨_, (pss_cons (ps_if (pt_cmpR (op_eqP (K := K) rfl hr.units) (pv 0) pe_int (nomark _)) (pss_one (ps_ret (pe_clN c_plus_2_most (hr.mono (by omega)) (by rfl) (passes_call (takes_of rfl rfl rfl rfl) (fun _ _ _ _ z => z)) (pa_cons (pv 1) (pa_cons (pv 2) pa_nil)) (pk_cons (pv 3) pk_nil)))) pss_nil)
      (pss_cons (ps_if (pt_cmpR (op_eqP (K := K) rfl hr.units) (pv 0) pe_int (nomark _)) (pss_one (ps_ret (pe_clN c_minus_2_most (hr.mono (by omega)) (by rfl) (passes_call (takes_of rfl rfl rfl rfl) (fun _ _ _ _ z => z)) (pa_cons (pv 1) (pa_cons (pv 2) pa_nil)) (pk_cons (pv 3) pk_nil)))) pss_nil)
      (pss_one (ps_ret (pe_clN c_times_2_most (hr.mono (by omega)) (by rfl) (passes_call (takes_of rfl rfl rfl rfl) (fun _ _ _ _ z => z)) (pa_cons (pv 1) (pa_cons (pv 2) pa_nil)) (pk_cons (pv 3) pk_nil)))))), ?_⟩
  exact body3 (x := LactedB (csOf K mg)) (W := fun cls dd _ H => E cls dd H) h (fun _ _ _ _ z => z) (lift_seq (lift_ifs (lift_tst (lift_op rl_eqP (lift_v 0) (lift_int _))) (lift_ret (lift_callN (g := (fun ds es => sel [0, 1, 2] (ds ++ ([] ++ es)))) (fun _ _ _ _ z => z) (fun H vs ds ws es r s _ _ => repL_sel _ (r.append ((h_plus_2_most H).append s))) (lift_cons (lift_v 1) (lift_cons (lift_v 2) lift_nil)) (lift_cons (lift_v 3) lift_nil))) lift_next)
      (lift_seq (lift_ifs (lift_tst (lift_op rl_eqP (lift_v 0) (lift_int _))) (lift_ret (lift_callN (g := (fun ds es => sel [0, 1, 2] (ds ++ ([] ++ es)))) (fun _ _ _ _ z => z) (fun H vs ds ws es r s _ _ => repL_sel _ (r.append ((h_minus_2_most H).append s))) (lift_cons (lift_v 1) (lift_cons (lift_v 2) lift_nil)) (lift_cons (lift_v 3) lift_nil))) lift_next)
      (lift_ret (lift_callN (g := (fun ds es => sel [0, 1, 2] (ds ++ ([] ++ es)))) (fun _ _ _ _ z => z) (fun H vs ds ws es r s _ _ => repL_sel _ (r.append ((h_times_2_most H).append s))) (lift_cons (lift_v 1) (lift_cons (lift_v 2) lift_nil)) (lift_cons (lift_v 3) lift_nil))))) (fun ds Q3 X _ hf => by rw [Lacted_def] at hf; exact hf)
theorem ok_Lacted_plainly (T : Top K mg) (base : Heap) : OkF P w K mg base (L2.CX P w) "_law_acted_plainly" "_law_acted_plainly" s_Lacted_plainly [] [] [] 3 ["_law_kind", "_law_a", "_law_b"] (sp3 K 3 (Lacted_plainly (csOf K mg))) := by
  obtain ⟨v_minus_2, h_minus_2, c_minus_2⟩ := ((ok_minus T base (P := P) (w := w)).cl0 2 (by simp) rfl rfl (fun _ _ _ _ _ _ us ks h1 h2 => match us, ks, h1, h2 with | [_, _], [_], _, _ => ⟨_, _, _, _, _, _, rfl, rfl, rfl⟩)).ex
  obtain ⟨v_plus_2, h_plus_2, c_plus_2⟩ := ((ok_plus T base (P := P) (w := w)).cl0 2 (by simp) rfl rfl (fun _ _ _ _ _ _ us ks h1 h2 => match us, ks, h1, h2 with | [_, _], [_], _, _ => ⟨_, _, _, _, _, _, rfl, rfl, rfl⟩)).ex
  obtain ⟨v_times_2, h_times_2, c_times_2⟩ := ((ok_times T base (P := P) (w := w)).cl0 2 (by simp) rfl rfl (fun _ _ _ _ _ _ us ks h1 h2 => match us, ks, h1, h2 with | [_, _], [_], _, _ => ⟨_, _, _, _, _, _, rfl, rfl, rfl⟩)).ex
  obtain ⟨f, fd, dvs, kvs, rd, rk, F, hm⟩ := T.d_Lacted_plainly.ex
  refine ⟨f, fd, dvs, kvs, rd, rk, F, hm, F.ok sc_Lacted_plainly (sp3_len rfl) (fun cdv A outer s H vs Q E hr h => ?_)⟩
  refine ⟨_, (pss_cons (ps_if (pt_cmpR (op_eqP (K := K) rfl hr.units) (pv 0) pe_int (nomark _)) (pss_one (ps_ret (pe_cl c_plus_2 (hr.mono (by omega)) (by rfl) (passes_call (takes_of rfl rfl rfl rfl) (fun _ _ _ _ z => z)) (pa_cons (pv 1) (pa_cons (pv 2) pa_nil))))) pss_nil)
      (pss_one (ps_ret (pe_ifExp (pt_cmpR (op_eqP (K := K) rfl hr.units) (pv 0) pe_int (nomark _)) (pe_cl c_minus_2 (hr.mono (by omega)) (by rfl) (passes_call (takes_of rfl rfl rfl rfl) (fun _ _ _ _ z => z)) (pa_cons (pv 1) (pa_cons (pv 2) pa_nil))) (pe_cl c_times_2 (hr.mono (by omega)) (by rfl) (passes_call (takes_of rfl rfl rfl rfl) (fun _ _ _ _ z => z)) (pa_cons (pv 1) (pa_cons (pv 2) pa_nil))))))), ?_⟩
  exact body3 (x := Lacted_plainlyB (csOf K mg)) (W := fun cls dd _ H => E cls dd H) h (fun _ _ _ _ z => z) (lift_seq (lift_ifs (lift_tst (lift_op rl_eqP (lift_v 0) (lift_int _))) (lift_ret (lift_call (fun _ _ _ _ z => z) (lift_cons (lift_v 1) (lift_cons (lift_v 2) lift_nil)) h_plus_2)) lift_next)
      (lift_ret (lift_if (lift_tst (lift_op rl_eqP (lift_v 0) (lift_int _))) (lift_call (fun _ _ _ _ z => z) (lift_cons (lift_v 1) (lift_cons (lift_v 2) lift_nil)) h_minus_2) (lift_call (fun _ _ _ _ z => z) (lift_cons (lift_v 1) (lift_cons (lift_v 2) lift_nil)) h_times_2)))) (fun ds Q3 X _ hf => by rw [Lacted_plainly_def] at hf; exact hf)
abbrev QL : Str := ("law" ++ ".<locals>." : Str) ++ "<lambda>"
set_option maxHeartbeats 8000000 in
theorem ok_law (T : Top K mg) (base : Heap) (hp : Plain (csOf K mg)) {f cL PL fw : Addr} {kV doc pm ct oc : Value} {an od : Option Addr} {osl : Array (Option Value)} {dVw kVw docw pmw cdw ctw ocw : Value} {anw odw : Option Addr} {oslw : Array (Option Value)}
    (lk : K.lookup f = some ⟨oc, od, .func (PySem.W.fnOf "law" "law" (defArgs s_law) (defBody s_law) (defScope s_law) .none kV doc pm an (.ref cL) ct), osl⟩) (hcd : PySem.W.codeIn K (.ref cL) "law" = true) (TB : LamX.TabB base mg cL PL)
    (m_why : mg "_law_why" = some (.ref fw)) (k_why : PySem.W.keepIn K (.ref fw) = true) (l_why : K.lookup fw = some ⟨ocw, odw, .func (PySem.W.fnOf "_law_why" "_law_why" (defArgs s_Lwhy) (defBody s_Lwhy) (defScope s_Lwhy) dVw kVw docw pmw anw cdw ctw), oslw⟩) (cc_why : PySem.W.codeIn K cdw "_law_why" = true)
    (b_why : L2.Binds K (PySem.W.fnOf "_law_why" "_law_why" (defArgs s_Lwhy) (defBody s_Lwhy) (defScope s_Lwhy) dVw kVw docw pmw anw cdw ctw) ["_law_act"] []) : FnOk P w K mg base CX0 13 f (PySem.W.fnOf "law" "law" (defArgs s_law) (defBody s_law) (defScope s_law) .none kV doc pm an (.ref cL) ct) ["_law_script"] (spLawT K PL) := by
  obtain ⟨v_Lacted_4, h_Lacted_4, c_Lacted_4⟩ := ((ok_Lacted T base (P := P) (w := w)).cl (fun _ _ _ _ _ _ us hl => match us, hl with | [_, _, _, _], _ => rfl)).ex
  obtain ⟨v_Lacted_plainly_3, h_Lacted_plainly_3, c_Lacted_plainly_3⟩ := ((ok_Lacted_plainly T base (P := P) (w := w)).cl (fun _ _ _ _ _ _ us hl => match us, hl with | [_, _, _], _ => rfl)).ex
  obtain ⟨v_Lcell_1, h_Lcell_1, c_Lcell_1⟩ := ((ok_Lcell T base (P := P) (w := w)).cl (fun _ _ _ _ _ _ us hl => match us, hl with | [_], _ => rfl)).ex
  obtain ⟨v_Lsame_2, h_Lsame_2, c_Lsame_2⟩ := ((ok_Lsame T base (P := P) (w := w) 12).cl (fun _ _ _ _ _ _ us hl => match us, hl with | [_, _], _ => rfl)).ex
  have c_Ltake_2 := cl_take T base (P := P) (w := w)
  have h_Ltake_2 : ∀ H, RepL K H [] [] := fun _ => .nil
  obtain ⟨v_least_2, h_least_2, c_least_2⟩ := ((ok_least T base (P := P) (w := w)).cl (fun _ _ _ _ _ _ us hl => match us, hl with | [_, _], _ => rfl)).ex
  obtain ⟨v_minus_2, h_minus_2, c_minus_2⟩ := ((ok_minus T base (P := P) (w := w)).cl0 2 (by simp) rfl rfl (fun _ _ _ _ _ _ us ks h1 h2 => match us, ks, h1, h2 with | [_, _], [_], _, _ => ⟨_, _, _, _, _, _, rfl, rfl, rfl⟩)).ex
  obtain ⟨v_most_of_2, h_most_of_2, c_most_of_2⟩ := ((ok_most_of T base (P := P) (w := w)).cl (fun _ _ _ _ _ _ us hl => match us, hl with | [_, _], _ => rfl)).ex
  obtain ⟨v_plus_2, h_plus_2, c_plus_2⟩ := ((ok_plus T base (P := P) (w := w)).cl0 2 (by simp) rfl rfl (fun _ _ _ _ _ _ us ks h1 h2 => match us, ks, h1, h2 with | [_, _], [_], _, _ => ⟨_, _, _, _, _, _, rfl, rfl, rfl⟩)).ex
  obtain ⟨v_times_2, h_times_2, c_times_2⟩ := ((ok_times T base (P := P) (w := w)).cl0 2 (by simp) rfl rfl (fun _ _ _ _ _ _ us ks h1 h2 => match us, ks, h1, h2 with | [_, _], [_], _, _ => ⟨_, _, _, _, _, _, rfl, rfl, rfl⟩)).ex
  obtain ⟨u_MOST, w_MOST, zg_MOST, zr_MOST, zt_MOST⟩ := T.zc_MOST
  refine fn_of lk hcd sc_law (fun vs H Q E h => ?_) (fun A outer s H vs Q E hr h => ?_)
  · obtain ⟨a, ns, rfl, _⟩ := h
    rfl
  obtain ⟨a, ns, rfl, hS, hPL, hQ⟩ := h
  obtain ⟨Ts, eTs⟩ : ∃ Ts : List (Addr × Str), Ts = [(PL, QL)] := ⟨_, rfl⟩
  have hmT : (PL, QL) ∈ Ts := by rw [eTs]; exact List.mem_cons_self ..
  have hu : ∀ p ∈ Ts, p.1 = PL → p.2 = QL := fun p hp _ => by
    rw [eTs] at hp
    cases List.mem_singleton.mp hp
    rfl
  have hcode : (PyProof.Rows.envOfC "law" (defScope s_law) s.heap.objs.size f (Value.ref cL)).code = Value.ref cL := rfl
  refine ⟨_, (pss_cons (X := (cxOf CX0 P w K mg base N_law "law" (defScope s_law) f (Value.ref cL) A outer s H E).nox) (ps_set (i := 1) sc_law.nd rfl (Or.inl rfl) (pe_cl (cl_pot T base) (hr.mono (by omega)) (by rfl) pass0 (pa_cons (pv 0) pa_nil))) (pss_cons (ps_for PassesOwn.never (by rfl) (pi_range1 (by rfl) T.zb_range (pa_cons pe_int pa_nil)) (pg_name (i := 2) sc_law.nd rfl (Or.inl rfl))
      (pss_cons (ps_set (i := 3) sc_law.nd rfl (Or.inr rfl) (pe_cl c_Lcell_1 (hr.mono (by omega)) (by rfl) passL (pa_cons (pv 1) pa_nil)))
      (pss_cons (ps_set (i := 4) sc_law.nd rfl (Or.inr rfl) (pe_cl c_Lcell_1 (hr.mono (by omega)) (by rfl) passL (pa_cons (pv 1) pa_nil)))
      (pss_one (ps_if (PW.pt (pw_or (pt_cmpR op_isN (pv 3) pe_non (nomark _)) (pw_or1 (pt_cmpR op_isN (pv 4) pe_non (nomark _))))) (pss_cons (ps_set (i := 5) sc_law.nd rfl (Or.inl rfl) (pe_lst (pa_cons (pe_cl c_plus_2 (hr.mono (by omega)) (by rfl) passL (pa_cons (pv 3) (pa_cons (pv 4) pa_nil))) (pa_cons (pe_cl c_minus_2 (hr.mono (by omega)) (by rfl) passL (pa_cons (pv 3) (pa_cons (pv 4) pa_nil))) (pa_cons (pe_cl c_times_2 (hr.mono (by omega)) (by rfl) passL (pa_cons (pv 3) (pa_cons (pv 4) pa_nil))) (pa_cons (pe_cl c_least_2 (hr.mono (by omega)) (by rfl) passL (pa_cons (pv 3) (pa_cons (pv 4) pa_nil))) (pa_cons (pe_cl c_most_of_2 (hr.mono (by omega)) (by rfl) passL (pa_cons (pv 3) (pa_cons (pv 4) pa_nil))) pa_nil)))))))
      (pss_one (ps_if (pt_not (pt_val (pe_cl c_Lsame_2 (hr.mono (by omega)) (by rfl) passL (pa_cons (pv 5) (pa_cons (pe_op op_mulP (pe_lst (pa_cons pe_non pa_nil)) pe_int) pa_nil))))) (pss_one (ps_ret pe_bl)) pss_nil))) (pss_cons (ps_set (i := 6) sc_law.nd rfl (Or.inl rfl) (pe_ifExp (pt_cmpR op_lt (pv 3) (pv 4) (nomark _)) (pv 3) (pv 4)))
      (pss_cons (ps_if (pt_not (pt_val (pe_cl c_Lsame_2 (hr.mono (by omega)) (by rfl) passL (pa_cons (pe_lst (pa_cons (pe_cl c_least_2 (hr.mono (by omega)) (by rfl) passL (pa_cons (pv 3) (pa_cons (pv 4) pa_nil))) (pa_cons (pe_cl c_most_of_2 (hr.mono (by omega)) (by rfl) passL (pa_cons (pv 3) (pa_cons (pv 4) pa_nil))) pa_nil))) (pa_cons (pe_lst (pa_cons (pv 6) (pa_cons (pe_op op_sub (pe_op (op_addP (K := K) rfl) (pv 3) (pv 4)) (pv 6)) pa_nil))) pa_nil))))) (pss_one (ps_ret pe_bl)) pss_nil)
      (pss_one (ps_for PassesOwn.never (by rfl) (pi_range1 (by rfl) T.zb_range (pa_cons pe_int pa_nil)) (pg_name (i := 7) sc_law.nd rfl (Or.inr rfl))
      (pss_cons (ps_set (i := 8) sc_law.nd rfl (Or.inl rfl) (pe_ix (ix_P (K := K) rfl) (pe_lst (pa_cons (pe_op (op_addP (K := K) rfl) (pv 3) (pv 4)) (pa_cons (pe_op op_sub (pv 3) (pv 4)) (pa_cons (pe_op op_mulP (pv 3) (pv 4)) pa_nil)))) (pv 7) (fun _ _ => rfl)))
      (pss_cons (ps_for PassesOwn.never (by rfl) (pi_P (K := K) rfl (pe_lst (pa_cons (pe_callB call_abs (by rfl) T.zb_abs (by decide +kernel) (pa_cons (pv 8) pa_nil)) (pa_cons (pe_op (op_addP (K := K) rfl) (pe_op (op_addP (K := K) rfl) (pe_callB call_abs (by rfl) T.zb_abs (by decide +kernel) (pa_cons (pv 8) pa_nil)) pe_int) (pe_cl c_Ltake_2 (hr.mono (by omega)) (by rfl) pass0 (pa_cons (pv 1) (pa_cons pe_int pa_nil)))) (pa_cons (pe_callB (call_max2 rfl) (by rfl) T.zb_max (by decide +kernel) (pa_cons pe_int (pa_cons (pe_op op_sub (pe_callB call_abs (by rfl) T.zb_abs (by decide +kernel) (pa_cons (pv 8) pa_nil)) pe_int) pa_nil))) pa_nil))))) (pg_name (i := 9) sc_law.nd rfl (Or.inr rfl))
      (pss_cons (ps_set (i := 10) sc_law.nd rfl (Or.inl rfl) (pe_ifExp (pt_cmpR op_le (pe_callB call_abs (by rfl) T.zb_abs (by decide +kernel) (pa_cons (pv 8) pa_nil)) (pv 9) (nomark _)) (pe_tup (pa_cons pe_str pa_nil)) (pe_tup (pa_cons pe_str pa_nil))))
      (pss_cons (ps_if (pt_not (pt_val (pe_cl c_Lsame_2 (hr.mono (by omega)) (by rfl) passL (pa_cons (LamX.pe_lamcall (T := Ts) (TT := TTwhy K (whyT (csOf K mg)) "none") (k := 3) (by rfl) m_why k_why l_why cc_why b_why sc_Lwhy rfl (Or.inl rfl) (why_gives (fun s H => (HdsOk.cons ⟨by rfl, by decide, .inl T.g_TooGreat⟩ (fun a oe cls d pn _ _ => pss_one (ps_ret (pe_tup (pa_cons pe_str pa_nil)))) (HdsOk.cons ⟨by rfl, by decide, .inl T.g_PourError⟩ (fun a oe cls d pn _ _ => pss_one (ps_ret (pe_tup (pa_cons pe_str pa_nil)))) HdsOk.nil))) (fun _ => rfl)) TB hcode hmT hu (hr.mono (by omega)) (show LamX.LamS (defScope s_law) _ from LamX.lamS_by (by decide +kernel)) rfl (fun _ _ _ _ _ => rfl) (fun A outer s H E f c' hr => (pe_cl c_Lacted_4 (hr.mono (by omega)) (by rfl) (passes_call (takes_of rfl rfl rfl rfl) (fun _ _ _ _ z => z)) (pa_cons (pv 7) (pa_cons (pv 3) (pa_cons (pv 4) (pa_cons (pv 9) pa_nil))))))) (pa_cons (pv 10) pa_nil))))) (pss_one (ps_ret pe_bl)) pss_nil)
      (pss_one (ps_if (PW.pt (pw_and (pt_cmpR (op_eqP (K := K) rfl hr.units) (pv 10) (pe_tup (pa_cons pe_str pa_nil)) (nomark _)) (pw_and1 (pt_not (pt_val (pe_cl c_Lsame_2 (hr.mono (by omega)) (by rfl) passL (pa_cons (pe_cl c_Lacted_4 (hr.mono (by omega)) (by rfl) passL (pa_cons (pv 7) (pa_cons (pv 3) (pa_cons (pv 4) (pa_cons (pv 9) pa_nil))))) (pa_cons (pv 8) pa_nil)))))))) (pss_one (ps_ret pe_bl)) pss_nil)))))
      (pss_cons (ps_set (i := 10) sc_law.nd rfl (Or.inl rfl) (pe_ifExp (pt_cmpR op_lt (pe_callB call_abs (by rfl) T.zb_abs (by decide +kernel) (pa_cons (pv 8) pa_nil)) (pe_op op_pow pe_int pe_int) (nomark _)) (pe_tup (pa_cons pe_str pa_nil)) (pe_tup (pa_cons pe_str pa_nil))))
      (pss_cons (ps_if (pt_not (pt_val (pe_cl c_Lsame_2 (hr.mono (by omega)) (by rfl) passL (pa_cons (LamX.pe_lamcall (T := Ts) (TT := TTwhy K (whyT (csOf K mg)) "none") (k := 3) (by rfl) m_why k_why l_why cc_why b_why sc_Lwhy rfl (Or.inl rfl) (why_gives (fun s H => (HdsOk.cons ⟨by rfl, by decide, .inl T.g_TooGreat⟩ (fun a oe cls d pn _ _ => pss_one (ps_ret (pe_tup (pa_cons pe_str pa_nil)))) (HdsOk.cons ⟨by rfl, by decide, .inl T.g_PourError⟩ (fun a oe cls d pn _ _ => pss_one (ps_ret (pe_tup (pa_cons pe_str pa_nil)))) HdsOk.nil))) (fun _ => rfl)) TB hcode hmT hu (hr.mono (by omega)) (show LamX.LamS (defScope s_law) _ from LamX.lamS_by (by decide +kernel)) rfl (fun _ _ _ _ _ => rfl) (fun A outer s H E f c' hr => (pe_cl c_Lacted_plainly_3 (hr.mono (by omega)) (by rfl) (passes_call (takes_of rfl rfl rfl rfl) (fun _ _ _ _ z => z)) (pa_cons (pv 7) (pa_cons (pv 3) (pa_cons (pv 4) pa_nil)))))) (pa_cons (pv 10) pa_nil))))) (pss_one (ps_ret pe_bl)) pss_nil)
      (pss_one (ps_if (PW.pt (pw_and (pt_cmpR (op_eqP (K := K) rfl hr.units) (pv 10) (pe_tup (pa_cons pe_str pa_nil)) (nomark _)) (pw_and1 (pt_not (pt_val (pe_cl c_Lsame_2 (hr.mono (by omega)) (by rfl) passL (pa_cons (pe_cl c_Lacted_plainly_3 (hr.mono (by omega)) (by rfl) passL (pa_cons (pv 7) (pa_cons (pv 3) (pa_cons (pv 4) pa_nil)))) (pa_cons (pv 8) pa_nil)))))))) (pss_one (ps_ret pe_bl)) pss_nil)))))))))))))))
      (pss_one (ps_ret (pe_and (pe_cmpR (op_eqP (K := K) rfl hr.units) (pe_cl c_plus_2 (hr.mono (by omega)) (by rfl) passL (pa_cons (pe_glob (by rfl) zg_MOST zr_MOST) (pa_cons pe_int pa_nil))) (pe_glob (by rfl) zg_MOST zr_MOST) (nomark _)) (pe_one (pe_cmpR op_isN (pe_cl c_times_2 (hr.mono (by omega)) (by rfl) passL (pa_cons pe_non (pa_cons (pe_glob (by rfl) zg_MOST zr_MOST) pa_nil))) pe_non (nomark _)))))))).nox, ?_⟩
  refine ⟨_, rfl, a, ns, rfl, hS, fun p cc H1 hp0 hc0 hpt hH => ?_⟩
  subst eTs
  exact law_restT (x := lawB (csOf K mg) p) (W := fun _ _ _ _ => False) 9 (lift_seq (lift_for (vs := [2]) (lift_iR (lift_cons (lift_int _) lift_nil)) (lift_name 2 (by decide))
      (lift_seq (lift_asg (lift_callP0 (lift_cons (lift_v 1) lift_nil) h_Lcell_1) (lift_name (vs := [3]) 3 (by decide)))
      (lift_seq (lift_asg (lift_callP0 (lift_cons (lift_v 1) lift_nil) h_Lcell_1) (lift_name (vs := [4]) 4 (by decide)))
      (lift_ifs (lift_or (lift_tst (lift_op rl_isN (lift_v 3) lift_non)) (lift_tst (lift_op rl_isN (lift_v 4) lift_non))) (lift_seq (lift_asg (lift_lst (lift_cons (lift_call0 (lift_cons (lift_v 3) (lift_cons (lift_v 4) lift_nil)) h_plus_2) (lift_cons (lift_call0 (lift_cons (lift_v 3) (lift_cons (lift_v 4) lift_nil)) h_minus_2) (lift_cons (lift_call0 (lift_cons (lift_v 3) (lift_cons (lift_v 4) lift_nil)) h_times_2) (lift_cons (lift_call0 (lift_cons (lift_v 3) (lift_cons (lift_v 4) lift_nil)) h_least_2) (lift_cons (lift_call0 (lift_cons (lift_v 3) (lift_cons (lift_v 4) lift_nil)) h_most_of_2) lift_nil)))))) (lift_name (vs := [5]) 5 (by decide)))
      (lift_ifs (lift_not (lift_tB (lift_call0 (lift_cons (lift_v 5) (lift_cons (lift_op rl_mulP (lift_lst (lift_cons lift_non lift_nil)) (lift_int _)) lift_nil)) h_Lsame_2))) (lift_ret (lift_bl _)) lift_next)) (lift_seq (lift_asg (lift_if (lift_tst (lift_op rl_lt (lift_v 3) (lift_v 4))) (lift_v 3) (lift_v 4)) (lift_name (vs := [6]) 6 (by decide)))
      (lift_seq (lift_ifs (lift_not (lift_tB (lift_call0 (lift_cons (lift_lst (lift_cons (lift_call0 (lift_cons (lift_v 3) (lift_cons (lift_v 4) lift_nil)) h_least_2) (lift_cons (lift_call0 (lift_cons (lift_v 3) (lift_cons (lift_v 4) lift_nil)) h_most_of_2) lift_nil))) (lift_cons (lift_lst (lift_cons (lift_v 6) (lift_cons (lift_op rl_sub (lift_op rl_addP (lift_v 3) (lift_v 4)) (lift_v 6)) lift_nil))) lift_nil)) h_Lsame_2))) (lift_ret (lift_bl _)) lift_next)
      (lift_for (vs := [7]) (lift_iR (lift_cons (lift_int _) lift_nil)) (lift_name 7 (by decide))
      (lift_seq (lift_asg (lift_op rl_ixP (lift_lst (lift_cons (lift_op rl_addP (lift_v 3) (lift_v 4)) (lift_cons (lift_op rl_sub (lift_v 3) (lift_v 4)) (lift_cons (lift_op rl_mulP (lift_v 3) (lift_v 4)) lift_nil)))) (lift_v 7)) (lift_name (vs := [8]) 8 (by decide)))
      (lift_seq (lift_for (vs := [9]) (lift_iP (lift_lst (lift_cons (lift_cb rl_abs (lift_cons (lift_v 8) lift_nil)) (lift_cons (lift_op rl_addP (lift_op rl_addP (lift_cb rl_abs (lift_cons (lift_v 8) lift_nil)) (lift_int _)) (lift_callP0 (lift_cons (lift_v 1) (lift_cons (lift_int _) lift_nil)) h_Ltake_2)) (lift_cons (lift_cb rl_max2 (lift_cons (lift_int _) (lift_cons (lift_op rl_sub (lift_cb rl_abs (lift_cons (lift_v 8) lift_nil)) (lift_int _)) lift_nil))) lift_nil))))) (lift_name 9 (by decide))
      (lift_seq (lift_asg (lift_if (lift_tst (lift_op rl_le (lift_cb rl_abs (lift_cons (lift_v 8) lift_nil)) (lift_v 9))) (lift_tup (lift_cons (lift_str _) lift_nil)) (lift_tup (lift_cons (lift_str _) lift_nil))) (lift_name (vs := [10]) 10 (by decide)))
      (lift_seq (lift_ifs (lift_not (lift_tB (lift_call0 (lift_cons (lift_lam4 (l := (whyT (csOf K mg))) (s0 := "none") (fun E => (lift_call (fun _ _ _ _ z => z) (lift_cons (lift_v 7) (lift_cons (lift_v 3) (lift_cons (lift_v 4) (lift_cons (lift_v 9) lift_nil)))) h_Lacted_4))) (lift_cons (lift_v 10) lift_nil)) h_Lsame_2))) (lift_ret (lift_bl _)) lift_next)
      (lift_ifs (lift_and (lift_tst (lift_op rl_eqP (lift_v 10) (lift_tup (lift_cons (lift_str _) lift_nil)))) (lift_not (lift_tB (lift_call0 (lift_cons (lift_call0 (lift_cons (lift_v 7) (lift_cons (lift_v 3) (lift_cons (lift_v 4) (lift_cons (lift_v 9) lift_nil)))) h_Lacted_4) (lift_cons (lift_v 8) lift_nil)) h_Lsame_2)))) (lift_ret (lift_bl _)) lift_next))))
      (lift_seq (lift_asg (lift_if (lift_tst (lift_op rl_lt (lift_cb rl_abs (lift_cons (lift_v 8) lift_nil)) (lift_op rl_pow (lift_int _) (lift_int _)))) (lift_tup (lift_cons (lift_str _) lift_nil)) (lift_tup (lift_cons (lift_str _) lift_nil))) (lift_name (vs := [10]) 10 (by decide)))
      (lift_seq (lift_ifs (lift_not (lift_tB (lift_call0 (lift_cons (lift_lam4 (l := (whyT (csOf K mg))) (s0 := "none") (fun E => (lift_call (fun _ _ _ _ z => z) (lift_cons (lift_v 7) (lift_cons (lift_v 3) (lift_cons (lift_v 4) lift_nil))) h_Lacted_plainly_3))) (lift_cons (lift_v 10) lift_nil)) h_Lsame_2))) (lift_ret (lift_bl _)) lift_next)
      (lift_ifs (lift_and (lift_tst (lift_op rl_eqP (lift_v 10) (lift_tup (lift_cons (lift_str _) lift_nil)))) (lift_not (lift_tB (lift_call0 (lift_cons (lift_call0 (lift_cons (lift_v 7) (lift_cons (lift_v 3) (lift_cons (lift_v 4) lift_nil))) h_Lacted_plainly_3) (lift_cons (lift_v 8) lift_nil)) h_Lsame_2)))) (lift_ret (lift_bl _)) lift_next))))))))))))
      (lift_ret (lift_andV (lift_op rl_eqP (lift_call0 (lift_cons (lift_k zt_MOST) (lift_cons (lift_int _) lift_nil)) h_plus_2) (lift_k zt_MOST)) (lift_op rl_isN (lift_call0 (lift_cons lift_non (lift_cons (lift_k zt_MOST) lift_nil)) h_times_2) lift_non)))) hpt (fun q hq => by cases List.mem_singleton.mp hq; exact LamX.TabS.nil (hH _ _ hPL)) hQ (hp p)
end
end Law

namespace Law
open PySem L2 M3
/-! ### the law's own comparison -/
mutual
def sameT : T → T → Bool
  | f, .non => isNon f
  | f, .bl b => match f with | .bl a => decide (a = b) | _ => false
  | f, .int j => match f with | .int i => decide (i = j) | _ => false
  | f, .str y => match f with | .str x => decide (x = y) | _ => false
  | f, .lst ys => match f with | .lst xs => sameL xs ys | _ => false
  | f, .tup ys => match f with | .tup xs => sameL xs ys | _ => false
  | _, _ => false
def sameL : List T → List T → Bool
  | [], [] => true
  | x :: xs, y :: ys => sameT x y && sameL xs ys
  | _, _ => false
end
mutual
def plain : T → Bool
  | .non => true
  | .bl _ => true
  | .int _ => true
  | .str _ => true
  | .lst xs => decide (xs.length < 100000) && plainL xs
  | .tup xs => decide (xs.length < 100000) && plainL xs
  | _ => false
def plainL : List T → Bool
  | [] => true
  | x :: xs => plain x && plainL xs
end
mutual
def dep : T → Nat
  | .lst xs => depL xs + 1
  | .tup xs => depL xs + 1
  | _ => 0
def depL : List T → Nat
  | [] => 0
  | x :: xs => max (dep x) (depL xs)
end
@[simp] theorem plain_non : plain .non = true := by simp [plain]
@[simp] theorem plain_bl (b : Bool) : plain (.bl b) = true := by simp [plain]
@[simp] theorem plain_int (b : Int) : plain (.int b) = true := by simp [plain]
@[simp] theorem plain_str (b : Str) : plain (.str b) = true := by simp [plain]
@[simp] theorem plain_lst (b : List T) : plain (.lst b) = (decide (b.length < 100000) && plainL b) := by simp [plain]
@[simp] theorem plain_tup (b : List T) : plain (.tup b) = (decide (b.length < 100000) && plainL b) := by simp [plain]
@[simp] theorem plainL_nil : plainL [] = true := by simp [plainL]
@[simp] theorem plainL_cons (x : T) (xs : List T) : plainL (x :: xs) = (plain x && plainL xs) := by simp [plainL]
@[simp] theorem dep_non : dep .non = 0 := by simp [dep]
@[simp] theorem dep_bl (b : Bool) : dep (.bl b) = 0 := by simp [dep]
@[simp] theorem dep_int (b : Int) : dep (.int b) = 0 := by simp [dep]
@[simp] theorem dep_str (b : Str) : dep (.str b) = 0 := by simp [dep]
@[simp] theorem dep_lst (b : List T) : dep (.lst b) = depL b + 1 := by simp [dep]
@[simp] theorem dep_tup (b : List T) : dep (.tup b) = depL b + 1 := by simp [dep]
@[simp] theorem depL_nil : depL [] = 0 := by simp [depL]
@[simp] theorem depL_cons (x : T) (xs : List T) : depL (x :: xs) = max (dep x) (depL xs) := by simp [depL]
@[simp] theorem same_bl (a b : Bool) : sameT (.bl a) (.bl b) = decide (a = b) := by simp [sameT]
@[simp] theorem same_int (a b : Int) : sameT (.int a) (.int b) = decide (a = b) := by simp [sameT]
@[simp] theorem same_str (a b : Str) : sameT (.str a) (.str b) = decide (a = b) := by simp [sameT]
@[simp] theorem same_non (a : T) : sameT a .non = isNon a := by simp [sameT]
@[simp] theorem same_lst (a b : List T) : sameT (.lst a) (.lst b) = sameL a b := by simp [sameT]
@[simp] theorem same_tup (a b : List T) : sameT (.tup a) (.tup b) = sameL a b := by simp [sameT]
@[simp] theorem sameL_nil : sameL [] [] = true := by simp [sameL]
@[simp] theorem sameL_cons (x y : T) (xs ys : List T) : sameL (x :: xs) (y :: ys) = (sameT x y && sameL xs ys) := by simp [sameL]
mutual
theorem sameT_refl : ∀ t : T, plain t = true → sameT t t = true
  | .non, _ => rfl
  | .bl b, _ => by simp [sameT]
  | .int b, _ => by simp [sameT]
  | .str b, _ => by simp [sameT]
  | .lst xs, h => by simp only [plain, Bool.and_eq_true] at h; simp only [sameT]; exact sameL_refl xs h.2
  | .tup xs, h => by simp only [plain, Bool.and_eq_true] at h; simp only [sameT]; exact sameL_refl xs h.2
  | .ty _, h => by simp [plain] at h
  | .ref _, h => by simp [plain] at h
  | .dic _, h => by simp [plain] at h
  | .ins _ _, h => by simp [plain] at h
theorem sameL_refl : ∀ ts : List T, plainL ts = true → sameL ts ts = true
  | [], _ => rfl
  | t :: ts, h => by
    simp only [plainL, Bool.and_eq_true] at h
    simp only [sameL, Bool.and_eq_true]
    exact ⟨sameT_refl t h.1, sameL_refl ts h.2⟩
end
theorem sameL_len : ∀ xs ys : List T, sameL xs ys = true → xs.length = ys.length
  | [], [], _ => rfl
  | x :: xs, y :: ys, h => by
    simp only [sameL, Bool.and_eq_true] at h
    simp [sameL_len xs ys h.2]
  | [], _ :: _, h => by simp [sameL] at h
  | _ :: _, [], h => by simp [sameL] at h
def sameBs : List T → List T → List Bool
  | x :: xs, y :: ys => sameT x y :: sameBs xs ys
  | _, _ => []
theorem sameBs_all : ∀ xs ys : List T, xs.length = ys.length → (sameBs xs ys).all id = sameL xs ys
  | [], [], _ => rfl
  | x :: xs, y :: ys, h => by
    simp only [sameBs, sameL, List.all_cons, id]
    rw [← sameBs_all xs ys (by simpa using h)]
  | [], _ :: _, h => by simp at h
  | _ :: _, [], h => by simp at h
theorem tynP {t : T} (h : plain t = true) : ∃ n, tyn t = some n := by
  cases t with
  | ty n => simp [plain] at h
  | ref n => simp [plain] at h
  | ins n => simp [plain] at h
  | dic n => exact ⟨_, rfl⟩
  | _ => exact ⟨_, rfl⟩
abbrev SameOk (r : F3) (n : Nat) : Prop := ∀ x y Q X, plain x = true → plain y = true → dep y < n → r [x, y] Q X = Q (.bl (sameT x y))
theorem same_comp {r : F3} {n : Nat} (hr : SameOk r n) {a b c d : Sl} {X : X3} {Q : List T → Prop} : ∀ (xs ys : List T) (acc : List T), plainL xs = true → plainL ys = true → depL ys < n → acc.length + xs.length < sizeLine → xs.length = ys.length →
    comp3 (gtup3 2 (gcons3 (name3 2) (gcons3 (name3 3) gnil3))) yes3 (fn30 2 r (cons3 (v3 2) (cons3 (v3 3) nil3)) []) [a, b, c, d] X Q (pairT xs ys) acc = Q (acc ++ (sameBs xs ys).map T.bl)
  | [], [], acc, _, _, _, _, _ => by simp [pairT, sameBs, comp3]
  | x :: xs, y :: ys, acc, h1, h2, h3, h4, h5 => by
    simp only [plainL, Bool.and_eq_true] at h1 h2
    simp only [depL] at h3
    have e1 := hr x y
    have e2 := same_comp hr (a := a) (b := b) (c := c) (d := d) (X := X) (Q := Q) xs ys (acc ++ [.bl (sameT x y)]) h1.2 h2.2 (by omega) (by simp at h4 ⊢; omega) (by simpa using h5)
    have h6 : acc.length < sizeLine := by simp at h4; omega
    simp [pairT, comp3, gtup3, gcons3, gnil3, name3, yes3, fn30, cons3, nil3, v3, slot, e1 _ _ h1.1 h2.1 (by omega), e2, h6, sameBs]
  | [], _ :: _, _, _, _, _, _, h => by simp at h
  | _ :: _, [], _, _, _, _, _, h => by simp at h
theorem same_ok (C : Cs) : ∀ n, SameOk (Lsame C n) n
  | 0 => fun x y Q X _ _ h => by omega
  | n + 1 => by
    intro fo du Q X p1 p2 hd
    have ih := same_ok C n
    rw [Lsame_succ]
    have key : ∀ (xs ys : List T) (a b c d : Sl) (Q' : List T → Prop), plainL xs = true → plainL ys = true → depL ys < n → xs.length < 100000 → xs.length = ys.length →
      comp3 (gtup3 2 (gcons3 (name3 2) (gcons3 (name3 3) gnil3))) yes3 (fn30 2 (Lsame C n) (cons3 (v3 2) (cons3 (v3 3) nil3)) []) [a, b, c, d] X Q' (pairT xs ys) [] = Q' ((sameBs xs ys).map T.bl) := fun xs ys a b c d Q' h1 h2 h3 h4 h5 => by
        rw [same_comp ih xs ys [] h1 h2 h3 (by show 0 + xs.length < 16777216; omega) h5, List.nil_append]
    have neL : ∀ xs ys : List T, xs.length ≠ ys.length → sameL xs ys = false := fun xs ys h => by
      cases z : sameL xs ys with
      | false => rfl
      | true => exact absurd (sameL_len xs ys z) h
    generalize Lsame C n = r at ih key
    cases du with
    | non => simp [LsameB, seq3, next3, ret3, retN3, ifs3, drop3, asg3, name3, tst3, and3, or3, not3, andV3, orV3, notV3, if3, v3, k3, op3, un3, nil3, cons3, call3, tup3, lst3, chain3, fn30, fn3, fnN30, fnN3, fnP30, i2, i2c, i1, isN3, notN3, eqS3, neS3, ixL3, ixT3, len3, all3, any3, abs3, max23, min23, isi3, isB3, truth3, start3, slot, flatT, scal, tyn, isNon, lenT, truT, isiB, Option.bind, take3, kb_non_bool, kb_non_int, kb_non_str, kb_non_list, kb_non_tuple, kb_bool_bool, kb_bool_int, kb_bool_str, kb_bool_list, kb_bool_tuple, kb_int_bool, kb_int_int, kb_int_str, kb_int_list, kb_int_tuple, kb_str_bool, kb_str_int, kb_str_str, kb_str_list, kb_str_tuple, kb_list_bool, kb_list_int, kb_list_str, kb_list_list, kb_list_tuple, kb_tuple_bool, kb_tuple_int, kb_tuple_str, kb_tuple_list, kb_tuple_tuple, addP, mulP, ixP, slP, eqP, neP, isSeq, iterP, itemsP, no3, part3, sl3, raise3, brk3, cont3, sameT]
    | bl b => cases fo <;> simp [plain] at p1 <;> simp [LsameB, seq3, next3, ret3, retN3, ifs3, drop3, asg3, name3, tst3, and3, or3, not3, andV3, orV3, notV3, if3, v3, k3, op3, un3, nil3, cons3, call3, tup3, lst3, chain3, fn30, fn3, fnN30, fnN3, fnP30, i2, i2c, i1, isN3, notN3, eqS3, neS3, ixL3, ixT3, len3, all3, any3, abs3, max23, min23, isi3, isB3, truth3, start3, slot, flatT, scal, tyn, isNon, lenT, truT, isiB, Option.bind, take3, kb_non_bool, kb_non_int, kb_non_str, kb_non_list, kb_non_tuple, kb_bool_bool, kb_bool_int, kb_bool_str, kb_bool_list, kb_bool_tuple, kb_int_bool, kb_int_int, kb_int_str, kb_int_list, kb_int_tuple, kb_str_bool, kb_str_int, kb_str_str, kb_str_list, kb_str_tuple, kb_list_bool, kb_list_int, kb_list_str, kb_list_list, kb_list_tuple, kb_tuple_bool, kb_tuple_int, kb_tuple_str, kb_tuple_list, kb_tuple_tuple, addP, mulP, ixP, slP, eqP, neP, isSeq, iterP, itemsP, no3, part3, sl3, raise3, brk3, cont3, sameT]
    | int j => cases fo <;> simp [plain] at p1 <;> simp [LsameB, seq3, next3, ret3, retN3, ifs3, drop3, asg3, name3, tst3, and3, or3, not3, andV3, orV3, notV3, if3, v3, k3, op3, un3, nil3, cons3, call3, tup3, lst3, chain3, fn30, fn3, fnN30, fnN3, fnP30, i2, i2c, i1, isN3, notN3, eqS3, neS3, ixL3, ixT3, len3, all3, any3, abs3, max23, min23, isi3, isB3, truth3, start3, slot, flatT, scal, tyn, isNon, lenT, truT, isiB, Option.bind, take3, kb_non_bool, kb_non_int, kb_non_str, kb_non_list, kb_non_tuple, kb_bool_bool, kb_bool_int, kb_bool_str, kb_bool_list, kb_bool_tuple, kb_int_bool, kb_int_int, kb_int_str, kb_int_list, kb_int_tuple, kb_str_bool, kb_str_int, kb_str_str, kb_str_list, kb_str_tuple, kb_list_bool, kb_list_int, kb_list_str, kb_list_list, kb_list_tuple, kb_tuple_bool, kb_tuple_int, kb_tuple_str, kb_tuple_list, kb_tuple_tuple, addP, mulP, ixP, slP, eqP, neP, isSeq, iterP, itemsP, no3, part3, sl3, raise3, brk3, cont3, sameT]
    | str y => cases fo <;> simp [plain] at p1 <;> simp [LsameB, seq3, next3, ret3, retN3, ifs3, drop3, asg3, name3, tst3, and3, or3, not3, andV3, orV3, notV3, if3, v3, k3, op3, un3, nil3, cons3, call3, tup3, lst3, chain3, fn30, fn3, fnN30, fnN3, fnP30, i2, i2c, i1, isN3, notN3, eqS3, neS3, ixL3, ixT3, len3, all3, any3, abs3, max23, min23, isi3, isB3, truth3, start3, slot, flatT, scal, tyn, isNon, lenT, truT, isiB, Option.bind, take3, kb_non_bool, kb_non_int, kb_non_str, kb_non_list, kb_non_tuple, kb_bool_bool, kb_bool_int, kb_bool_str, kb_bool_list, kb_bool_tuple, kb_int_bool, kb_int_int, kb_int_str, kb_int_list, kb_int_tuple, kb_str_bool, kb_str_int, kb_str_str, kb_str_list, kb_str_tuple, kb_list_bool, kb_list_int, kb_list_str, kb_list_list, kb_list_tuple, kb_tuple_bool, kb_tuple_int, kb_tuple_str, kb_tuple_list, kb_tuple_tuple, addP, mulP, ixP, slP, eqP, neP, isSeq, iterP, itemsP, no3, part3, sl3, raise3, brk3, cont3, sameT]
    | lst ys =>
      simp only [plain, Bool.and_eq_true, decide_eq_true_eq] at p2
      have hd' : depL ys < n := by simp only [dep] at hd; omega
      cases fo with
      | lst xs =>
        simp only [plain, Bool.and_eq_true, decide_eq_true_eq] at p1
        by_cases hl : xs.length = ys.length
        · simp [LsameB, seq3, next3, ret3, retN3, ifs3, drop3, asg3, name3, tst3, and3, or3, not3, andV3, orV3, notV3, if3, v3, k3, op3, un3, nil3, cons3, call3, tup3, lst3, chain3, fn30, fn3, fnN30, fnN3, fnP30, i2, i2c, i1, isN3, notN3, eqS3, neS3, ixL3, ixT3, len3, all3, any3, abs3, max23, min23, isi3, isB3, truth3, start3, slot, flatT, scal, tyn, isNon, lenT, truT, isiB, Option.bind, take3, kb_non_bool, kb_non_int, kb_non_str, kb_non_list, kb_non_tuple, kb_bool_bool, kb_bool_int, kb_bool_str, kb_bool_list, kb_bool_tuple, kb_int_bool, kb_int_int, kb_int_str, kb_int_list, kb_int_tuple, kb_str_bool, kb_str_int, kb_str_str, kb_str_list, kb_str_tuple, kb_list_bool, kb_list_int, kb_list_str, kb_list_list, kb_list_tuple, kb_tuple_bool, kb_tuple_int, kb_tuple_str, kb_tuple_list, kb_tuple_tuple, addP, mulP, ixP, slP, eqP, neP, isSeq, iterP, itemsP, no3, part3, sl3, raise3, brk3, cont3, hl, lc3, iterZ3, zipT, noOwn, wipe3, key xs ys _ _ _ _ _ p1.2 p2.2 hd' p1.1 hl, bls_map, sameBs_all xs ys hl]
        · simp [LsameB, seq3, next3, ret3, retN3, ifs3, drop3, asg3, name3, tst3, and3, or3, not3, andV3, orV3, notV3, if3, v3, k3, op3, un3, nil3, cons3, call3, tup3, lst3, chain3, fn30, fn3, fnN30, fnN3, fnP30, i2, i2c, i1, isN3, notN3, eqS3, neS3, ixL3, ixT3, len3, all3, any3, abs3, max23, min23, isi3, isB3, truth3, start3, slot, flatT, scal, tyn, isNon, lenT, truT, isiB, Option.bind, take3, kb_non_bool, kb_non_int, kb_non_str, kb_non_list, kb_non_tuple, kb_bool_bool, kb_bool_int, kb_bool_str, kb_bool_list, kb_bool_tuple, kb_int_bool, kb_int_int, kb_int_str, kb_int_list, kb_int_tuple, kb_str_bool, kb_str_int, kb_str_str, kb_str_list, kb_str_tuple, kb_list_bool, kb_list_int, kb_list_str, kb_list_list, kb_list_tuple, kb_tuple_bool, kb_tuple_int, kb_tuple_str, kb_tuple_list, kb_tuple_tuple, addP, mulP, ixP, slP, eqP, neP, isSeq, iterP, itemsP, no3, part3, sl3, raise3, brk3, cont3, sameT, hl, neL xs ys hl, Int.ofNat_inj]
      | _ => simp [plain] at p1 <;> simp [LsameB, seq3, next3, ret3, retN3, ifs3, drop3, asg3, name3, tst3, and3, or3, not3, andV3, orV3, notV3, if3, v3, k3, op3, un3, nil3, cons3, call3, tup3, lst3, chain3, fn30, fn3, fnN30, fnN3, fnP30, i2, i2c, i1, isN3, notN3, eqS3, neS3, ixL3, ixT3, len3, all3, any3, abs3, max23, min23, isi3, isB3, truth3, start3, slot, flatT, scal, tyn, isNon, lenT, truT, isiB, Option.bind, take3, kb_non_bool, kb_non_int, kb_non_str, kb_non_list, kb_non_tuple, kb_bool_bool, kb_bool_int, kb_bool_str, kb_bool_list, kb_bool_tuple, kb_int_bool, kb_int_int, kb_int_str, kb_int_list, kb_int_tuple, kb_str_bool, kb_str_int, kb_str_str, kb_str_list, kb_str_tuple, kb_list_bool, kb_list_int, kb_list_str, kb_list_list, kb_list_tuple, kb_tuple_bool, kb_tuple_int, kb_tuple_str, kb_tuple_list, kb_tuple_tuple, addP, mulP, ixP, slP, eqP, neP, isSeq, iterP, itemsP, no3, part3, sl3, raise3, brk3, cont3, sameT]
    | tup ys =>
      simp only [plain, Bool.and_eq_true, decide_eq_true_eq] at p2
      have hd' : depL ys < n := by simp only [dep] at hd; omega
      cases fo with
      | tup xs =>
        simp only [plain, Bool.and_eq_true, decide_eq_true_eq] at p1
        by_cases hl : xs.length = ys.length
        · simp [LsameB, seq3, next3, ret3, retN3, ifs3, drop3, asg3, name3, tst3, and3, or3, not3, andV3, orV3, notV3, if3, v3, k3, op3, un3, nil3, cons3, call3, tup3, lst3, chain3, fn30, fn3, fnN30, fnN3, fnP30, i2, i2c, i1, isN3, notN3, eqS3, neS3, ixL3, ixT3, len3, all3, any3, abs3, max23, min23, isi3, isB3, truth3, start3, slot, flatT, scal, tyn, isNon, lenT, truT, isiB, Option.bind, take3, kb_non_bool, kb_non_int, kb_non_str, kb_non_list, kb_non_tuple, kb_bool_bool, kb_bool_int, kb_bool_str, kb_bool_list, kb_bool_tuple, kb_int_bool, kb_int_int, kb_int_str, kb_int_list, kb_int_tuple, kb_str_bool, kb_str_int, kb_str_str, kb_str_list, kb_str_tuple, kb_list_bool, kb_list_int, kb_list_str, kb_list_list, kb_list_tuple, kb_tuple_bool, kb_tuple_int, kb_tuple_str, kb_tuple_list, kb_tuple_tuple, addP, mulP, ixP, slP, eqP, neP, isSeq, iterP, itemsP, no3, part3, sl3, raise3, brk3, cont3, hl, lc3, iterZ3, zipT, noOwn, wipe3, key xs ys _ _ _ _ _ p1.2 p2.2 hd' p1.1 hl, bls_map, sameBs_all xs ys hl]
        · simp [LsameB, seq3, next3, ret3, retN3, ifs3, drop3, asg3, name3, tst3, and3, or3, not3, andV3, orV3, notV3, if3, v3, k3, op3, un3, nil3, cons3, call3, tup3, lst3, chain3, fn30, fn3, fnN30, fnN3, fnP30, i2, i2c, i1, isN3, notN3, eqS3, neS3, ixL3, ixT3, len3, all3, any3, abs3, max23, min23, isi3, isB3, truth3, start3, slot, flatT, scal, tyn, isNon, lenT, truT, isiB, Option.bind, take3, kb_non_bool, kb_non_int, kb_non_str, kb_non_list, kb_non_tuple, kb_bool_bool, kb_bool_int, kb_bool_str, kb_bool_list, kb_bool_tuple, kb_int_bool, kb_int_int, kb_int_str, kb_int_list, kb_int_tuple, kb_str_bool, kb_str_int, kb_str_str, kb_str_list, kb_str_tuple, kb_list_bool, kb_list_int, kb_list_str, kb_list_list, kb_list_tuple, kb_tuple_bool, kb_tuple_int, kb_tuple_str, kb_tuple_list, kb_tuple_tuple, addP, mulP, ixP, slP, eqP, neP, isSeq, iterP, itemsP, no3, part3, sl3, raise3, brk3, cont3, sameT, hl, neL xs ys hl, Int.ofNat_inj]
      | _ => simp [plain] at p1 <;> simp [LsameB, seq3, next3, ret3, retN3, ifs3, drop3, asg3, name3, tst3, and3, or3, not3, andV3, orV3, notV3, if3, v3, k3, op3, un3, nil3, cons3, call3, tup3, lst3, chain3, fn30, fn3, fnN30, fnN3, fnP30, i2, i2c, i1, isN3, notN3, eqS3, neS3, ixL3, ixT3, len3, all3, any3, abs3, max23, min23, isi3, isB3, truth3, start3, slot, flatT, scal, tyn, isNon, lenT, truT, isiB, Option.bind, take3, kb_non_bool, kb_non_int, kb_non_str, kb_non_list, kb_non_tuple, kb_bool_bool, kb_bool_int, kb_bool_str, kb_bool_list, kb_bool_tuple, kb_int_bool, kb_int_int, kb_int_str, kb_int_list, kb_int_tuple, kb_str_bool, kb_str_int, kb_str_str, kb_str_list, kb_str_tuple, kb_list_bool, kb_list_int, kb_list_str, kb_list_list, kb_list_tuple, kb_tuple_bool, kb_tuple_int, kb_tuple_str, kb_tuple_list, kb_tuple_tuple, addP, mulP, ixP, slP, eqP, neP, isSeq, iterP, itemsP, no3, part3, sl3, raise3, brk3, cont3, sameT]
    | _ => simp [plain] at p2
end Law

namespace Law
open PySem L2 M3
/-! ### the law's own cells -/
abbrev MOSTi : Int := 999999999999999999999999999999
def isCellTree (t : T) : Prop := t = .non ∨ ∃ i : Int, t = .int i ∧ -MOSTi ≤ i ∧ i ≤ MOSTi
theorem cell_of (C : Cs) {p : Addr} {Q : T → Prop} {X : X3} (q : ∀ t, isCellTree t → Q t) : Lcell C [.ref p] Q X := by
  rw [Lcell_def]
  show LcellB C p { nx := fun _ => Q .non, rt := Q, xn := fun _ => X } (start3 3 [.ref p])
  unfold LcellB
  have qi : ∀ i : Int, -MOSTi ≤ i → i ≤ MOSTi → Q (.int i) := fun i a b => q _ (.inr ⟨i, rfl, a, b⟩)
  have qn : Q .non := q _ (.inl rfl)
  refine seq_by (fun σ' => ∃ r : Int, 0 ≤ r ∧ r < 16 ∧ σ' = [Sl.val (.ref p), Sl.val (.int r), Sl.no]) (fun nx hn => ?_) ?_
  · refine ⟨rfl, rfl, by decide, by decide, fun r h0 h1 => hn _ ⟨r, h0, h1, rfl⟩⟩
  rintro σ' ⟨r, h0, h1, rfl⟩
  refine seq_by (fun σ' => σ' = [Sl.val (.ref p), Sl.val (.int r), Sl.no]) (fun nx hn => ?_) ?_
  · have e := hn _ rfl
    by_cases a : r < 2
    · simpa [seq3, next3, ret3, retN3, ifs3, drop3, asg3, name3, tst3, and3, or3, not3, andV3, orV3, notV3, if3, v3, k3, op3, un3, nil3, cons3, call3, tup3, lst3, chain3, fn30, fn3, fnN30, fnN3, fnP30, i2, i2c, i1, isN3, notN3, eqS3, neS3, ixL3, ixT3, len3, all3, any3, abs3, max23, min23, isi3, isB3, truth3, start3, slot, flatT, scal, tyn, isNon, lenT, truT, isiB, Option.bind, take3, kb_non_bool, kb_non_int, kb_non_str, kb_non_list, kb_non_tuple, kb_bool_bool, kb_bool_int, kb_bool_str, kb_bool_list, kb_bool_tuple, kb_int_bool, kb_int_int, kb_int_str, kb_int_list, kb_int_tuple, kb_str_bool, kb_str_int, kb_str_str, kb_str_list, kb_str_tuple, kb_list_bool, kb_list_int, kb_list_str, kb_list_list, kb_list_tuple, kb_tuple_bool, kb_tuple_int, kb_tuple_str, kb_tuple_list, kb_tuple_tuple, addP, mulP, ixP, slP, eqP, neP, isSeq, iterP, itemsP, no3, part3, sl3, raise3, brk3, cont3, a] using qn
    · simpa [seq3, next3, ret3, retN3, ifs3, drop3, asg3, name3, tst3, and3, or3, not3, andV3, orV3, notV3, if3, v3, k3, op3, un3, nil3, cons3, call3, tup3, lst3, chain3, fn30, fn3, fnN30, fnN3, fnP30, i2, i2c, i1, isN3, notN3, eqS3, neS3, ixL3, ixT3, len3, all3, any3, abs3, max23, min23, isi3, isB3, truth3, start3, slot, flatT, scal, tyn, isNon, lenT, truT, isiB, Option.bind, take3, kb_non_bool, kb_non_int, kb_non_str, kb_non_list, kb_non_tuple, kb_bool_bool, kb_bool_int, kb_bool_str, kb_bool_list, kb_bool_tuple, kb_int_bool, kb_int_int, kb_int_str, kb_int_list, kb_int_tuple, kb_str_bool, kb_str_int, kb_str_str, kb_str_list, kb_str_tuple, kb_list_bool, kb_list_int, kb_list_str, kb_list_list, kb_list_tuple, kb_tuple_bool, kb_tuple_int, kb_tuple_str, kb_tuple_list, kb_tuple_tuple, addP, mulP, ixP, slP, eqP, neP, isSeq, iterP, itemsP, no3, part3, sl3, raise3, brk3, cont3, a] using e
  rintro σ' rfl
  refine seq_by (fun σ' => σ' = [Sl.val (.ref p), Sl.val (.int r), Sl.no]) (fun nx hn => ?_) ?_
  · have e := hn _ rfl
    by_cases a : r < 15
    · by_cases a3 : r < 13
      · simp [seq3, next3, ret3, retN3, ifs3, drop3, asg3, name3, tst3, and3, or3, not3, andV3, orV3, notV3, if3, v3, k3, op3, un3, nil3, cons3, call3, tup3, lst3, chain3, fn30, fn3, fnN30, fnN3, fnP30, i2, i2c, i1, isN3, notN3, eqS3, neS3, ixL3, ixT3, len3, all3, any3, abs3, max23, min23, isi3, isB3, truth3, start3, slot, flatT, scal, tyn, isNon, lenT, truT, isiB, Option.bind, take3, kb_non_bool, kb_non_int, kb_non_str, kb_non_list, kb_non_tuple, kb_bool_bool, kb_bool_int, kb_bool_str, kb_bool_list, kb_bool_tuple, kb_int_bool, kb_int_int, kb_int_str, kb_int_list, kb_int_tuple, kb_str_bool, kb_str_int, kb_str_str, kb_str_list, kb_str_tuple, kb_list_bool, kb_list_int, kb_list_str, kb_list_list, kb_list_tuple, kb_tuple_bool, kb_tuple_int, kb_tuple_str, kb_tuple_list, kb_tuple_tuple, addP, mulP, ixP, slP, eqP, neP, isSeq, iterP, itemsP, no3, part3, sl3, raise3, brk3, cont3, a, a3]
        intro z z0 z1
        exact qi _ (by simp only [MOSTi]; omega) (by simp only [MOSTi]; omega)
      · simp [seq3, next3, ret3, retN3, ifs3, drop3, asg3, name3, tst3, and3, or3, not3, andV3, orV3, notV3, if3, v3, k3, op3, un3, nil3, cons3, call3, tup3, lst3, chain3, fn30, fn3, fnN30, fnN3, fnP30, i2, i2c, i1, isN3, notN3, eqS3, neS3, ixL3, ixT3, len3, all3, any3, abs3, max23, min23, isi3, isB3, truth3, start3, slot, flatT, scal, tyn, isNon, lenT, truT, isiB, Option.bind, take3, kb_non_bool, kb_non_int, kb_non_str, kb_non_list, kb_non_tuple, kb_bool_bool, kb_bool_int, kb_bool_str, kb_bool_list, kb_bool_tuple, kb_int_bool, kb_int_int, kb_int_str, kb_int_list, kb_int_tuple, kb_str_bool, kb_str_int, kb_str_str, kb_str_list, kb_str_tuple, kb_list_bool, kb_list_int, kb_list_str, kb_list_list, kb_list_tuple, kb_tuple_bool, kb_tuple_int, kb_tuple_str, kb_tuple_list, kb_tuple_tuple, addP, mulP, ixP, slP, eqP, neP, isSeq, iterP, itemsP, no3, part3, sl3, raise3, brk3, cont3, a, a3]
        intro z z0 z1
        exact qi _ (by simp only [MOSTi]; omega) (by simp only [MOSTi]; omega)
    · simpa [seq3, next3, ret3, retN3, ifs3, drop3, asg3, name3, tst3, and3, or3, not3, andV3, orV3, notV3, if3, v3, k3, op3, un3, nil3, cons3, call3, tup3, lst3, chain3, fn30, fn3, fnN30, fnN3, fnP30, i2, i2c, i1, isN3, notN3, eqS3, neS3, ixL3, ixT3, len3, all3, any3, abs3, max23, min23, isi3, isB3, truth3, start3, slot, flatT, scal, tyn, isNon, lenT, truT, isiB, Option.bind, take3, kb_non_bool, kb_non_int, kb_non_str, kb_non_list, kb_non_tuple, kb_bool_bool, kb_bool_int, kb_bool_str, kb_bool_list, kb_bool_tuple, kb_int_bool, kb_int_int, kb_int_str, kb_int_list, kb_int_tuple, kb_str_bool, kb_str_int, kb_str_str, kb_str_list, kb_str_tuple, kb_list_bool, kb_list_int, kb_list_str, kb_list_list, kb_list_tuple, kb_tuple_bool, kb_tuple_int, kb_tuple_str, kb_tuple_list, kb_tuple_tuple, addP, mulP, ixP, slP, eqP, neP, isSeq, iterP, itemsP, no3, part3, sl3, raise3, brk3, cont3, a] using e
  rintro σ' rfl
  refine seq_by (fun σ' => σ' = [Sl.val (.ref p), Sl.val (.int r), Sl.val (.int MOSTi)]) (fun nx hn => ?_) ?_
  · have e := hn _ rfl
    simpa [seq3, next3, ret3, retN3, ifs3, drop3, asg3, name3, tst3, and3, or3, not3, andV3, orV3, notV3, if3, v3, k3, op3, un3, nil3, cons3, call3, tup3, lst3, chain3, fn30, fn3, fnN30, fnN3, fnP30, i2, i2c, i1, isN3, notN3, eqS3, neS3, ixL3, ixT3, len3, all3, any3, abs3, max23, min23, isi3, isB3, truth3, start3, slot, flatT, scal, tyn, isNon, lenT, truT, isiB, Option.bind, take3, kb_non_bool, kb_non_int, kb_non_str, kb_non_list, kb_non_tuple, kb_bool_bool, kb_bool_int, kb_bool_str, kb_bool_list, kb_bool_tuple, kb_int_bool, kb_int_int, kb_int_str, kb_int_list, kb_int_tuple, kb_str_bool, kb_str_int, kb_str_str, kb_str_list, kb_str_tuple, kb_list_bool, kb_list_int, kb_list_str, kb_list_list, kb_list_tuple, kb_tuple_bool, kb_tuple_int, kb_tuple_str, kb_tuple_list, kb_tuple_tuple, addP, mulP, ixP, slP, eqP, neP, isSeq, iterP, itemsP, no3, part3, sl3, raise3, brk3, cont3, CPow, MOSTi] using e
  rintro σ' rfl
  simp [seq3, next3, ret3, retN3, ifs3, drop3, asg3, name3, tst3, and3, or3, not3, andV3, orV3, notV3, if3, v3, k3, op3, un3, nil3, cons3, call3, tup3, lst3, chain3, fn30, fn3, fnN30, fnN3, fnP30, i2, i2c, i1, isN3, notN3, eqS3, neS3, ixL3, ixT3, len3, all3, any3, abs3, max23, min23, isi3, isB3, truth3, start3, slot, flatT, scal, tyn, isNon, lenT, truT, isiB, Option.bind, take3, kb_non_bool, kb_non_int, kb_non_str, kb_non_list, kb_non_tuple, kb_bool_bool, kb_bool_int, kb_bool_str, kb_bool_list, kb_bool_tuple, kb_int_bool, kb_int_int, kb_int_str, kb_int_list, kb_int_tuple, kb_str_bool, kb_str_int, kb_str_str, kb_str_list, kb_str_tuple, kb_list_bool, kb_list_int, kb_list_str, kb_list_list, kb_list_tuple, kb_tuple_bool, kb_tuple_int, kb_tuple_str, kb_tuple_list, kb_tuple_tuple, addP, mulP, ixP, slP, eqP, neP, isSeq, iterP, itemsP, no3, part3, sl3, raise3, brk3, cont3, CPow]
  intro z z0 z1
  refine ⟨by decide, by decide, fun y y0 y1 => ⟨by decide, draw_all rfl ?_⟩⟩
  intro t ht
  simp at ht
  simp only [MOSTi] at y1
  rcases ht with rfl | rfl | rfl | rfl
  all_goals exact qi _ (by simp only [MOSTi]; omega) (by simp only [MOSTi]; omega)
/-! ### sums of cells -/
def ofC : Option Int → T
  | none => .non
  | some i => .int i
@[simp] theorem ofC_none : ofC none = .non := rfl
@[simp] theorem ofC_some (i : Int) : ofC (some i) = .int i := rfl
def arQ (C : Cs) (c : Int → Int → Prop) (g : Int → Int → Int) (a b : Option Int) (m : Int) (Q : T → Prop) (X : X3) : Prop := match a, b with
  | some x, some y => c x y ∧ if -m ≤ g x y ∧ g x y ≤ m then Q (.int (g x y)) else X ⟨.ref (C.at_ "TooGreat"), []⟩
  | _, _ => Q .non
def anyC (_ _ : Int) : Prop := True
def leastC : Option Int → Option Int → Option Int
  | some a, some b => some (if b < a then b else a)
  | _, _ => none
def mostC : Option Int → Option Int → Option Int
  | some a, some b => some (if b > a then b else a)
  | _, _ => none
theorem need_eq (C : Cs) (n m : Int) (Q : T → Prop) (X : X3) : need_number C [.int n, .int m] Q X = if -m ≤ n ∧ n ≤ m then Q (.int n) else X ⟨.ref (C.at_ "TooGreat"), []⟩ := by
  rw [need_number_def]
  show need_numberB C _ _ = _
  by_cases a1 : -m ≤ n <;> by_cases a2 : n ≤ m <;> simp [need_numberB, seq3, next3, ret3, retN3, ifs3, drop3, asg3, name3, tst3, and3, or3, not3, andV3, orV3, notV3, if3, v3, k3, op3, un3, nil3, cons3, call3, tup3, lst3, chain3, fn30, fn3, fnN30, fnN3, fnP30, i2, i2c, i1, isN3, notN3, eqS3, neS3, ixL3, ixT3, len3, all3, any3, abs3, max23, min23, isi3, isB3, truth3, start3, slot, flatT, scal, tyn, isNon, lenT, truT, isiB, Option.bind, take3, kb_non_bool, kb_non_int, kb_non_str, kb_non_list, kb_non_tuple, kb_bool_bool, kb_bool_int, kb_bool_str, kb_bool_list, kb_bool_tuple, kb_int_bool, kb_int_int, kb_int_str, kb_int_list, kb_int_tuple, kb_str_bool, kb_str_int, kb_str_str, kb_str_list, kb_str_tuple, kb_list_bool, kb_list_int, kb_list_str, kb_list_list, kb_list_tuple, kb_tuple_bool, kb_tuple_int, kb_tuple_str, kb_tuple_list, kb_tuple_tuple, addP, mulP, ixP, slP, eqP, neP, isSeq, iterP, itemsP, no3, part3, sl3, raise3, brk3, cont3, a1, a2]
theorem plus_eq (C : Cs) (a b : Option Int) (m : Int) (Q : T → Prop) (X : X3) : plus C [ofC a, ofC b, .int m] Q X = arQ C anyC (fun i j => i + j) a b m Q X := by
  rw [plus_def]
  show plusB C _ _ = _
  cases a <;> cases b <;> simp [plusB, seq3, next3, ret3, retN3, ifs3, drop3, asg3, name3, tst3, and3, or3, not3, andV3, orV3, notV3, if3, v3, k3, op3, un3, nil3, cons3, call3, tup3, lst3, chain3, fn30, fn3, fnN30, fnN3, fnP30, i2, i2c, i1, isN3, notN3, eqS3, neS3, ixL3, ixT3, len3, all3, any3, abs3, max23, min23, isi3, isB3, truth3, start3, slot, flatT, scal, tyn, isNon, lenT, truT, isiB, Option.bind, take3, kb_non_bool, kb_non_int, kb_non_str, kb_non_list, kb_non_tuple, kb_bool_bool, kb_bool_int, kb_bool_str, kb_bool_list, kb_bool_tuple, kb_int_bool, kb_int_int, kb_int_str, kb_int_list, kb_int_tuple, kb_str_bool, kb_str_int, kb_str_str, kb_str_list, kb_str_tuple, kb_list_bool, kb_list_int, kb_list_str, kb_list_list, kb_list_tuple, kb_tuple_bool, kb_tuple_int, kb_tuple_str, kb_tuple_list, kb_tuple_tuple, addP, mulP, ixP, slP, eqP, neP, isSeq, iterP, itemsP, no3, part3, sl3, raise3, brk3, cont3, need_eq, arQ, anyC]
theorem minus_eq (C : Cs) (a b : Option Int) (m : Int) (Q : T → Prop) (X : X3) : minus C [ofC a, ofC b, .int m] Q X = arQ C anyC (fun i j => i - j) a b m Q X := by
  rw [minus_def]
  show minusB C _ _ = _
  cases a <;> cases b <;> simp [minusB, seq3, next3, ret3, retN3, ifs3, drop3, asg3, name3, tst3, and3, or3, not3, andV3, orV3, notV3, if3, v3, k3, op3, un3, nil3, cons3, call3, tup3, lst3, chain3, fn30, fn3, fnN30, fnN3, fnP30, i2, i2c, i1, isN3, notN3, eqS3, neS3, ixL3, ixT3, len3, all3, any3, abs3, max23, min23, isi3, isB3, truth3, start3, slot, flatT, scal, tyn, isNon, lenT, truT, isiB, Option.bind, take3, kb_non_bool, kb_non_int, kb_non_str, kb_non_list, kb_non_tuple, kb_bool_bool, kb_bool_int, kb_bool_str, kb_bool_list, kb_bool_tuple, kb_int_bool, kb_int_int, kb_int_str, kb_int_list, kb_int_tuple, kb_str_bool, kb_str_int, kb_str_str, kb_str_list, kb_str_tuple, kb_list_bool, kb_list_int, kb_list_str, kb_list_list, kb_list_tuple, kb_tuple_bool, kb_tuple_int, kb_tuple_str, kb_tuple_list, kb_tuple_tuple, addP, mulP, ixP, slP, eqP, neP, isSeq, iterP, itemsP, no3, part3, sl3, raise3, brk3, cont3, need_eq, arQ, anyC]
theorem times_eq (C : Cs) (a b : Option Int) (m : Int) (Q : T → Prop) (X : X3) : times C [ofC a, ofC b, .int m] Q X = arQ C CMulW (fun i j => i * j) a b m Q X := by
  rw [times_def]
  show timesB C _ _ = _
  cases a <;> cases b <;> simp [timesB, seq3, next3, ret3, retN3, ifs3, drop3, asg3, name3, tst3, and3, or3, not3, andV3, orV3, notV3, if3, v3, k3, op3, un3, nil3, cons3, call3, tup3, lst3, chain3, fn30, fn3, fnN30, fnN3, fnP30, i2, i2c, i1, isN3, notN3, eqS3, neS3, ixL3, ixT3, len3, all3, any3, abs3, max23, min23, isi3, isB3, truth3, start3, slot, flatT, scal, tyn, isNon, lenT, truT, isiB, Option.bind, take3, kb_non_bool, kb_non_int, kb_non_str, kb_non_list, kb_non_tuple, kb_bool_bool, kb_bool_int, kb_bool_str, kb_bool_list, kb_bool_tuple, kb_int_bool, kb_int_int, kb_int_str, kb_int_list, kb_int_tuple, kb_str_bool, kb_str_int, kb_str_str, kb_str_list, kb_str_tuple, kb_list_bool, kb_list_int, kb_list_str, kb_list_list, kb_list_tuple, kb_tuple_bool, kb_tuple_int, kb_tuple_str, kb_tuple_list, kb_tuple_tuple, addP, mulP, ixP, slP, eqP, neP, isSeq, iterP, itemsP, no3, part3, sl3, raise3, brk3, cont3, need_eq, arQ]
theorem least_eq (C : Cs) (a b : Option Int) (Q : T → Prop) (X : X3) : least C [ofC a, ofC b] Q X = Q (ofC (leastC a b)) := by
  rw [least_def]
  show leastB C _ _ = _
  cases a <;> cases b <;> simp [leastB, seq3, next3, ret3, retN3, ifs3, drop3, asg3, name3, tst3, and3, or3, not3, andV3, orV3, notV3, if3, v3, k3, op3, un3, nil3, cons3, call3, tup3, lst3, chain3, fn30, fn3, fnN30, fnN3, fnP30, i2, i2c, i1, isN3, notN3, eqS3, neS3, ixL3, ixT3, len3, all3, any3, abs3, max23, min23, isi3, isB3, truth3, start3, slot, flatT, scal, tyn, isNon, lenT, truT, isiB, Option.bind, take3, kb_non_bool, kb_non_int, kb_non_str, kb_non_list, kb_non_tuple, kb_bool_bool, kb_bool_int, kb_bool_str, kb_bool_list, kb_bool_tuple, kb_int_bool, kb_int_int, kb_int_str, kb_int_list, kb_int_tuple, kb_str_bool, kb_str_int, kb_str_str, kb_str_list, kb_str_tuple, kb_list_bool, kb_list_int, kb_list_str, kb_list_list, kb_list_tuple, kb_tuple_bool, kb_tuple_int, kb_tuple_str, kb_tuple_list, kb_tuple_tuple, addP, mulP, ixP, slP, eqP, neP, isSeq, iterP, itemsP, no3, part3, sl3, raise3, brk3, cont3, leastC]
theorem most_eq (C : Cs) (a b : Option Int) (Q : T → Prop) (X : X3) : most_of C [ofC a, ofC b] Q X = Q (ofC (mostC a b)) := by
  rw [most_of_def]
  show most_ofB C _ _ = _
  cases a <;> cases b <;> simp [most_ofB, seq3, next3, ret3, retN3, ifs3, drop3, asg3, name3, tst3, and3, or3, not3, andV3, orV3, notV3, if3, v3, k3, op3, un3, nil3, cons3, call3, tup3, lst3, chain3, fn30, fn3, fnN30, fnN3, fnP30, i2, i2c, i1, isN3, notN3, eqS3, neS3, ixL3, ixT3, len3, all3, any3, abs3, max23, min23, isi3, isB3, truth3, start3, slot, flatT, scal, tyn, isNon, lenT, truT, isiB, Option.bind, take3, kb_non_bool, kb_non_int, kb_non_str, kb_non_list, kb_non_tuple, kb_bool_bool, kb_bool_int, kb_bool_str, kb_bool_list, kb_bool_tuple, kb_int_bool, kb_int_int, kb_int_str, kb_int_list, kb_int_tuple, kb_str_bool, kb_str_int, kb_str_str, kb_str_list, kb_str_tuple, kb_list_bool, kb_list_int, kb_list_str, kb_list_list, kb_list_tuple, kb_tuple_bool, kb_tuple_int, kb_tuple_str, kb_tuple_list, kb_tuple_tuple, addP, mulP, ixP, slP, eqP, neP, isSeq, iterP, itemsP, no3, part3, sl3, raise3, brk3, cont3, mostC]
theorem cell_ofC {t : T} (h : isCellTree t) : ∃ a : Option Int, t = ofC a ∧ ∀ i, a = some i → -MOSTi ≤ i ∧ i ≤ MOSTi := by
  rcases h with rfl | ⟨i, rfl, h1, h2⟩
  · exact ⟨none, rfl, fun i e => by cases e⟩
  · exact ⟨some i, rfl, fun j e => by cases e; exact ⟨h1, h2⟩⟩
end Law

namespace Law
open PySem L2 M3
theorem acted_eq (C : Cs) (k : Int) (a b : Option Int) (m : Int) (Q : T → Prop) (X : X3) : Lacted C [.int k, ofC a, ofC b, .int m] Q X = if k = 0 then arQ C anyC (fun i j => i + j) a b m Q X else if k = 1 then arQ C anyC (fun i j => i - j) a b m Q X else arQ C CMulW (fun i j => i * j) a b m Q X := by
  rw [Lacted_def]
  show LactedB C _ _ = _
  by_cases k0 : k = 0
  · subst k0
    simp [LactedB, seq3, next3, ret3, retN3, ifs3, drop3, asg3, name3, tst3, and3, or3, not3, andV3, orV3, notV3, if3, v3, k3, op3, un3, nil3, cons3, call3, tup3, lst3, chain3, fn30, fn3, fnN30, fnN3, fnP30, i2, i2c, i1, isN3, notN3, eqS3, neS3, ixL3, ixT3, len3, all3, any3, abs3, max23, min23, isi3, isB3, truth3, start3, slot, flatT, scal, tyn, isNon, lenT, truT, isiB, Option.bind, take3, kb_non_bool, kb_non_int, kb_non_str, kb_non_list, kb_non_tuple, kb_bool_bool, kb_bool_int, kb_bool_str, kb_bool_list, kb_bool_tuple, kb_int_bool, kb_int_int, kb_int_str, kb_int_list, kb_int_tuple, kb_str_bool, kb_str_int, kb_str_str, kb_str_list, kb_str_tuple, kb_list_bool, kb_list_int, kb_list_str, kb_list_list, kb_list_tuple, kb_tuple_bool, kb_tuple_int, kb_tuple_str, kb_tuple_list, kb_tuple_tuple, addP, mulP, ixP, slP, eqP, neP, isSeq, iterP, itemsP, no3, part3, sl3, raise3, brk3, cont3, sel, plus_eq]
  · by_cases k1 : k = 1
    · subst k1
      simp [LactedB, seq3, next3, ret3, retN3, ifs3, drop3, asg3, name3, tst3, and3, or3, not3, andV3, orV3, notV3, if3, v3, k3, op3, un3, nil3, cons3, call3, tup3, lst3, chain3, fn30, fn3, fnN30, fnN3, fnP30, i2, i2c, i1, isN3, notN3, eqS3, neS3, ixL3, ixT3, len3, all3, any3, abs3, max23, min23, isi3, isB3, truth3, start3, slot, flatT, scal, tyn, isNon, lenT, truT, isiB, Option.bind, take3, kb_non_bool, kb_non_int, kb_non_str, kb_non_list, kb_non_tuple, kb_bool_bool, kb_bool_int, kb_bool_str, kb_bool_list, kb_bool_tuple, kb_int_bool, kb_int_int, kb_int_str, kb_int_list, kb_int_tuple, kb_str_bool, kb_str_int, kb_str_str, kb_str_list, kb_str_tuple, kb_list_bool, kb_list_int, kb_list_str, kb_list_list, kb_list_tuple, kb_tuple_bool, kb_tuple_int, kb_tuple_str, kb_tuple_list, kb_tuple_tuple, addP, mulP, ixP, slP, eqP, neP, isSeq, iterP, itemsP, no3, part3, sl3, raise3, brk3, cont3, sel, minus_eq]
    · simp [LactedB, seq3, next3, ret3, retN3, ifs3, drop3, asg3, name3, tst3, and3, or3, not3, andV3, orV3, notV3, if3, v3, k3, op3, un3, nil3, cons3, call3, tup3, lst3, chain3, fn30, fn3, fnN30, fnN3, fnP30, i2, i2c, i1, isN3, notN3, eqS3, neS3, ixL3, ixT3, len3, all3, any3, abs3, max23, min23, isi3, isB3, truth3, start3, slot, flatT, scal, tyn, isNon, lenT, truT, isiB, Option.bind, take3, kb_non_bool, kb_non_int, kb_non_str, kb_non_list, kb_non_tuple, kb_bool_bool, kb_bool_int, kb_bool_str, kb_bool_list, kb_bool_tuple, kb_int_bool, kb_int_int, kb_int_str, kb_int_list, kb_int_tuple, kb_str_bool, kb_str_int, kb_str_str, kb_str_list, kb_str_tuple, kb_list_bool, kb_list_int, kb_list_str, kb_list_list, kb_list_tuple, kb_tuple_bool, kb_tuple_int, kb_tuple_str, kb_tuple_list, kb_tuple_tuple, addP, mulP, ixP, slP, eqP, neP, isSeq, iterP, itemsP, no3, part3, sl3, raise3, brk3, cont3, sel, times_eq, k0, k1]
theorem actedP_eq (C : Cs) (k : Int) (a b : Option Int) (Q : T → Prop) (X : X3) : Lacted_plainly C [.int k, ofC a, ofC b] Q X = if k = 0 then arQ C anyC (fun i j => i + j) a b MOSTi Q X else if k = 1 then arQ C anyC (fun i j => i - j) a b MOSTi Q X else arQ C CMulW (fun i j => i * j) a b MOSTi Q X := by
  rw [Lacted_plainly_def]
  show Lacted_plainlyB C _ _ = _
  by_cases k0 : k = 0
  · subst k0
    simp [Lacted_plainlyB, seq3, next3, ret3, retN3, ifs3, drop3, asg3, name3, tst3, and3, or3, not3, andV3, orV3, notV3, if3, v3, k3, op3, un3, nil3, cons3, call3, tup3, lst3, chain3, fn30, fn3, fnN30, fnN3, fnP30, i2, i2c, i1, isN3, notN3, eqS3, neS3, ixL3, ixT3, len3, all3, any3, abs3, max23, min23, isi3, isB3, truth3, start3, slot, flatT, scal, tyn, isNon, lenT, truT, isiB, Option.bind, take3, kb_non_bool, kb_non_int, kb_non_str, kb_non_list, kb_non_tuple, kb_bool_bool, kb_bool_int, kb_bool_str, kb_bool_list, kb_bool_tuple, kb_int_bool, kb_int_int, kb_int_str, kb_int_list, kb_int_tuple, kb_str_bool, kb_str_int, kb_str_str, kb_str_list, kb_str_tuple, kb_list_bool, kb_list_int, kb_list_str, kb_list_list, kb_list_tuple, kb_tuple_bool, kb_tuple_int, kb_tuple_str, kb_tuple_list, kb_tuple_tuple, addP, mulP, ixP, slP, eqP, neP, isSeq, iterP, itemsP, no3, part3, sl3, raise3, brk3, cont3, plus_eq]
  · by_cases k1 : k = 1
    · subst k1
      simp [Lacted_plainlyB, seq3, next3, ret3, retN3, ifs3, drop3, asg3, name3, tst3, and3, or3, not3, andV3, orV3, notV3, if3, v3, k3, op3, un3, nil3, cons3, call3, tup3, lst3, chain3, fn30, fn3, fnN30, fnN3, fnP30, i2, i2c, i1, isN3, notN3, eqS3, neS3, ixL3, ixT3, len3, all3, any3, abs3, max23, min23, isi3, isB3, truth3, start3, slot, flatT, scal, tyn, isNon, lenT, truT, isiB, Option.bind, take3, kb_non_bool, kb_non_int, kb_non_str, kb_non_list, kb_non_tuple, kb_bool_bool, kb_bool_int, kb_bool_str, kb_bool_list, kb_bool_tuple, kb_int_bool, kb_int_int, kb_int_str, kb_int_list, kb_int_tuple, kb_str_bool, kb_str_int, kb_str_str, kb_str_list, kb_str_tuple, kb_list_bool, kb_list_int, kb_list_str, kb_list_list, kb_list_tuple, kb_tuple_bool, kb_tuple_int, kb_tuple_str, kb_tuple_list, kb_tuple_tuple, addP, mulP, ixP, slP, eqP, neP, isSeq, iterP, itemsP, no3, part3, sl3, raise3, brk3, cont3, minus_eq]
    · simp [Lacted_plainlyB, seq3, next3, ret3, retN3, ifs3, drop3, asg3, name3, tst3, and3, or3, not3, andV3, orV3, notV3, if3, v3, k3, op3, un3, nil3, cons3, call3, tup3, lst3, chain3, fn30, fn3, fnN30, fnN3, fnP30, i2, i2c, i1, isN3, notN3, eqS3, neS3, ixL3, ixT3, len3, all3, any3, abs3, max23, min23, isi3, isB3, truth3, start3, slot, flatT, scal, tyn, isNon, lenT, truT, isiB, Option.bind, take3, kb_non_bool, kb_non_int, kb_non_str, kb_non_list, kb_non_tuple, kb_bool_bool, kb_bool_int, kb_bool_str, kb_bool_list, kb_bool_tuple, kb_int_bool, kb_int_int, kb_int_str, kb_int_list, kb_int_tuple, kb_str_bool, kb_str_int, kb_str_str, kb_str_list, kb_str_tuple, kb_list_bool, kb_list_int, kb_list_str, kb_list_list, kb_list_tuple, kb_tuple_bool, kb_tuple_int, kb_tuple_str, kb_tuple_list, kb_tuple_tuple, addP, mulP, ixP, slP, eqP, neP, isSeq, iterP, itemsP, no3, part3, sl3, raise3, brk3, cont3, times_eq, k0, k1]
def isDue (i j k d : Int) : Prop := (k = 0 ∧ d = i + j) ∨ (k = 1 ∧ d = i - j) ∨ (k = 2 ∧ d = i * j)
structure Due (C : Cs) (i j k d : Int) : Prop where
  a : ∀ (m : Int) (Q : T → Prop) (X : X3), Lacted C [.int k, .int i, .int j, .int m] Q X = if -m ≤ d ∧ d ≤ m then Q (.int d) else X ⟨.ref (C.at_ "TooGreat"), []⟩
  b : ∀ (Q : T → Prop) (X : X3), Lacted_plainly C [.int k, .int i, .int j] Q X = if -MOSTi ≤ d ∧ d ≤ MOSTi then Q (.int d) else X ⟨.ref (C.at_ "TooGreat"), []⟩
theorem due_of {C : Cs} {i j k d : Int} (h : isDue i j k d) (hm : CMulW i j) : Due C i j k d := by
  constructor
  · intro m Q X
    have e := acted_eq C k (some i) (some j) m Q X
    simp only [ofC_some] at e
    rw [e]
    rcases h with ⟨rfl, rfl⟩ | ⟨rfl, rfl⟩ | ⟨rfl, rfl⟩ <;> simp [arQ, anyC, hm]
  · intro Q X
    have e := actedP_eq C k (some i) (some j) Q X
    simp only [ofC_some] at e
    rw [e]
    rcases h with ⟨rfl, rfl⟩ | ⟨rfl, rfl⟩ | ⟨rfl, rfl⟩ <;> simp [arQ, anyC, hm]
theorem eqD_nn {Q : T → Prop} : eqD3 (.tup [.str "none"]) (.tup [.str "none"]) Q = Q (.bl true) := propext ⟨fun h => h.2.2, fun h => ⟨by decide +kernel, by decide +kernel, h⟩⟩
theorem eqD_tn {Q : T → Prop} : eqD3 (.tup [.str "TooGreat"]) (.tup [.str "none"]) Q = Q (.bl false) := propext ⟨fun h => h.2.2, fun h => ⟨by decide +kernel, by decide +kernel, h⟩⟩
theorem sl5 : 5 ≤ sizeLine := by decide
theorem sl3' : 3 ≤ sizeLine := by decide
theorem sl2 : 2 ≤ sizeLine := by decide
theorem sl1 : 1 ≤ sizeLine := by decide
theorem same12 (C : Cs) {x y : T} {Q : T → Prop} {X : X3} (h1 : plain x = true) (h2 : plain y = true) (h3 : dep y < 12) : Lsame C 12 [x, y] Q X = Q (.bl (sameT x y)) := same_ok C 12 x y Q X h1 h2 h3
section
variable {C : Cs} {p : Addr} {N : N3}
abbrev st (p : Addr) (x : T) (a b : Sl) (d e f g h i : Sl) : List Sl := [Sl.no, Sl.val (.ref p), Sl.val x, a, b, d, e, f, g, h, i]
/-- one bound -/
theorem L_bound {x : T} {n1 n2 k q m low : Int} {d h i : Sl} (hC : CsOk C) (D : Due C n1 n2 k q)
    (hn : ∀ h i, N.nx (st p x (.val (.int n1)) (.val (.int n2)) d (.val (.int low)) (.val (.int k)) (.val (.int q)) h i)) :
    law_1b_3e_3b_2b C p N (st p x (.val (.int n1)) (.val (.int n2)) d (.val (.int low)) (.val (.int k)) (.val (.int q)) (.val (.int m)) i) := by
  unfold law_1b_3e_3b_2b
  by_cases c : -m ≤ q ∧ q ≤ m
  · have c1 : (if q < 0 then -q else q) ≤ m := by split <;> omega
    refine seq_by (fun σ' => σ' = st p x (.val (.int n1)) (.val (.int n2)) d (.val (.int low)) (.val (.int k)) (.val (.int q)) (.val (.int m)) (.val (.tup [.str "none"]))) (fun nx hn => ?_) ?_
    · have e := hn _ rfl
      simpa [law_1b_3e_3b_2b_1, st, seq3, next3, ret3, retN3, ifs3, drop3, asg3, name3, tst3, and3, or3, not3, andV3, orV3, notV3, if3, v3, k3, op3, un3, nil3, cons3, call3, tup3, lst3, chain3, fn30, fn3, fnN30, fnN3, fnP30, i2, i2c, i1, isN3, notN3, eqS3, neS3, ixL3, ixT3, len3, all3, any3, abs3, max23, min23, isi3, isB3, truth3, start3, slot, flatT, scal, tyn, isNon, lenT, truT, isiB, Option.bind, take3, kb_non_bool, kb_non_int, kb_non_str, kb_non_list, kb_non_tuple, kb_bool_bool, kb_bool_int, kb_bool_str, kb_bool_list, kb_bool_tuple, kb_int_bool, kb_int_int, kb_int_str, kb_int_list, kb_int_tuple, kb_str_bool, kb_str_int, kb_str_str, kb_str_list, kb_str_tuple, kb_list_bool, kb_list_int, kb_list_str, kb_list_list, kb_list_tuple, kb_tuple_bool, kb_tuple_int, kb_tuple_str, kb_tuple_list, kb_tuple_tuple, addP, mulP, ixP, slP, eqP, neP, isSeq, iterP, itemsP, no3, part3, sl3, raise3, brk3, cont3, c1, sl1] using e
    rintro σ' rfl
    refine seq_by (fun σ' => σ' = st p x (.val (.int n1)) (.val (.int n2)) d (.val (.int low)) (.val (.int k)) (.val (.int q)) (.val (.int m)) (.val (.tup [.str "none"]))) (fun nx hn => ?_) ?_
    · have e := hn _ rfl
      simpa [law_1b_3e_3b_2b_2, st, seq3, next3, ret3, retN3, ifs3, drop3, asg3, name3, tst3, and3, or3, not3, andV3, orV3, notV3, if3, v3, k3, op3, un3, nil3, cons3, call3, tup3, lst3, chain3, fn30, fn3, fnN30, fnN3, fnP30, i2, i2c, i1, isN3, notN3, eqS3, neS3, ixL3, ixT3, len3, all3, any3, abs3, max23, min23, isi3, isB3, truth3, start3, slot, flatT, scal, tyn, isNon, lenT, truT, isiB, Option.bind, take3, kb_non_bool, kb_non_int, kb_non_str, kb_non_list, kb_non_tuple, kb_bool_bool, kb_bool_int, kb_bool_str, kb_bool_list, kb_bool_tuple, kb_int_bool, kb_int_int, kb_int_str, kb_int_list, kb_int_tuple, kb_str_bool, kb_str_int, kb_str_str, kb_str_list, kb_str_tuple, kb_list_bool, kb_list_int, kb_list_str, kb_list_list, kb_list_tuple, kb_tuple_bool, kb_tuple_int, kb_tuple_str, kb_tuple_list, kb_tuple_tuple, addP, mulP, ixP, slP, eqP, neP, isSeq, iterP, itemsP, no3, part3, sl3, raise3, brk3, cont3, why4, D.a, c, same12] using e
    rintro σ' rfl
    have e := hn (.val (.int m)) (.val (.tup [.str "none"]))
    simpa [law_1b_3e_3b_2b_3, st, seq3, next3, ret3, retN3, ifs3, drop3, asg3, name3, tst3, and3, or3, not3, andV3, orV3, notV3, if3, v3, k3, op3, un3, nil3, cons3, call3, tup3, lst3, chain3, fn30, fn3, fnN30, fnN3, fnP30, i2, i2c, i1, isN3, notN3, eqS3, neS3, ixL3, ixT3, len3, all3, any3, abs3, max23, min23, isi3, isB3, truth3, start3, slot, flatT, scal, tyn, isNon, lenT, truT, isiB, Option.bind, take3, kb_non_bool, kb_non_int, kb_non_str, kb_non_list, kb_non_tuple, kb_bool_bool, kb_bool_int, kb_bool_str, kb_bool_list, kb_bool_tuple, kb_int_bool, kb_int_int, kb_int_str, kb_int_list, kb_int_tuple, kb_str_bool, kb_str_int, kb_str_str, kb_str_list, kb_str_tuple, kb_list_bool, kb_list_int, kb_list_str, kb_list_list, kb_list_tuple, kb_tuple_bool, kb_tuple_int, kb_tuple_str, kb_tuple_list, kb_tuple_tuple, addP, mulP, ixP, slP, eqP, neP, isSeq, iterP, itemsP, no3, part3, sl3, raise3, brk3, cont3, eqD_nn, D.a, c, same12, sl1] using e
  · have c1 : ¬ (if q < 0 then -q else q) ≤ m := by split <;> omega
    refine seq_by (fun σ' => σ' = st p x (.val (.int n1)) (.val (.int n2)) d (.val (.int low)) (.val (.int k)) (.val (.int q)) (.val (.int m)) (.val (.tup [.str "TooGreat"]))) (fun nx hn => ?_) ?_
    · have e := hn _ rfl
      simpa [law_1b_3e_3b_2b_1, st, seq3, next3, ret3, retN3, ifs3, drop3, asg3, name3, tst3, and3, or3, not3, andV3, orV3, notV3, if3, v3, k3, op3, un3, nil3, cons3, call3, tup3, lst3, chain3, fn30, fn3, fnN30, fnN3, fnP30, i2, i2c, i1, isN3, notN3, eqS3, neS3, ixL3, ixT3, len3, all3, any3, abs3, max23, min23, isi3, isB3, truth3, start3, slot, flatT, scal, tyn, isNon, lenT, truT, isiB, Option.bind, take3, kb_non_bool, kb_non_int, kb_non_str, kb_non_list, kb_non_tuple, kb_bool_bool, kb_bool_int, kb_bool_str, kb_bool_list, kb_bool_tuple, kb_int_bool, kb_int_int, kb_int_str, kb_int_list, kb_int_tuple, kb_str_bool, kb_str_int, kb_str_str, kb_str_list, kb_str_tuple, kb_list_bool, kb_list_int, kb_list_str, kb_list_list, kb_list_tuple, kb_tuple_bool, kb_tuple_int, kb_tuple_str, kb_tuple_list, kb_tuple_tuple, addP, mulP, ixP, slP, eqP, neP, isSeq, iterP, itemsP, no3, part3, sl3, raise3, brk3, cont3, c1, sl1] using e
    rintro σ' rfl
    refine seq_by (fun σ' => σ' = st p x (.val (.int n1)) (.val (.int n2)) d (.val (.int low)) (.val (.int k)) (.val (.int q)) (.val (.int m)) (.val (.tup [.str "TooGreat"]))) (fun nx hn => ?_) ?_
    · have e := hn _ rfl
      simpa [law_1b_3e_3b_2b_2, st, seq3, next3, ret3, retN3, ifs3, drop3, asg3, name3, tst3, and3, or3, not3, andV3, orV3, notV3, if3, v3, k3, op3, un3, nil3, cons3, call3, tup3, lst3, chain3, fn30, fn3, fnN30, fnN3, fnP30, i2, i2c, i1, isN3, notN3, eqS3, neS3, ixL3, ixT3, len3, all3, any3, abs3, max23, min23, isi3, isB3, truth3, start3, slot, flatT, scal, tyn, isNon, lenT, truT, isiB, Option.bind, take3, kb_non_bool, kb_non_int, kb_non_str, kb_non_list, kb_non_tuple, kb_bool_bool, kb_bool_int, kb_bool_str, kb_bool_list, kb_bool_tuple, kb_int_bool, kb_int_int, kb_int_str, kb_int_list, kb_int_tuple, kb_str_bool, kb_str_int, kb_str_str, kb_str_list, kb_str_tuple, kb_list_bool, kb_list_int, kb_list_str, kb_list_list, kb_list_tuple, kb_tuple_bool, kb_tuple_int, kb_tuple_str, kb_tuple_list, kb_tuple_tuple, addP, mulP, ixP, slP, eqP, neP, isSeq, iterP, itemsP, no3, part3, sl3, raise3, brk3, cont3, why4, whyX4, whyT, hC.e_TooGreat_TooGreat, D.a, c, same12] using e
    rintro σ' rfl
    have e := hn (.val (.int m)) (.val (.tup [.str "TooGreat"]))
    simpa [law_1b_3e_3b_2b_3, st, seq3, next3, ret3, retN3, ifs3, drop3, asg3, name3, tst3, and3, or3, not3, andV3, orV3, notV3, if3, v3, k3, op3, un3, nil3, cons3, call3, tup3, lst3, chain3, fn30, fn3, fnN30, fnN3, fnP30, i2, i2c, i1, isN3, notN3, eqS3, neS3, ixL3, ixT3, len3, all3, any3, abs3, max23, min23, isi3, isB3, truth3, start3, slot, flatT, scal, tyn, isNon, lenT, truT, isiB, Option.bind, take3, kb_non_bool, kb_non_int, kb_non_str, kb_non_list, kb_non_tuple, kb_bool_bool, kb_bool_int, kb_bool_str, kb_bool_list, kb_bool_tuple, kb_int_bool, kb_int_int, kb_int_str, kb_int_list, kb_int_tuple, kb_str_bool, kb_str_int, kb_str_str, kb_str_list, kb_str_tuple, kb_list_bool, kb_list_int, kb_list_str, kb_list_list, kb_list_tuple, kb_tuple_bool, kb_tuple_int, kb_tuple_str, kb_tuple_list, kb_tuple_tuple, addP, mulP, ixP, slP, eqP, neP, isSeq, iterP, itemsP, no3, part3, sl3, raise3, brk3, cont3, eqD_tn, sl1] using e
/-- one kind -/
theorem L_kind {x : T} {n1 n2 k low : Int} {d g h i : Sl} (hC : CsOk C) (hM : CMulW n1 n2) (hk : k = 0 ∨ k = 1 ∨ k = 2)
    (hn : ∀ g h i, N.nx (st p x (.val (.int n1)) (.val (.int n2)) d (.val (.int low)) (.val (.int k)) g h i)) :
    law_1b_3e_3b C p N (st p x (.val (.int n1)) (.val (.int n2)) d (.val (.int low)) (.val (.int k)) g h i) := by
  unfold law_1b_3e_3b
  refine seq_by (fun σ' => ∃ q, isDue n1 n2 k q ∧ σ' = st p x (.val (.int n1)) (.val (.int n2)) d (.val (.int low)) (.val (.int k)) (.val (.int q)) h i) (fun nx hn => ?_) ?_
  · rcases hk with rfl | rfl | rfl
    · exact ⟨hM, by show 3 ≤ sizeLine; decide, hn _ ⟨_, .inl ⟨rfl, rfl⟩, rfl⟩⟩
    · exact ⟨hM, by show 3 ≤ sizeLine; decide, hn _ ⟨_, .inr (.inl ⟨rfl, rfl⟩), rfl⟩⟩
    · exact ⟨hM, by show 3 ≤ sizeLine; decide, hn _ ⟨_, .inr (.inr ⟨rfl, rfl⟩), rfl⟩⟩
  rintro σ' ⟨q, hd, rfl⟩
  have D := due_of (C := C) hd hM
  clear hd hM hk
  refine seq_by (fun σ' => ∃ h i, σ' = st p x (.val (.int n1)) (.val (.int n2)) d (.val (.int low)) (.val (.int k)) (.val (.int q)) h i) (fun nx hn => ?_) ?_
  · unfold law_1b_3e_3b_2
    refine for_by (fun ds => ∀ y ∈ ds, ∃ m, y = .int m) (fun Q X hq => ?_) (fun ds hds => ?_)
    · simp [st, seq3, next3, ret3, retN3, ifs3, drop3, asg3, name3, tst3, and3, or3, not3, andV3, orV3, notV3, if3, v3, k3, op3, un3, nil3, cons3, call3, tup3, lst3, chain3, fn30, fn3, fnN30, fnN3, fnP30, i2, i2c, i1, isN3, notN3, eqS3, neS3, ixL3, ixT3, len3, all3, any3, abs3, max23, min23, isi3, isB3, truth3, start3, slot, flatT, scal, tyn, isNon, lenT, truT, isiB, Option.bind, take3, kb_non_bool, kb_non_int, kb_non_str, kb_non_list, kb_non_tuple, kb_bool_bool, kb_bool_int, kb_bool_str, kb_bool_list, kb_bool_tuple, kb_int_bool, kb_int_int, kb_int_str, kb_int_list, kb_int_tuple, kb_str_bool, kb_str_int, kb_str_str, kb_str_list, kb_str_tuple, kb_list_bool, kb_list_int, kb_list_str, kb_list_list, kb_list_tuple, kb_tuple_bool, kb_tuple_int, kb_tuple_str, kb_tuple_list, kb_tuple_tuple, addP, mulP, ixP, slP, eqP, neP, isSeq, iterP, itemsP, no3, part3, sl3, raise3, brk3, cont3, sl3']
      intro z z0 z1
      refine hq _ ?_
      intro y hy
      simp at hy
      rcases hy with rfl | rfl | rfl
      all_goals exact ⟨_, rfl⟩
    refine loop_name (fun ds σ => (∀ y ∈ ds, ∃ m, y = .int m) ∧ ∃ h i, σ = st p x (.val (.int n1)) (.val (.int n2)) d (.val (.int low)) (.val (.int k)) (.val (.int q)) h i) _ _ ⟨hds, _, _, rfl⟩ (fun σ h => hn _ h.2) ?_
    rintro y r3 σ ⟨hy, h, i, rfl⟩ nx4 hn4
    obtain ⟨m, rfl⟩ := hy y (List.mem_cons_self ..)
    exact L_bound (h := .no) hC D fun h i => hn4 _ ⟨fun d hd => hy d (List.mem_cons_of_mem _ hd), h, i, rfl⟩
  rintro σ' ⟨h, i, rfl⟩
  by_cases c : -MOSTi ≤ q ∧ q ≤ MOSTi
  · have c1 : (if q < 0 then -q else q) < 1000000000000000000000000000000 := by simp only [MOSTi] at c; split <;> omega
    refine seq_by (fun σ' => σ' = st p x (.val (.int n1)) (.val (.int n2)) d (.val (.int low)) (.val (.int k)) (.val (.int q)) h (.val (.tup [.str "none"]))) (fun nx hn => ?_) ?_
    · have e := hn _ rfl
      simpa [law_1b_3e_3b_3, st, seq3, next3, ret3, retN3, ifs3, drop3, asg3, name3, tst3, and3, or3, not3, andV3, orV3, notV3, if3, v3, k3, op3, un3, nil3, cons3, call3, tup3, lst3, chain3, fn30, fn3, fnN30, fnN3, fnP30, i2, i2c, i1, isN3, notN3, eqS3, neS3, ixL3, ixT3, len3, all3, any3, abs3, max23, min23, isi3, isB3, truth3, start3, slot, flatT, scal, tyn, isNon, lenT, truT, isiB, Option.bind, take3, kb_non_bool, kb_non_int, kb_non_str, kb_non_list, kb_non_tuple, kb_bool_bool, kb_bool_int, kb_bool_str, kb_bool_list, kb_bool_tuple, kb_int_bool, kb_int_int, kb_int_str, kb_int_list, kb_int_tuple, kb_str_bool, kb_str_int, kb_str_str, kb_str_list, kb_str_tuple, kb_list_bool, kb_list_int, kb_list_str, kb_list_list, kb_list_tuple, kb_tuple_bool, kb_tuple_int, kb_tuple_str, kb_tuple_list, kb_tuple_tuple, addP, mulP, ixP, slP, eqP, neP, isSeq, iterP, itemsP, no3, part3, sl3, raise3, brk3, cont3, CPow, c1, sl1] using e
    rintro σ' rfl
    refine seq_by (fun σ' => σ' = st p x (.val (.int n1)) (.val (.int n2)) d (.val (.int low)) (.val (.int k)) (.val (.int q)) h (.val (.tup [.str "none"]))) (fun nx hn => ?_) ?_
    · have e := hn _ rfl
      simpa [law_1b_3e_3b_4, st, seq3, next3, ret3, retN3, ifs3, drop3, asg3, name3, tst3, and3, or3, not3, andV3, orV3, notV3, if3, v3, k3, op3, un3, nil3, cons3, call3, tup3, lst3, chain3, fn30, fn3, fnN30, fnN3, fnP30, i2, i2c, i1, isN3, notN3, eqS3, neS3, ixL3, ixT3, len3, all3, any3, abs3, max23, min23, isi3, isB3, truth3, start3, slot, flatT, scal, tyn, isNon, lenT, truT, isiB, Option.bind, take3, kb_non_bool, kb_non_int, kb_non_str, kb_non_list, kb_non_tuple, kb_bool_bool, kb_bool_int, kb_bool_str, kb_bool_list, kb_bool_tuple, kb_int_bool, kb_int_int, kb_int_str, kb_int_list, kb_int_tuple, kb_str_bool, kb_str_int, kb_str_str, kb_str_list, kb_str_tuple, kb_list_bool, kb_list_int, kb_list_str, kb_list_list, kb_list_tuple, kb_tuple_bool, kb_tuple_int, kb_tuple_str, kb_tuple_list, kb_tuple_tuple, addP, mulP, ixP, slP, eqP, neP, isSeq, iterP, itemsP, no3, part3, sl3, raise3, brk3, cont3, why4, D.b, c, same12] using e
    rintro σ' rfl
    have e := hn (.val (.int q)) h (.val (.tup [.str "none"]))
    simpa [law_1b_3e_3b_5, st, seq3, next3, ret3, retN3, ifs3, drop3, asg3, name3, tst3, and3, or3, not3, andV3, orV3, notV3, if3, v3, k3, op3, un3, nil3, cons3, call3, tup3, lst3, chain3, fn30, fn3, fnN30, fnN3, fnP30, i2, i2c, i1, isN3, notN3, eqS3, neS3, ixL3, ixT3, len3, all3, any3, abs3, max23, min23, isi3, isB3, truth3, start3, slot, flatT, scal, tyn, isNon, lenT, truT, isiB, Option.bind, take3, kb_non_bool, kb_non_int, kb_non_str, kb_non_list, kb_non_tuple, kb_bool_bool, kb_bool_int, kb_bool_str, kb_bool_list, kb_bool_tuple, kb_int_bool, kb_int_int, kb_int_str, kb_int_list, kb_int_tuple, kb_str_bool, kb_str_int, kb_str_str, kb_str_list, kb_str_tuple, kb_list_bool, kb_list_int, kb_list_str, kb_list_list, kb_list_tuple, kb_tuple_bool, kb_tuple_int, kb_tuple_str, kb_tuple_list, kb_tuple_tuple, addP, mulP, ixP, slP, eqP, neP, isSeq, iterP, itemsP, no3, part3, sl3, raise3, brk3, cont3, eqD_nn, D.b, c, same12, sl1] using e
  · have c1 : ¬ (if q < 0 then -q else q) < 1000000000000000000000000000000 := by simp only [MOSTi] at c; split <;> omega
    refine seq_by (fun σ' => σ' = st p x (.val (.int n1)) (.val (.int n2)) d (.val (.int low)) (.val (.int k)) (.val (.int q)) h (.val (.tup [.str "TooGreat"]))) (fun nx hn => ?_) ?_
    · have e := hn _ rfl
      simpa [law_1b_3e_3b_3, st, seq3, next3, ret3, retN3, ifs3, drop3, asg3, name3, tst3, and3, or3, not3, andV3, orV3, notV3, if3, v3, k3, op3, un3, nil3, cons3, call3, tup3, lst3, chain3, fn30, fn3, fnN30, fnN3, fnP30, i2, i2c, i1, isN3, notN3, eqS3, neS3, ixL3, ixT3, len3, all3, any3, abs3, max23, min23, isi3, isB3, truth3, start3, slot, flatT, scal, tyn, isNon, lenT, truT, isiB, Option.bind, take3, kb_non_bool, kb_non_int, kb_non_str, kb_non_list, kb_non_tuple, kb_bool_bool, kb_bool_int, kb_bool_str, kb_bool_list, kb_bool_tuple, kb_int_bool, kb_int_int, kb_int_str, kb_int_list, kb_int_tuple, kb_str_bool, kb_str_int, kb_str_str, kb_str_list, kb_str_tuple, kb_list_bool, kb_list_int, kb_list_str, kb_list_list, kb_list_tuple, kb_tuple_bool, kb_tuple_int, kb_tuple_str, kb_tuple_list, kb_tuple_tuple, addP, mulP, ixP, slP, eqP, neP, isSeq, iterP, itemsP, no3, part3, sl3, raise3, brk3, cont3, CPow, c1, sl1] using e
    rintro σ' rfl
    refine seq_by (fun σ' => σ' = st p x (.val (.int n1)) (.val (.int n2)) d (.val (.int low)) (.val (.int k)) (.val (.int q)) h (.val (.tup [.str "TooGreat"]))) (fun nx hn => ?_) ?_
    · have e := hn _ rfl
      simpa [law_1b_3e_3b_4, st, seq3, next3, ret3, retN3, ifs3, drop3, asg3, name3, tst3, and3, or3, not3, andV3, orV3, notV3, if3, v3, k3, op3, un3, nil3, cons3, call3, tup3, lst3, chain3, fn30, fn3, fnN30, fnN3, fnP30, i2, i2c, i1, isN3, notN3, eqS3, neS3, ixL3, ixT3, len3, all3, any3, abs3, max23, min23, isi3, isB3, truth3, start3, slot, flatT, scal, tyn, isNon, lenT, truT, isiB, Option.bind, take3, kb_non_bool, kb_non_int, kb_non_str, kb_non_list, kb_non_tuple, kb_bool_bool, kb_bool_int, kb_bool_str, kb_bool_list, kb_bool_tuple, kb_int_bool, kb_int_int, kb_int_str, kb_int_list, kb_int_tuple, kb_str_bool, kb_str_int, kb_str_str, kb_str_list, kb_str_tuple, kb_list_bool, kb_list_int, kb_list_str, kb_list_list, kb_list_tuple, kb_tuple_bool, kb_tuple_int, kb_tuple_str, kb_tuple_list, kb_tuple_tuple, addP, mulP, ixP, slP, eqP, neP, isSeq, iterP, itemsP, no3, part3, sl3, raise3, brk3, cont3, why4, whyX4, whyT, hC.e_TooGreat_TooGreat, D.b, c, same12] using e
    rintro σ' rfl
    have e := hn (.val (.int q)) h (.val (.tup [.str "TooGreat"]))
    simpa [law_1b_3e_3b_5, st, seq3, next3, ret3, retN3, ifs3, drop3, asg3, name3, tst3, and3, or3, not3, andV3, orV3, notV3, if3, v3, k3, op3, un3, nil3, cons3, call3, tup3, lst3, chain3, fn30, fn3, fnN30, fnN3, fnP30, i2, i2c, i1, isN3, notN3, eqS3, neS3, ixL3, ixT3, len3, all3, any3, abs3, max23, min23, isi3, isB3, truth3, start3, slot, flatT, scal, tyn, isNon, lenT, truT, isiB, Option.bind, take3, kb_non_bool, kb_non_int, kb_non_str, kb_non_list, kb_non_tuple, kb_bool_bool, kb_bool_int, kb_bool_str, kb_bool_list, kb_bool_tuple, kb_int_bool, kb_int_int, kb_int_str, kb_int_list, kb_int_tuple, kb_str_bool, kb_str_int, kb_str_str, kb_str_list, kb_str_tuple, kb_list_bool, kb_list_int, kb_list_str, kb_list_list, kb_list_tuple, kb_tuple_bool, kb_tuple_int, kb_tuple_str, kb_tuple_list, kb_tuple_tuple, addP, mulP, ixP, slP, eqP, neP, isSeq, iterP, itemsP, no3, part3, sl3, raise3, brk3, cont3, eqD_tn, sl1] using e
/-- one turn -/
theorem L_turn {x : T} {a b d e f g h i : Sl} (hC : CsOk C) (hn : ∀ a b d e f g h i, N.nx (st p x a b d e f g h i)) : law_1b C p N (st p x a b d e f g h i) := by
  unfold law_1b
  refine seq_by (fun σ' => ∃ u, isCellTree u ∧ σ' = st p x (.val u) b d e f g h i) (fun nx hn => ?_) ?_
  · exact ⟨rfl, rfl, cell_of C fun t ht => hn _ ⟨t, ht, rfl⟩⟩
  rintro σ' ⟨u, hu, rfl⟩
  refine seq_by (fun σ' => ∃ v, isCellTree v ∧ σ' = st p x (.val u) (.val v) d e f g h i) (fun nx hn => ?_) ?_
  · exact ⟨rfl, rfl, cell_of C fun t ht => hn _ ⟨t, ht, rfl⟩⟩
  rintro σ' ⟨v, hv, rfl⟩
  obtain ⟨u, rfl, bu⟩ := cell_ofC hu
  obtain ⟨v, rfl, bv⟩ := cell_ofC hv
  clear hu hv
  unfold law_1b_3
  by_cases hn0 : u = none ∨ v = none
  · refine ifs_by true (fun Q X q => ?_) ?_
    · cases u <;> cases v <;> first | (simp at hn0; done) | simpa [st, seq3, next3, ret3, retN3, ifs3, drop3, asg3, name3, tst3, and3, or3, not3, andV3, orV3, notV3, if3, v3, k3, op3, un3, nil3, cons3, call3, tup3, lst3, chain3, fn30, fn3, fnN30, fnN3, fnP30, i2, i2c, i1, isN3, notN3, eqS3, neS3, ixL3, ixT3, len3, all3, any3, abs3, max23, min23, isi3, isB3, truth3, start3, slot, flatT, scal, tyn, isNon, lenT, truT, isiB, Option.bind, take3, kb_non_bool, kb_non_int, kb_non_str, kb_non_list, kb_non_tuple, kb_bool_bool, kb_bool_int, kb_bool_str, kb_bool_list, kb_bool_tuple, kb_int_bool, kb_int_int, kb_int_str, kb_int_list, kb_int_tuple, kb_str_bool, kb_str_int, kb_str_str, kb_str_list, kb_str_tuple, kb_list_bool, kb_list_int, kb_list_str, kb_list_list, kb_list_tuple, kb_tuple_bool, kb_tuple_int, kb_tuple_str, kb_tuple_list, kb_tuple_tuple, addP, mulP, ixP, slP, eqP, neP, isSeq, iterP, itemsP, no3, part3, sl3, raise3, brk3, cont3] using q
    rw [if_pos rfl]
    refine seq_by (fun σ' => σ' = st p x (.val (ofC u)) (.val (ofC v)) (.val (.lst [.non, .non, .non, .non, .non])) e f g h i) (fun nx hn => ?_) ?_
    · have z := hn _ rfl
      have a1 := plus_eq C u v MOSTi
      have a2 := minus_eq C u v MOSTi
      have a3 := times_eq C u v MOSTi
      have a4 := least_eq C u v
      have a5 := most_eq C u v
      unfold law_1b_3t_1
      cases u <;> cases v <;> first | (simp at hn0; done) | (simp only [ofC_none, ofC_some] at a1 a2 a3 a4 a5 z; simpa [st, seq3, next3, ret3, retN3, ifs3, drop3, asg3, name3, tst3, and3, or3, not3, andV3, orV3, notV3, if3, v3, k3, op3, un3, nil3, cons3, call3, tup3, lst3, chain3, fn30, fn3, fnN30, fnN3, fnP30, i2, i2c, i1, isN3, notN3, eqS3, neS3, ixL3, ixT3, len3, all3, any3, abs3, max23, min23, isi3, isB3, truth3, start3, slot, flatT, scal, tyn, isNon, lenT, truT, isiB, Option.bind, take3, kb_non_bool, kb_non_int, kb_non_str, kb_non_list, kb_non_tuple, kb_bool_bool, kb_bool_int, kb_bool_str, kb_bool_list, kb_bool_tuple, kb_int_bool, kb_int_int, kb_int_str, kb_int_list, kb_int_tuple, kb_str_bool, kb_str_int, kb_str_str, kb_str_list, kb_str_tuple, kb_list_bool, kb_list_int, kb_list_str, kb_list_list, kb_list_tuple, kb_tuple_bool, kb_tuple_int, kb_tuple_str, kb_tuple_list, kb_tuple_tuple, addP, mulP, ixP, slP, eqP, neP, isSeq, iterP, itemsP, no3, part3, sl3, raise3, brk3, cont3, a1, a2, a3, a4, a5, arQ, leastC, mostC, sl5] using z)
    rintro σ' rfl
    have z := hn (.val (ofC u)) (.val (ofC v)) (.val (.lst [.non, .non, .non, .non, .non])) e f g h i
    simpa [law_1b_3t_2, st, seq3, next3, ret3, retN3, ifs3, drop3, asg3, name3, tst3, and3, or3, not3, andV3, orV3, notV3, if3, v3, k3, op3, un3, nil3, cons3, call3, tup3, lst3, chain3, fn30, fn3, fnN30, fnN3, fnP30, i2, i2c, i1, isN3, notN3, eqS3, neS3, ixL3, ixT3, len3, all3, any3, abs3, max23, min23, isi3, isB3, truth3, start3, slot, flatT, scal, tyn, isNon, lenT, truT, isiB, Option.bind, take3, kb_non_bool, kb_non_int, kb_non_str, kb_non_list, kb_non_tuple, kb_bool_bool, kb_bool_int, kb_bool_str, kb_bool_list, kb_bool_tuple, kb_int_bool, kb_int_int, kb_int_str, kb_int_list, kb_int_tuple, kb_str_bool, kb_str_int, kb_str_str, kb_str_list, kb_str_tuple, kb_list_bool, kb_list_int, kb_list_str, kb_list_list, kb_list_tuple, kb_tuple_bool, kb_tuple_int, kb_tuple_str, kb_tuple_list, kb_tuple_tuple, addP, mulP, ixP, slP, eqP, neP, isSeq, iterP, itemsP, no3, part3, sl3, raise3, brk3, cont3, same12, sl5, sl1] using z
  · obtain ⟨n1, rfl⟩ : ∃ n1, u = some n1 := by
      cases u with
      | none => exact absurd (.inl rfl) hn0
      | some n => exact ⟨n, rfl⟩
    obtain ⟨n2, rfl⟩ : ∃ n1, v = some n1 := by
      cases v with
      | none => exact absurd (.inr rfl) hn0
      | some n => exact ⟨n, rfl⟩
    clear hn0
    obtain ⟨a1, a2⟩ := bu n1 rfl
    obtain ⟨b1, b2⟩ := bv n2 rfl
    have bits : ∀ z : Int, -MOSTi ≤ z → z ≤ MOSTi → z.natAbs < 2 ^ 100 := fun z z1 z2 => by
      have e : (2 : Nat) ^ 100 = 1267650600228229401496703205376 := by decide
      rw [e]
      simp only [MOSTi] at z1 z2
      omega
    have hM : CMulW n1 n2 := wide_mul (bits _ a1 a2) (bits _ b1 b2) (by decide) (by decide) (by decide)
    clear bu bv bits a1 a2 b1 b2
    refine ifs_by false (fun Q X q => ?_) ?_
    · simpa [st, seq3, next3, ret3, retN3, ifs3, drop3, asg3, name3, tst3, and3, or3, not3, andV3, orV3, notV3, if3, v3, k3, op3, un3, nil3, cons3, call3, tup3, lst3, chain3, fn30, fn3, fnN30, fnN3, fnP30, i2, i2c, i1, isN3, notN3, eqS3, neS3, ixL3, ixT3, len3, all3, any3, abs3, max23, min23, isi3, isB3, truth3, start3, slot, flatT, scal, tyn, isNon, lenT, truT, isiB, Option.bind, take3, kb_non_bool, kb_non_int, kb_non_str, kb_non_list, kb_non_tuple, kb_bool_bool, kb_bool_int, kb_bool_str, kb_bool_list, kb_bool_tuple, kb_int_bool, kb_int_int, kb_int_str, kb_int_list, kb_int_tuple, kb_str_bool, kb_str_int, kb_str_str, kb_str_list, kb_str_tuple, kb_list_bool, kb_list_int, kb_list_str, kb_list_list, kb_list_tuple, kb_tuple_bool, kb_tuple_int, kb_tuple_str, kb_tuple_list, kb_tuple_tuple, addP, mulP, ixP, slP, eqP, neP, isSeq, iterP, itemsP, no3, part3, sl3, raise3, brk3, cont3] using q
    rw [if_neg (by decide)]
    obtain ⟨low, e1, e2, e3⟩ : ∃ low : Int, leastC (some n1) (some n2) = some low ∧ mostC (some n1) (some n2) = some (n1 + n2 - low) ∧ (if n1 < n2 then n1 else n2) = low := by
      refine ⟨if n1 < n2 then n1 else n2, ?_, ?_, rfl⟩
      · simp only [leastC]
        congr 1
        split <;> (try split) <;> omega
      · simp only [mostC]
        congr 1
        split <;> (try split) <;> omega
    have z1 := fun Q X => least_eq C (some n1) (some n2) Q X
    have z2 := fun Q X => most_eq C (some n1) (some n2) Q X
    rw [e1] at z1
    rw [e2] at z2
    simp only [ofC_some] at z1 z2 ⊢
    clear e1 e2
    refine seq_by (fun σ' => σ' = st p x (.val (.int n1)) (.val (.int n2)) d (.val (.int low)) f g h i) (fun nx hn => ?_) ?_
    · have z := hn _ rfl
      by_cases l : n1 < n2
      · rw [if_pos l] at e3
        subst e3
        simpa [law_1b_3e_1, st, seq3, next3, ret3, retN3, ifs3, drop3, asg3, name3, tst3, and3, or3, not3, andV3, orV3, notV3, if3, v3, k3, op3, un3, nil3, cons3, call3, tup3, lst3, chain3, fn30, fn3, fnN30, fnN3, fnP30, i2, i2c, i1, isN3, notN3, eqS3, neS3, ixL3, ixT3, len3, all3, any3, abs3, max23, min23, isi3, isB3, truth3, start3, slot, flatT, scal, tyn, isNon, lenT, truT, isiB, Option.bind, take3, kb_non_bool, kb_non_int, kb_non_str, kb_non_list, kb_non_tuple, kb_bool_bool, kb_bool_int, kb_bool_str, kb_bool_list, kb_bool_tuple, kb_int_bool, kb_int_int, kb_int_str, kb_int_list, kb_int_tuple, kb_str_bool, kb_str_int, kb_str_str, kb_str_list, kb_str_tuple, kb_list_bool, kb_list_int, kb_list_str, kb_list_list, kb_list_tuple, kb_tuple_bool, kb_tuple_int, kb_tuple_str, kb_tuple_list, kb_tuple_tuple, addP, mulP, ixP, slP, eqP, neP, isSeq, iterP, itemsP, no3, part3, sl3, raise3, brk3, cont3, l] using z
      · rw [if_neg l] at e3
        subst e3
        simpa [law_1b_3e_1, st, seq3, next3, ret3, retN3, ifs3, drop3, asg3, name3, tst3, and3, or3, not3, andV3, orV3, notV3, if3, v3, k3, op3, un3, nil3, cons3, call3, tup3, lst3, chain3, fn30, fn3, fnN30, fnN3, fnP30, i2, i2c, i1, isN3, notN3, eqS3, neS3, ixL3, ixT3, len3, all3, any3, abs3, max23, min23, isi3, isB3, truth3, start3, slot, flatT, scal, tyn, isNon, lenT, truT, isiB, Option.bind, take3, kb_non_bool, kb_non_int, kb_non_str, kb_non_list, kb_non_tuple, kb_bool_bool, kb_bool_int, kb_bool_str, kb_bool_list, kb_bool_tuple, kb_int_bool, kb_int_int, kb_int_str, kb_int_list, kb_int_tuple, kb_str_bool, kb_str_int, kb_str_str, kb_str_list, kb_str_tuple, kb_list_bool, kb_list_int, kb_list_str, kb_list_list, kb_list_tuple, kb_tuple_bool, kb_tuple_int, kb_tuple_str, kb_tuple_list, kb_tuple_tuple, addP, mulP, ixP, slP, eqP, neP, isSeq, iterP, itemsP, no3, part3, sl3, raise3, brk3, cont3, l] using z
    rintro σ' rfl
    clear e3
    refine seq_by (fun σ' => σ' = st p x (.val (.int n1)) (.val (.int n2)) d (.val (.int low)) f g h i) (fun nx hn => ?_) ?_
    · have z := hn _ rfl
      simpa [law_1b_3e_2, st, seq3, next3, ret3, retN3, ifs3, drop3, asg3, name3, tst3, and3, or3, not3, andV3, orV3, notV3, if3, v3, k3, op3, un3, nil3, cons3, call3, tup3, lst3, chain3, fn30, fn3, fnN30, fnN3, fnP30, i2, i2c, i1, isN3, notN3, eqS3, neS3, ixL3, ixT3, len3, all3, any3, abs3, max23, min23, isi3, isB3, truth3, start3, slot, flatT, scal, tyn, isNon, lenT, truT, isiB, Option.bind, take3, kb_non_bool, kb_non_int, kb_non_str, kb_non_list, kb_non_tuple, kb_bool_bool, kb_bool_int, kb_bool_str, kb_bool_list, kb_bool_tuple, kb_int_bool, kb_int_int, kb_int_str, kb_int_list, kb_int_tuple, kb_str_bool, kb_str_int, kb_str_str, kb_str_list, kb_str_tuple, kb_list_bool, kb_list_int, kb_list_str, kb_list_list, kb_list_tuple, kb_tuple_bool, kb_tuple_int, kb_tuple_str, kb_tuple_list, kb_tuple_tuple, addP, mulP, ixP, slP, eqP, neP, isSeq, iterP, itemsP, no3, part3, sl3, raise3, brk3, cont3, z1, z2, same12, sl2] using z
    rintro σ' rfl
    clear z1 z2
    unfold law_1b_3e_3
    refine ⟨by decide, by decide, ?_⟩
    refine loop_name (fun ds σ => (∀ y ∈ ds, y = .int 0 ∨ y = .int 1 ∨ y = .int 2) ∧ ∃ f g h i, σ = st p x (.val (.int n1)) (.val (.int n2)) d (.val (.int low)) f g h i) _ _ ⟨?_, _, _, _, _, rfl⟩ (fun σ h => ?_) ?_
    · intro y hy
      have hy : y ∈ [T.int 0, T.int 1, T.int 2] := hy
      simpa using hy
    · obtain ⟨_, f, g, h, i, rfl⟩ := h
      exact hn _ _ _ _ _ _ _ _
    rintro y r2 σ ⟨hy, f, g, h, i, rfl⟩ nx3 hn3
    have hy0 := hy y (List.mem_cons_self ..)
    replace hn3 := fun σ2 h => hn3 σ2 ⟨fun d hd => hy d (List.mem_cons_of_mem _ hd), h⟩
    obtain ⟨k, rfl, hk⟩ : ∃ k, y = .int k ∧ (k = 0 ∨ k = 1 ∨ k = 2) := by
      rcases hy0 with rfl | rfl | rfl
      · exact ⟨_, rfl, .inl rfl⟩
      · exact ⟨_, rfl, .inr (.inl rfl)⟩
      · exact ⟨_, rfl, .inr (.inr rfl)⟩
    exact L_kind hC hM hk fun g h i => hn3 _ ⟨_, _, _, _, rfl⟩
end
theorem law_plain (C : Cs) (hC : CsOk C) : Plain C := by
  intro p
  unfold lawB
  refine seq_by (fun σ' => ∃ x a b d e f g h i, σ' = [Sl.no, Sl.val (.ref p), x, a, b, d, e, f, g, h, i]) (fun nx hn => ?_) ?_
  · unfold law_1
    refine ⟨by decide, by decide, ?_⟩
    refine loop_name (fun _ σ => ∃ x a b d e f g h i, σ = [Sl.no, Sl.val (.ref p), x, a, b, d, e, f, g, h, i]) _ _ ⟨_, _, _, _, _, _, _, _, _, rfl⟩ hn ?_
    rintro x r σ ⟨x0, a, b, d, e, f, g, h, i, rfl⟩ nx2 hn2
    exact L_turn hC fun a b d e f g h i => hn2 _ ⟨_, _, _, _, _, _, _, _, _, rfl⟩
  rintro σ' ⟨x, a, b, d, e, f, g, h, i, rfl⟩
  have a1 := fun Q X => plus_eq C (some MOSTi) (some 0) MOSTi Q X
  have a2 := fun Q X => times_eq C none (some MOSTi) MOSTi Q X
  simp only [ofC_some, ofC_none] at a1 a2
  simp [law_2, seq3, next3, ret3, retN3, ifs3, drop3, asg3, name3, tst3, and3, or3, not3, andV3, orV3, notV3, if3, v3, k3, op3, un3, nil3, cons3, call3, tup3, lst3, chain3, fn30, fn3, fnN30, fnN3, fnP30, i2, i2c, i1, isN3, notN3, eqS3, neS3, ixL3, ixT3, len3, all3, any3, abs3, max23, min23, isi3, isB3, truth3, start3, slot, flatT, scal, tyn, isNon, lenT, truT, isiB, Option.bind, take3, kb_non_bool, kb_non_int, kb_non_str, kb_non_list, kb_non_tuple, kb_bool_bool, kb_bool_int, kb_bool_str, kb_bool_list, kb_bool_tuple, kb_int_bool, kb_int_int, kb_int_str, kb_int_list, kb_int_tuple, kb_str_bool, kb_str_int, kb_str_str, kb_str_list, kb_str_tuple, kb_list_bool, kb_list_int, kb_list_str, kb_list_list, kb_list_tuple, kb_tuple_bool, kb_tuple_int, kb_tuple_str, kb_tuple_list, kb_tuple_tuple, addP, mulP, ixP, slP, eqP, neP, isSeq, iterP, itemsP, no3, part3, sl3, raise3, brk3, cont3, a1, a2, arQ, anyC, MOSTi]
end Law

namespace Law
open PySem L2 M3
theorem all_mk {l : PySem.W.OpenLaw} {w : World} {K : PySem.W.Frag} {h : Heap} {mg : Str → Option Value} {fa : Addr} (X : K.In h) (G : h.Ns mainGlobals mg) (hfa : mg "law" = some (.ref fa)) (own : LamX.OwnTab K fa h)
    {f0 : Addr} {od0 an0 : Option Addr} {sl0 : Array (Option Value)} {oc0 dc0 pm0 ct0 : Value} {kV0 : Value} {cd0 : Value} {f1 : Addr} {od1 an1 : Option Addr} {sl1 : Array (Option Value)} {oc1 dc1 pm1 ct1 : Value} {cd1 : Value} {D1 : Addr} {w1_0 : Value} {f2 : Addr} {od2 an2 : Option Addr} {sl2 : Array (Option Value)} {oc2 dc2 pm2 ct2 : Value} {cd2 : Value} {D2 : Addr} {w2_0 : Value} {f3 : Addr} {od3 an3 : Option Addr} {sl3 : Array (Option Value)} {oc3 dc3 pm3 ct3 : Value} {cd3 : Value} {D3 : Addr} {w3_0 : Value} {f4 : Addr} {od4 an4 : Option Addr} {sl4 : Array (Option Value)} {oc4 dc4 pm4 ct4 : Value} {kV4 : Value} {cd4 : Value} {f5 : Addr} {od5 an5 : Option Addr} {sl5 : Array (Option Value)} {oc5 dc5 pm5 ct5 : Value} {kV5 : Value} {cd5 : Value} {f6 : Addr} {od6 an6 : Option Addr} {sl6 : Array (Option Value)} {oc6 dc6 pm6 ct6 : Value} {kV6 : Value} {cd6 : Value} {f7 : Addr} {od7 an7 : Option Addr} {sl7 : Array (Option Value)} {oc7 dc7 pm7 ct7 : Value} {kV7 : Value} {cd7 : Value} {f8 : Addr} {od8 an8 : Option Addr} {sl8 : Array (Option Value)} {oc8 dc8 pm8 ct8 : Value} {kV8 : Value} {cd8 : Value} {f9 : Addr} {od9 an9 : Option Addr} {sl9 : Array (Option Value)} {oc9 dc9 pm9 ct9 : Value} {kV9 : Value} {cd9 : Value} {f10 : Addr} {od10 an10 : Option Addr} {sl10 : Array (Option Value)} {oc10 dc10 pm10 ct10 : Value} {kV10 : Value} {cd10 : Value} {f11 : Addr} {od11 an11 : Option Addr} {sl11 : Array (Option Value)} {oc11 dc11 pm11 ct11 : Value} {kV11 : Value} {cd11 : Value} {f12 : Addr} {od12 an12 : Option Addr} {sl12 : Array (Option Value)} {oc12 dc12 pm12 ct12 : Value} {kV12 : Value} {cd12 : Value} {f13 : Addr} {od13 an13 : Option Addr} {sl13 : Array (Option Value)} {oc13 dc13 pm13 ct13 : Value} {kV13 : Value} {cL PL : Addr} {u_MOST : Value} {C_PourError : Addr} {C_TooGreat : Addr} {ddc : Option Addr} {vsc : Array Value} {slc : Array (Option Value)} {file : Str} {tf : Tok} {flags : Int} {tg : Tok} {inF : Bool} {text : Int} {tt : Tok}
    (a0 : PySem.W.nsIn K mainGlobals "need_number" = some (some (.ref f0)))
    (l0 : K.lookup f0 = some ⟨oc0, od0, .func (PySem.W.fnOf "need_number" "need_number" (defArgs s_need_number) (defBody s_need_number) (defScope s_need_number) .none kV0 dc0 pm0 an0 cd0 ct0), sl0⟩)
    (c0 : PySem.W.codeIn K cd0 "need_number" = true)
    (k0 : PySem.W.keepIn K (.ref f0) = true)
    (a1 : PySem.W.nsIn K mainGlobals "plus" = some (some (.ref f1)))
    (l1 : K.lookup f1 = some ⟨oc1, od1, .func (PySem.W.fnOf "plus" "plus" (defArgs s_plus) (defBody s_plus) (defScope s_plus) .none (.ref D1) dc1 pm1 an1 cd1 ct1), sl1⟩)
    (c1 : PySem.W.codeIn K cd1 "plus" = true)
    (k1 : PySem.W.keepIn K (.ref f1) = true)
    (q1_0 : PySem.W.nsIn K D1 "most" = some (some w1_0))
    (e1_0 : TreeAt K (.int 999999999999999999999999999999) w1_0)
    (a2 : PySem.W.nsIn K mainGlobals "minus" = some (some (.ref f2)))
    (l2 : K.lookup f2 = some ⟨oc2, od2, .func (PySem.W.fnOf "minus" "minus" (defArgs s_minus) (defBody s_minus) (defScope s_minus) .none (.ref D2) dc2 pm2 an2 cd2 ct2), sl2⟩)
    (c2 : PySem.W.codeIn K cd2 "minus" = true)
    (k2 : PySem.W.keepIn K (.ref f2) = true)
    (q2_0 : PySem.W.nsIn K D2 "most" = some (some w2_0))
    (e2_0 : TreeAt K (.int 999999999999999999999999999999) w2_0)
    (a3 : PySem.W.nsIn K mainGlobals "times" = some (some (.ref f3)))
    (l3 : K.lookup f3 = some ⟨oc3, od3, .func (PySem.W.fnOf "times" "times" (defArgs s_times) (defBody s_times) (defScope s_times) .none (.ref D3) dc3 pm3 an3 cd3 ct3), sl3⟩)
    (c3 : PySem.W.codeIn K cd3 "times" = true)
    (k3 : PySem.W.keepIn K (.ref f3) = true)
    (q3_0 : PySem.W.nsIn K D3 "most" = some (some w3_0))
    (e3_0 : TreeAt K (.int 999999999999999999999999999999) w3_0)
    (a4 : PySem.W.nsIn K mainGlobals "least" = some (some (.ref f4)))
    (l4 : K.lookup f4 = some ⟨oc4, od4, .func (PySem.W.fnOf "least" "least" (defArgs s_least) (defBody s_least) (defScope s_least) .none kV4 dc4 pm4 an4 cd4 ct4), sl4⟩)
    (c4 : PySem.W.codeIn K cd4 "least" = true)
    (k4 : PySem.W.keepIn K (.ref f4) = true)
    (a5 : PySem.W.nsIn K mainGlobals "most_of" = some (some (.ref f5)))
    (l5 : K.lookup f5 = some ⟨oc5, od5, .func (PySem.W.fnOf "most_of" "most_of" (defArgs s_most_of) (defBody s_most_of) (defScope s_most_of) .none kV5 dc5 pm5 an5 cd5 ct5), sl5⟩)
    (c5 : PySem.W.codeIn K cd5 "most_of" = true)
    (k5 : PySem.W.keepIn K (.ref f5) = true)
    (a6 : PySem.W.nsIn K mainGlobals "_law_pot" = some (some (.ref f6)))
    (l6 : K.lookup f6 = some ⟨oc6, od6, .func (PySem.W.fnOf "_law_pot" "_law_pot" (defArgs s_Lpot) (defBody s_Lpot) (defScope s_Lpot) .none kV6 dc6 pm6 an6 cd6 ct6), sl6⟩)
    (c6 : PySem.W.codeIn K cd6 "_law_pot" = true)
    (k6 : PySem.W.keepIn K (.ref f6) = true)
    (a7 : PySem.W.nsIn K mainGlobals "_law_take" = some (some (.ref f7)))
    (l7 : K.lookup f7 = some ⟨oc7, od7, .func (PySem.W.fnOf "_law_take" "_law_take" (defArgs s_Ltake) (defBody s_Ltake) (defScope s_Ltake) .none kV7 dc7 pm7 an7 cd7 ct7), sl7⟩)
    (c7 : PySem.W.codeIn K cd7 "_law_take" = true)
    (k7 : PySem.W.keepIn K (.ref f7) = true)
    (a8 : PySem.W.nsIn K mainGlobals "_law_same" = some (some (.ref f8)))
    (l8 : K.lookup f8 = some ⟨oc8, od8, .func (PySem.W.fnOf "_law_same" "_law_same" (defArgs s_Lsame) (defBody s_Lsame) (defScope s_Lsame) .none kV8 dc8 pm8 an8 cd8 ct8), sl8⟩)
    (c8 : PySem.W.codeIn K cd8 "_law_same" = true)
    (k8 : PySem.W.keepIn K (.ref f8) = true)
    (a9 : PySem.W.nsIn K mainGlobals "_law_cell" = some (some (.ref f9)))
    (l9 : K.lookup f9 = some ⟨oc9, od9, .func (PySem.W.fnOf "_law_cell" "_law_cell" (defArgs s_Lcell) (defBody s_Lcell) (defScope s_Lcell) .none kV9 dc9 pm9 an9 cd9 ct9), sl9⟩)
    (c9 : PySem.W.codeIn K cd9 "_law_cell" = true)
    (k9 : PySem.W.keepIn K (.ref f9) = true)
    (a10 : PySem.W.nsIn K mainGlobals "_law_acted" = some (some (.ref f10)))
    (l10 : K.lookup f10 = some ⟨oc10, od10, .func (PySem.W.fnOf "_law_acted" "_law_acted" (defArgs s_Lacted) (defBody s_Lacted) (defScope s_Lacted) .none kV10 dc10 pm10 an10 cd10 ct10), sl10⟩)
    (c10 : PySem.W.codeIn K cd10 "_law_acted" = true)
    (k10 : PySem.W.keepIn K (.ref f10) = true)
    (a11 : PySem.W.nsIn K mainGlobals "_law_acted_plainly" = some (some (.ref f11)))
    (l11 : K.lookup f11 = some ⟨oc11, od11, .func (PySem.W.fnOf "_law_acted_plainly" "_law_acted_plainly" (defArgs s_Lacted_plainly) (defBody s_Lacted_plainly) (defScope s_Lacted_plainly) .none kV11 dc11 pm11 an11 cd11 ct11), sl11⟩)
    (c11 : PySem.W.codeIn K cd11 "_law_acted_plainly" = true)
    (k11 : PySem.W.keepIn K (.ref f11) = true)
    (a12 : PySem.W.nsIn K mainGlobals "_law_why" = some (some (.ref f12)))
    (l12 : K.lookup f12 = some ⟨oc12, od12, .func (PySem.W.fnOf "_law_why" "_law_why" (defArgs s_Lwhy) (defBody s_Lwhy) (defScope s_Lwhy) .none kV12 dc12 pm12 an12 cd12 ct12), sl12⟩)
    (c12 : PySem.W.codeIn K cd12 "_law_why" = true)
    (k12 : PySem.W.keepIn K (.ref f12) = true)
    (a13 : PySem.W.nsIn K mainGlobals "law" = some (some (.ref f13)))
    (l13 : K.lookup f13 = some ⟨oc13, od13, .func (PySem.W.fnOf "law" "law" (defArgs s_law) (defBody s_law) (defScope s_law) .none kV13 dc13 pm13 an13 (.ref cL) ct13), sl13⟩)
    (c13 : PySem.W.codeIn K (.ref cL) "law" = true)
    (k13 : PySem.W.keepIn K (.ref f13) = true)
    (z_abs : PySem.W.nsIn K mainGlobals "abs" = some none)
    (z_all : PySem.W.nsIn K mainGlobals "all" = some none)
    (z_bool : PySem.W.nsIn K mainGlobals "bool" = some none)
    (z_int : PySem.W.nsIn K mainGlobals "int" = some none)
    (z_isinstance : PySem.W.nsIn K mainGlobals "isinstance" = some none)
    (z_len : PySem.W.nsIn K mainGlobals "len" = some none)
    (z_list : PySem.W.nsIn K mainGlobals "list" = some none)
    (z_max : PySem.W.nsIn K mainGlobals "max" = some none)
    (z_min : PySem.W.nsIn K mainGlobals "min" = some none)
    (z_range : PySem.W.nsIn K mainGlobals "range" = some none)
    (z_str : PySem.W.nsIn K mainGlobals "str" = some none)
    (z_tuple : PySem.W.nsIn K mainGlobals "tuple" = some none)
    (z_zip : PySem.W.nsIn K mainGlobals "zip" = some none)
    (g_MOST : PySem.W.nsIn K mainGlobals "MOST" = some (some u_MOST))
    (r_MOST : TreeAt K (.int 999999999999999999999999999999) u_MOST)
    (ac_PourError : PySem.W.nsIn K mainGlobals "PourError" = some (some (.ref C_PourError)))
    (xb_PourError : PySem.W.subIn K (.ref C_PourError) (.type "BaseException") = some true)
    (xt_PourError : PySem.W.typeIn K (.ref C_PourError) = some (.type "type"))
    (xi_PourError : PySem.W.isClsIn K C_PourError = true)
    (ac_TooGreat : PySem.W.nsIn K mainGlobals "TooGreat" = some (some (.ref C_TooGreat)))
    (xb_TooGreat : PySem.W.subIn K (.ref C_TooGreat) (.type "BaseException") = some true)
    (xt_TooGreat : PySem.W.typeIn K (.ref C_TooGreat) = some (.type "type"))
    (xx_TooGreat : PySem.W.excIn K C_TooGreat [.type "ValueError", .type "Exception", .type "BaseException", .type "object"] "ValueError.__new__" = true)
    (xk_TooGreat : PySem.W.keepIn K (.ref C_TooGreat) = true)
    (xi_TooGreat : PySem.W.isClsIn K C_TooGreat = true)
    (s_TooGreat_TooGreat : PySem.W.subIn K (.ref C_TooGreat) (.ref C_TooGreat) = some true)
    (s_TooGreat_PourError : PySem.W.subIn K (.ref C_TooGreat) (.ref C_PourError) = some true)
    (lc : K.lookup cL = some ⟨.type "code", ddc, .fields vsc, slc⟩)
    (v11 : vsc[11]? = some (.ref PL))
    (v18 : vsc.getD 18 .none = .str file tf)
    (v7 : vsc.getD 7 .none = .int flags tg)
    (v9 : vsc.getD 9 .none = .bool inF)
    (v10 : vsc.getD 10 .none = .int text tt)
    (ncP : (cL == PL) = false)
    (tP : PySem.W.typeIn K (.ref PL) = none) :
    LamX.LawAtS l w K CX0 13 63 "_law_script" mg fa h := by
  have m0 := PySem.W.mg_of X G a0
  have D_need_number : DefAt K mg "need_number" "need_number" s_need_number [] [] [] := defAt_mk m0 l0 c0 k0 (.inl ⟨rfl, rfl⟩) (.inl ⟨rfl, rfl⟩)
  have m1 := PySem.W.mg_of X G a1
  have D_plus : DefAt K mg "plus" "plus" s_plus [] ["most"] [(.int 999999999999999999999999999999)] := defAt_mk m1 l1 c1 k1 (.inl ⟨rfl, rfl⟩) (.inr ⟨D1, [w1_0], rfl, (.cons e1_0 .nil), rfl, fun q hq => by simp only [List.zip_cons_cons, List.zip_nil_right, List.zip_nil_left, List.mem_cons, List.mem_nil_iff, or_false, List.not_mem_nil] at hq; rcases hq with rfl <;> first | exact q1_0⟩)
  have m2 := PySem.W.mg_of X G a2
  have D_minus : DefAt K mg "minus" "minus" s_minus [] ["most"] [(.int 999999999999999999999999999999)] := defAt_mk m2 l2 c2 k2 (.inl ⟨rfl, rfl⟩) (.inr ⟨D2, [w2_0], rfl, (.cons e2_0 .nil), rfl, fun q hq => by simp only [List.zip_cons_cons, List.zip_nil_right, List.zip_nil_left, List.mem_cons, List.mem_nil_iff, or_false, List.not_mem_nil] at hq; rcases hq with rfl <;> first | exact q2_0⟩)
  have m3 := PySem.W.mg_of X G a3
  have D_times : DefAt K mg "times" "times" s_times [] ["most"] [(.int 999999999999999999999999999999)] := defAt_mk m3 l3 c3 k3 (.inl ⟨rfl, rfl⟩) (.inr ⟨D3, [w3_0], rfl, (.cons e3_0 .nil), rfl, fun q hq => by simp only [List.zip_cons_cons, List.zip_nil_right, List.zip_nil_left, List.mem_cons, List.mem_nil_iff, or_false, List.not_mem_nil] at hq; rcases hq with rfl <;> first | exact q3_0⟩)
  have m4 := PySem.W.mg_of X G a4
  have D_least : DefAt K mg "least" "least" s_least [] [] [] := defAt_mk m4 l4 c4 k4 (.inl ⟨rfl, rfl⟩) (.inl ⟨rfl, rfl⟩)
  have m5 := PySem.W.mg_of X G a5
  have D_most_of : DefAt K mg "most_of" "most_of" s_most_of [] [] [] := defAt_mk m5 l5 c5 k5 (.inl ⟨rfl, rfl⟩) (.inl ⟨rfl, rfl⟩)
  have m6 := PySem.W.mg_of X G a6
  have D_Lpot : DefAt K mg "_law_pot" "_law_pot" s_Lpot [] [] [] := defAt_mk m6 l6 c6 k6 (.inl ⟨rfl, rfl⟩) (.inl ⟨rfl, rfl⟩)
  have m7 := PySem.W.mg_of X G a7
  have D_Ltake : DefAt K mg "_law_take" "_law_take" s_Ltake [] [] [] := defAt_mk m7 l7 c7 k7 (.inl ⟨rfl, rfl⟩) (.inl ⟨rfl, rfl⟩)
  have m8 := PySem.W.mg_of X G a8
  have D_Lsame : DefAt K mg "_law_same" "_law_same" s_Lsame [] [] [] := defAt_mk m8 l8 c8 k8 (.inl ⟨rfl, rfl⟩) (.inl ⟨rfl, rfl⟩)
  have m9 := PySem.W.mg_of X G a9
  have D_Lcell : DefAt K mg "_law_cell" "_law_cell" s_Lcell [] [] [] := defAt_mk m9 l9 c9 k9 (.inl ⟨rfl, rfl⟩) (.inl ⟨rfl, rfl⟩)
  have m10 := PySem.W.mg_of X G a10
  have D_Lacted : DefAt K mg "_law_acted" "_law_acted" s_Lacted [] [] [] := defAt_mk m10 l10 c10 k10 (.inl ⟨rfl, rfl⟩) (.inl ⟨rfl, rfl⟩)
  have m11 := PySem.W.mg_of X G a11
  have D_Lacted_plainly : DefAt K mg "_law_acted_plainly" "_law_acted_plainly" s_Lacted_plainly [] [] [] := defAt_mk m11 l11 c11 k11 (.inl ⟨rfl, rfl⟩) (.inl ⟨rfl, rfl⟩)
  have m12 := PySem.W.mg_of X G a12
  have m13 := PySem.W.mg_of X G a13
  have zb_abs := PySem.W.mg_none_of X G z_abs
  have zb_all := PySem.W.mg_none_of X G z_all
  have zb_bool := PySem.W.mg_none_of X G z_bool
  have zb_int := PySem.W.mg_none_of X G z_int
  have zb_isinstance := PySem.W.mg_none_of X G z_isinstance
  have zb_len := PySem.W.mg_none_of X G z_len
  have zb_list := PySem.W.mg_none_of X G z_list
  have zb_max := PySem.W.mg_none_of X G z_max
  have zb_min := PySem.W.mg_none_of X G z_min
  have zb_range := PySem.W.mg_none_of X G z_range
  have zb_str := PySem.W.mg_none_of X G z_str
  have zb_tuple := PySem.W.mg_none_of X G z_tuple
  have zb_zip := PySem.W.mg_none_of X G z_zip
  obtain ⟨v_MOST, r1_MOST, r2_MOST⟩ : TreeAt K (.int 999999999999999999999999999999) u_MOST := r_MOST
  have mc_PourError := PySem.W.mg_of X G ac_PourError
  have at_PourError : (csOf K mg).at_ "PourError" = C_PourError := csOf_at mc_PourError
  have mc_TooGreat := PySem.W.mg_of X G ac_TooGreat
  have at_TooGreat : (csOf K mg).at_ "TooGreat" = C_TooGreat := csOf_at mc_TooGreat
  have T : Top K mg := ⟨D_need_number,
    D_plus,
    D_minus,
    D_times,
    D_least,
    D_most_of,
    D_Lpot,
    D_Ltake,
    D_Lsame,
    D_Lcell,
    D_Lacted,
    D_Lacted_plainly,
    zb_abs,
    zb_all,
    zb_bool,
    zb_int,
    zb_isinstance,
    zb_len,
    zb_list,
    zb_max,
    zb_min,
    zb_range,
    zb_str,
    zb_tuple,
    zb_zip,
    ⟨u_MOST, v_MOST, PySem.W.mg_of X G g_MOST, r1_MOST, r2_MOST⟩,
    ⟨by rw [at_TooGreat]; exact xx_TooGreat, by rw [at_TooGreat]; exact mc_TooGreat, by rw [at_TooGreat]; exact xk_TooGreat, by rw [at_TooGreat]; exact xb_TooGreat, by rw [at_TooGreat]; exact xt_TooGreat⟩,
    (by rw [at_TooGreat]; exact mc_TooGreat),
    (by rw [at_PourError]; exact mc_PourError),
    ⟨by rw [at_TooGreat]; exact exm_mk xb_TooGreat xi_TooGreat xt_TooGreat s_TooGreat_TooGreat, by rw [at_TooGreat, at_PourError]; exact exm_mk xb_PourError xi_PourError xt_PourError s_TooGreat_PourError⟩⟩
  have e := hfa.symm.trans m13
  cases e
  have F_why := fun_mk (st := s_Lwhy) l12 c12 k12
  have b_why := F_why.binds (ps := ["_law_act"]) fun _ _ _ _ _ _ us hl => match us, hl with | [_], _ => rfl
  refine ⟨PySem.W.fnOf "law" "law" (defArgs s_law) (defBody s_law) (defScope s_law) .none kV13 dc13 pm13 an13 (.ref cL) ct13, [(cL, PL)], spLawT K PL, fun p hp => ?_, fun p hp => ?_, fun p hp => ?_, fun s v => .of_eq rfl, fun H a ns _ _ hT hS => ⟨a, ns, rfl, hS, hT (cL, PL) (List.mem_singleton.mpr rfl), fun _ => rfl⟩, fun base _ _ TB => ok_law T base (law_plain _ T.cs) l13 c13 (TB (cL, PL) (List.mem_singleton.mpr rfl)) m12 k12 l12 c12 b_why⟩
  · cases List.mem_singleton.mp hp
    exact own cL PL _ _ _ _ _ _ l13 rfl rfl lc v11
  · cases List.mem_singleton.mp hp
    exact no_of_type tP
  · cases List.mem_singleton.mp hp
    exact ⟨_, vsc, file, tf, flags, tg, inF, text, tt, X _ _ lc, rfl, rfl, v11, (by rw [Array.getD_eq_getD_getElem?, v11]; rfl), v18, v7, v9, v10, fun (z : cL = PL) => by rw [z] at ncP; simp at ncP⟩
theorem walkL {l : PySem.W.OpenLaw} {q : Program} {loose : List Str} {XP : (Str → Option Value) → Heap → Prop} {YP : World → Heap → Prop} {d : DefRec} {K : Params → PySem.W.Frag} (hn : l.most = some 63) (hdf : d.params.defaults = []) (hrec : ((PyProof.Rows.recsOf q).any fun e => e.name == d.name) = true)
    (hY : ∀ (w : World) (h : Heap), YP w h → (K w.params).In h)
    (F : ∀ (w : World) (mg : Str → Option Value) (fa : Addr) (h : Heap), (K w.params).In h → h.Ns mainGlobals mg → mg d.name = some (.ref fa) → LamX.OwnTab (K w.params) fa h → LamX.LawAtS l w (K w.params) CX0 13 63 "_law_script" mg fa h) :
    PySem.W.WalkO q loose XP YP l.row.toRowW d [] (fun f vs => PySem.call f vs) :=
  LamX.walk_ofOwn (n := 63) (k := 13) (x := "_law_script") (CX := fun _ => CX0) hn (by decide) hdf ⟨rfl, by decide, by decide⟩ hrec hY (fun w mg fa h _ KX G hm ow => F w mg fa h KX G hm ow) fun _ _ _ _ _ z => z
end Law
open PySem PySem.W PyProof.Rows
set_option maxRecDepth 100000 in
set_option maxHeartbeats 0 in
theorem PySem.Challenge.cw_onepour_k02_sums_of_cells_holds : PySem.Challenge.rw_onepour_k02_sums_of_cells.Holds := by
  w_on; o_law; k_head; (case hw => w_witness2)
  k_fill
  refine Law.walkL (l := PySem.Challenge.rw_onepour_k02_sums_of_cells) rfl rfl (by decide +kernel) (fun w h Y => PySem.W.km_in_of Y) ?F
  case F =>
    intro w mg fa h KX G hmg own
    refine' Law.all_mk KX G hmg own ?a0 ?l0 ?c0 ?k0 ?a1 ?l1 ?c1 ?k1 ?q1_0 ?e1_0 ?a2 ?l2 ?c2 ?k2 ?q2_0 ?e2_0 ?a3 ?l3 ?c3 ?k3 ?q3_0 ?e3_0 ?a4 ?l4 ?c4 ?k4 ?a5 ?l5 ?c5 ?k5 ?a6 ?l6 ?c6 ?k6 ?a7 ?l7 ?c7 ?k7 ?a8 ?l8 ?c8 ?k8 ?a9 ?l9 ?c9 ?k9 ?a10 ?l10 ?c10 ?k10 ?a11 ?l11 ?c11 ?k11 ?a12 ?l12 ?c12 ?k12 ?a13 ?l13 ?c13 ?k13 ?z_abs ?z_all ?z_bool ?z_int ?z_isinstance ?z_len ?z_list ?z_max ?z_min ?z_range ?z_str ?z_tuple ?z_zip ?g_MOST ?r_MOST ?ac_PourError ?xb_PourError ?xt_PourError ?xi_PourError ?ac_TooGreat ?xb_TooGreat ?xt_TooGreat ?xx_TooGreat ?xk_TooGreat ?xi_TooGreat ?s_TooGreat_TooGreat ?s_TooGreat_PourError ?lc ?v11 ?v18 ?v7 ?v9 ?v10 ?ncP ?tP
    (case a0 => k_is)
    (case l0 => k_is)
    (case c0 => k_is)
    (case k0 => k_is)
    (case a1 => k_is)
    (case l1 => k_is)
    (case c1 => k_is)
    (case k1 => k_is)
    (case q1_0 => k_is)
    (case e1_0 => exact M3.treeAt_int)
    (case a2 => k_is)
    (case l2 => k_is)
    (case c2 => k_is)
    (case k2 => k_is)
    (case q2_0 => k_is)
    (case e2_0 => exact M3.treeAt_int)
    (case a3 => k_is)
    (case l3 => k_is)
    (case c3 => k_is)
    (case k3 => k_is)
    (case q3_0 => k_is)
    (case e3_0 => exact M3.treeAt_int)
    (case a4 => k_is)
    (case l4 => k_is)
    (case c4 => k_is)
    (case k4 => k_is)
    (case a5 => k_is)
    (case l5 => k_is)
    (case c5 => k_is)
    (case k5 => k_is)
    (case a6 => k_is)
    (case l6 => k_is)
    (case c6 => k_is)
    (case k6 => k_is)
    (case a7 => k_is)
    (case l7 => k_is)
    (case c7 => k_is)
    (case k7 => k_is)
    (case a8 => k_is)
    (case l8 => k_is)
    (case c8 => k_is)
    (case k8 => k_is)
    (case a9 => k_is)
    (case l9 => k_is)
    (case c9 => k_is)
    (case k9 => k_is)
    (case a10 => k_is)
    (case l10 => k_is)
    (case c10 => k_is)
    (case k10 => k_is)
    (case a11 => k_is)
    (case l11 => k_is)
    (case c11 => k_is)
    (case k11 => k_is)
    (case a12 => k_is)
    (case l12 => k_is)
    (case c12 => k_is)
    (case k12 => k_is)
    (case a13 => k_is)
    (case l13 => k_is)
    (case c13 => k_is)
    (case k13 => k_is)
    (case z_abs => k_is)
    (case z_all => k_is)
    (case z_bool => k_is)
    (case z_int => k_is)
    (case z_isinstance => k_is)
    (case z_len => k_is)
    (case z_list => k_is)
    (case z_max => k_is)
    (case z_min => k_is)
    (case z_range => k_is)
    (case z_str => k_is)
    (case z_tuple => k_is)
    (case z_zip => k_is)
    (case g_MOST => k_is)
    (case r_MOST => exact M3.treeAt_int)
    (case ac_PourError => k_is)
    (case xb_PourError => k_is)
    (case xt_PourError => k_is)
    (case xi_PourError => k_is)
    (case ac_TooGreat => k_is)
    (case xb_TooGreat => k_is)
    (case xt_TooGreat => k_is)
    (case xx_TooGreat => k_exc)
    (case xk_TooGreat => k_is)
    (case xi_TooGreat => k_is)
    (case s_TooGreat_TooGreat => first | rfl | k_is)
    (case s_TooGreat_PourError => first | rfl | k_is)
    (case lc => k_is)
    (case v11 => rfl)
    (case v18 => rfl)
    (case v7 => rfl)
    (case v9 => rfl)
    (case v10 => rfl)
    (case ncP => decide +kernel)
    (case tP => k_is)
#print axioms PySem.Challenge.cw_onepour_k02_sums_of_cells_holds
