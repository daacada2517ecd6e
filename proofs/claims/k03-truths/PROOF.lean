import PyProof.Rows.All
import Wide.All
import OpenK.AllK
import Wide.FinOn
import HandS.ForMost
import HandS.Wide
import HandS.IsInst
import HandS.Defaults
import HandS.EndBits
import HandS.Exc
import HandS.Flow
import HandS.TupAny
import HandS.Zip
import HandS.Style
import PySem.Challenge.RW_onepour_k03_truths_of_three_kinds
set_option Elab.async false
set_option linter.all false
set_option maxRecDepth 100000
set_option maxHeartbeats 4000000
/-! L3A: trees over the hand layer. A value is read as a tree (T); what may change is hidden. -/
namespace M3
open PySem L2
/-- a value as a tree -/
inductive T where
  | non | bl (b : Bool) | int (i : Int) | str (x : Str) | ty (n : String) | ref (a : Addr)
  | tup (xs : List T) | lst (xs : List T) | dic (kvs : List (Key × T)) | ins (C : Addr) (fs : List (Str × T))
/-! ### hidden addresses -/
def hid (S : List Addr) (H : Hp) : Hp := fun a => if a ∈ S then none else H a
theorem hid_in {S : List Addr} {H : Hp} {a : Addr} (h : a ∈ S) : hid S H a = none := by unfold hid; rw [if_pos h]
theorem hid_out {S : List Addr} {H : Hp} {a : Addr} (h : a ∉ S) : hid S H a = H a := by unfold hid; rw [if_neg h]
theorem hid_some {S : List Addr} {H : Hp} {a : Addr} {o : HO} (h : hid S H a = some o) : H a = some o ∧ a ∉ S := by
  by_cases e : a ∈ S
  · rw [hid_in e] at h; cases h
  · rw [hid_out e] at h; exact ⟨h, e⟩
theorem hid_mk {S : List Addr} {H : Hp} {a : Addr} {o : HO} (h : H a = some o) (n : a ∉ S) : hid S H a = some o := by rw [hid_out n]; exact h
theorem hid_same {S : List Addr} {H : Hp} : Same (hid S H) H := fun _ _ h => (hid_some h).1
theorem hid_mono {S S' : List Addr} {H : Hp} (h : ∀ a ∈ S', a ∈ S) : Same (hid S H) (hid S' H) := fun a _ e => by
  obtain ⟨e1, e2⟩ := hid_some e
  exact hid_mk e1 fun z => e2 (h a z)
theorem Same.rd {H H' : Hp} (e : Same H H') {a : Addr} {u : HO} (h : Rd H a u) : Rd H' a u := by
  rcases h with h | ⟨o, h⟩
  · exact .inl (e _ _ h)
  · exact .inr ⟨o, e _ _ h⟩
theorem Same.sqT {K : PySem.W.Frag} {H H' : Hp} {a : Addr} {xs : List V} (e : Same H H') (h : SqT K H a xs) : SqT K H' a xs := by
  rcases h with h | h
  · exact .inl (Same.rd e h)
  · exact .inr h
theorem Same.sqL {K : PySem.W.Frag} {H H' : Hp} {a : Addr} {xs : List V} (e : Same H H') (h : SqL K H a xs) : SqL K H' a xs := by
  rcases h with h | h
  · exact .inl (Same.rd e h)
  · exact .inr h
/-! ### what a tree is in a heap -/
inductive Rep (K : PySem.W.Frag) (H : Hp) : V → T → Prop where
  | non : Rep K H .non .non
  | bl (b : Bool) : Rep K H (.bl b) (.bl b)
  | int (i : Int) : Rep K H (.int i) (.int i)
  | str (x : Str) : Rep K H (.str x) (.str x)
  | ty (n : String) : Rep K H (.ty n) (.ty n)
  | ref (a : Addr) : Rep K H (.ref a) (.ref a)
  | tup {a : Addr} {vs : List V} {ts : List T} (h : SqT K H a vs) (hl : vs.length = ts.length) (hr : ∀ (i : Nat) v t, vs[i]? = some v → ts[i]? = some t → Rep K H v t) : Rep K H (.ref a) (.tup ts)
  | lst {a : Addr} {vs : List V} {ts : List T} (h : H a = some (.lst vs)) (hl : vs.length = ts.length) (hr : ∀ (i : Nat) v t, vs[i]? = some v → ts[i]? = some t → Rep K H v t) : Rep K H (.ref a) (.lst ts)
  | dic {a : Addr} {kvs : List (Key × V)} {ts : List (Key × T)} (h : Rd H a (.dK kvs)) (hk : kvs.map (·.1) = ts.map (·.1))
      (hr : ∀ (i : Nat) v t, (kvs.map (·.2))[i]? = some v → (ts.map (·.2))[i]? = some t → Rep K H v t) : Rep K H (.ref a) (.dic ts)
  | ins {a C dx : Addr} {fs : List (Str × V)} {ts : List (Str × T)} (h : H a = some (.ins C dx fs)) (hk : fs.map (·.1) = ts.map (·.1))
      (hr : ∀ (i : Nat) v t, (fs.map (·.2))[i]? = some v → (ts.map (·.2))[i]? = some t → Rep K H v t) : Rep K H (.ref a) (.ins C ts)
abbrev RepL (K : PySem.W.Frag) (H : Hp) : List V → List T → Prop := Paired (Rep K H)
section
variable {K : PySem.W.Frag} {H H' : Hp} {v : V} {t : T} {vs : List V} {ts : List T} {a : Addr}
theorem Rep.mono (r : Rep K H v t) (e : Same H H') : Rep K H' v t := by
  induction r with
  | non => exact .non
  | bl b => exact .bl b
  | int i => exact .int i
  | str x => exact .str x
  | ty n => exact .ty n
  | ref a => exact .ref a
  | tup h hl _ ih => exact .tup (Same.sqT e h) hl ih
  | lst h hl _ ih => exact .lst (e _ _ h) hl ih
  | dic h hk _ ih => exact .dic (Same.rd e h) hk ih
  | ins h hk _ ih => exact .ins (e _ _ h) hk ih
theorem repL_mk : ∀ {vs : List V} {ts : List T}, vs.length = ts.length → (∀ (i : Nat) v t, vs[i]? = some v → ts[i]? = some t → Rep K H v t) → RepL K H vs ts
  | [], [], _, _ => .nil
  | v :: vs, t :: ts, hl, hr => .cons (hr 0 v t rfl rfl) (repL_mk (by simpa using hl) fun i v t h1 h2 => hr (i + 1) v t (by simpa using h1) (by simpa using h2))
  | [], _ :: _, hl, _ => by simp at hl
  | _ :: _, [], hl, _ => by simp at hl
theorem RepL.length (r : RepL K H vs ts) : vs.length = ts.length := Paired.length r
theorem RepL.at : ∀ {vs : List V} {ts : List T} {i : Nat} {v : V} {t : T}, RepL K H vs ts → vs[i]? = some v → ts[i]? = some t → Rep K H v t
  | _, _, _, _, _, .nil, e, _ => by simp at e
  | _, _, 0, _, _, .cons r _, e, f => by simp at e f; subst e; subst f; exact r
  | _, _, i + 1, v, t, .cons _ q, e, f => RepL.at (i := i) (v := v) (t := t) q (by simpa using e) (by simpa using f)
theorem RepL.get : ∀ {vs : List V} {ts : List T} {i : Nat} {t : T}, RepL K H vs ts → ts[i]? = some t → ∃ v, vs[i]? = some v ∧ Rep K H v t
  | _, _, _, _, .nil, e => by simp at e
  | _, _, 0, _, .cons r _, e => by simp at e; subst e; exact ⟨_, rfl, r⟩
  | _, _, i + 1, t, .cons _ q, e => by
    obtain ⟨v, h1, h2⟩ := RepL.get (i := i) (t := t) q (by simpa using e)
    exact ⟨v, by simpa using h1, h2⟩
theorem RepL.mono (r : RepL K H vs ts) (e : Same H H') : RepL K H' vs ts := Paired.mapP r fun _ _ z => z.mono e
theorem RepL.append : ∀ {vs ws : List V} {ts us : List T}, RepL K H vs ts → RepL K H ws us → RepL K H (vs ++ ws) (ts ++ us)
  | _, _, _, _, .nil, s => s
  | _, _, _, _, .cons r t, s => .cons r (RepL.append t s)
theorem RepL.take : ∀ {vs : List V} {ts : List T} (n : Nat), RepL K H vs ts → RepL K H (vs.take n) (ts.take n)
  | _, _, 0, _ => .nil
  | _, _, _ + 1, .nil => .nil
  | _, _, n + 1, .cons r t => .cons r (RepL.take n t)
theorem RepL.drop : ∀ {vs : List V} {ts : List T} (n : Nat), RepL K H vs ts → RepL K H (vs.drop n) (ts.drop n)
  | _, _, 0, r => r
  | _, _, _ + 1, .nil => .nil
  | _, _, n + 1, .cons _ t => RepL.drop n t
theorem RepL.set {v : V} {t : T} (r : Rep K H v t) : ∀ {vs : List V} {ts : List T} (i : Nat), RepL K H vs ts → RepL K H (vs.set i v) (ts.set i t)
  | _, _, _, .nil => .nil
  | _, _, 0, .cons _ q => .cons r q
  | _, _, i + 1, .cons p q => .cons p (RepL.set r i q)
theorem Rep.mkT (h : SqT K H a vs) (r : RepL K H vs ts) : Rep K H (.ref a) (.tup ts) := .tup h r.length fun _ _ _ => r.at
theorem Rep.mkL (h : H a = some (.lst vs)) (r : RepL K H vs ts) : Rep K H (.ref a) (.lst ts) := .lst h r.length fun _ _ _ => r.at
theorem Rep.tupI (r : Rep K H v (.tup ts)) : ∃ a vs, v = .ref a ∧ SqT K H a vs ∧ RepL K H vs ts := by
  cases r with
  | tup h hl hr => exact ⟨_, _, rfl, h, repL_mk hl hr⟩
theorem Rep.lstI (r : Rep K H v (.lst ts)) : ∃ a vs, v = .ref a ∧ H a = some (.lst vs) ∧ RepL K H vs ts := by
  cases r with
  | lst h hl hr => exact ⟨_, _, rfl, h, repL_mk hl hr⟩
theorem Rep.intI {i : Int} (r : Rep K H v (.int i)) : v = .int i := by cases r; rfl
theorem Rep.blI {b : Bool} (r : Rep K H v (.bl b)) : v = .bl b := by cases r; rfl
theorem Rep.strI {x : Str} (r : Rep K H v (.str x)) : v = .str x := by cases r; rfl
theorem Rep.nonI (r : Rep K H v .non) : v = .non := by cases r; rfl
theorem Rep.tyI {n : String} (r : Rep K H v (.ty n)) : v = .ty n := by cases r; rfl
theorem Rep.refI (r : Rep K H v (.ref a)) : v = .ref a := by cases r; rfl
end
/-! ### the state -/
inductive Sl where
  | no | val (t : T) | own (t : T)
/-- what is hidden from the trees for good: its addresses, and what is true of them -/
structure Cf where
  S0 : List Addr
  I : Hp → Prop
  st : ∀ H H', (∀ a ∈ S0, H' a = H a) → I H → I H'
  on : ∀ H, I H → ∀ a ∈ S0, H a ≠ none
def addrs (A : List (Option Addr)) : List Addr := A.filterMap id
def Cf.S (c : Cf) (G : List Addr) (A : List (Option Addr)) : List Addr := c.S0 ++ G ++ addrs A
def OwnRep (K : PySem.W.Frag) (Hv H : Hp) (a : Addr) : T → Prop
  | .lst xs => ∃ vs, H a = some (.lst vs) ∧ RepL K Hv vs xs
  | .dic kvs => ∃ ks, H a = some (.dK ks) ∧ ks.map (·.1) = kvs.map (·.1) ∧ RepL K Hv (ks.map (·.2)) (kvs.map (·.2))
  | _ => False
def SlRep (K : PySem.W.Frag) (Hv H : Hp) (s : Sl) (o : Option Addr) (x : Option V) : Prop :=
  match s with
  | .no => o = none
  | .val t => o = none ∧ ∃ v, x = some v ∧ Rep K Hv v t
  | .own t => ∃ a, o = some a ∧ x = some (.ref a) ∧ OwnRep K Hv H a t
structure R3 (K : PySem.W.Frag) (c : Cf) (Hb : Hp) (G : List Addr) (A : List (Option Addr)) (σ3 : List Sl) (σ : St) (H : Hp) : Prop where
  inv : c.I H
  base : Same (hid (c.S0 ++ G) Hb) (hid (c.S G A) H)
  gk : ∀ a ∈ G, H a = Hb a ∧ H a ≠ none ∧ a ∉ c.S0
  nd : (addrs A).Nodup
  ns : ∀ a ∈ addrs A, a ∉ c.S0 ++ G
  l1 : A.length = σ3.length
  l2 : σ.length = σ3.length
  at_ : ∀ (i : Nat) s o x, σ3[i]? = some s → A[i]? = some o → σ[i]? = some x → SlRep K (hid (c.S G A) H) H s o x
/-- from one heap to a later one, while an expression is reckoned -/
structure Le (c : Cf) (G : List Addr) (A : List (Option Addr)) (H H' : Hp) : Prop where
  vis : Same (hid (c.S G A) H) (hid (c.S G A) H')
  own : ∀ a ∈ G ++ addrs A, H' a = H a
  inv : c.I H'
theorem Le.trans {c : Cf} {G : List Addr} {A : List (Option Addr)} {H H1 H2 : Hp} (a : Le c G A H H1) (b : Le c G A H1 H2) : Le c G A H H2 :=
  ⟨Same.trans a.vis b.vis, fun x h => (b.own x h).trans (a.own x h), b.inv⟩
theorem Le.refl {c : Cf} {G : List Addr} {A : List (Option Addr)} {H : Hp} (h : c.I H) : Le c G A H H := ⟨Same.refl _, fun _ _ => rfl, h⟩
theorem mem_S {c : Cf} {G : List Addr} {A : List (Option Addr)} {a : Addr} : a ∈ c.S G A ↔ a ∈ c.S0 ∨ a ∈ G ∨ a ∈ addrs A := by
  unfold Cf.S
  rw [List.mem_append, List.mem_append, or_assoc]
theorem mem_addrs {A : List (Option Addr)} {a : Addr} : a ∈ addrs A ↔ some a ∈ A := by
  unfold addrs
  rw [List.mem_filterMap]
  exact ⟨fun ⟨x, h, e⟩ => by cases e; exact h, fun h => ⟨_, h, rfl⟩⟩
section
variable {K : PySem.W.Frag} {c : Cf} {Hb H H' : Hp} {G : List Addr} {A : List (Option Addr)} {σ3 : List Sl} {σ : St} {v : V} {t : T}
theorem OwnRep.mono {Hv Hv' : Hp} {a : Addr} {t : T} (r : OwnRep K Hv H a t) (e : Same Hv Hv') (h : H' a = H a) : OwnRep K Hv' H' a t := by
  cases t with
  | lst xs => obtain ⟨vs, h1, h2⟩ := r; exact ⟨vs, h.trans h1, h2.mono e⟩
  | dic kvs => obtain ⟨ks, h1, h2, h3⟩ := r; exact ⟨ks, h.trans h1, h2, h3.mono e⟩
  | _ => exact r
theorem OwnRep.there {Hv : Hp} {a : Addr} {t : T} (r : OwnRep K Hv H a t) : H a ≠ none := by
  cases t with
  | lst xs => obtain ⟨vs, h1, h2⟩ := r; rw [h1]; intro z; cases z
  | dic kvs => obtain ⟨ks, h1, h2, h3⟩ := r; rw [h1]; intro z; cases z
  | _ => exact r.elim
theorem R3.le (r : R3 K c Hb G A σ3 σ H) (l : Le c G A H H') : R3 K c Hb G A σ3 σ H' where
  inv := l.inv
  base := Same.trans r.base l.vis
  gk := fun a h => ⟨(l.own a (List.mem_append.mpr (.inl h))).trans (r.gk a h).1, by rw [l.own a (List.mem_append.mpr (.inl h))]; exact (r.gk a h).2.1, (r.gk a h).2.2⟩
  nd := r.nd
  ns := r.ns
  l1 := r.l1
  l2 := r.l2
  at_ := fun i s o x h1 h2 h3 => by
    have z := r.at_ i s o x h1 h2 h3
    cases s with
    | no => exact z
    | val t => obtain ⟨e, v, e2, q⟩ := z; exact ⟨e, v, e2, q.mono l.vis⟩
    | own t =>
      obtain ⟨a, e, e2, q⟩ := z
      refine ⟨a, e, e2, q.mono l.vis (l.own a (List.mem_append.mpr (.inr (mem_addrs.mpr ?_))))⟩
      subst e
      exact List.mem_of_getElem? h2
theorem R3.get (r : R3 K c Hb G A σ3 σ H) {i : Nat} (h : σ3[i]? = some (.val t)) : ∃ v, σ[i]? = some (some v) ∧ Rep K (hid (c.S G A) H) v t := by
  have hl : i < σ3.length := (List.getElem?_eq_some_iff.mp h).1
  have h1 : i < A.length := by rw [r.l1]; exact hl
  have h2 : i < σ.length := by rw [r.l2]; exact hl
  obtain ⟨_, v, e, q⟩ := r.at_ i _ _ _ h (List.getElem?_eq_getElem h1) (List.getElem?_eq_getElem h2)
  exact ⟨v, by rw [List.getElem?_eq_getElem h2, e], q⟩
/-- every hidden address is taken -/
theorem R3.there (r : R3 K c Hb G A σ3 σ H) {a : Addr} (h : a ∈ c.S G A) : H a ≠ none := by
  rcases mem_S.mp h with h | h | h
  · exact c.on H r.inv a h
  · exact (r.gk a h).2.1
  · have h' := mem_addrs.mp h
    obtain ⟨i, hi⟩ := List.getElem?_of_mem h'
    have hl : i < A.length := (List.getElem?_eq_some_iff.mp hi).1
    have h1 : i < σ3.length := by rw [← r.l1]; exact hl
    have h2 : i < σ.length := by rw [r.l2]; exact h1
    have z := r.at_ i _ _ _ (List.getElem?_eq_getElem h1) hi (List.getElem?_eq_getElem h2)
    cases e : σ3[i] with
    | no => rw [e] at z; cases z
    | val t => rw [e] at z; obtain ⟨z, _⟩ := z; cases z
    | own t =>
      rw [e] at z
      obtain ⟨b, e1, e2, q⟩ := z
      cases e1
      exact q.there
theorem R3.free (r : R3 K c Hb G A σ3 σ H) {p : Addr} (h : H p = none) : p ∉ c.S G A := fun z => r.there z h
/-- a new object -/
theorem R3.new (r : R3 K c Hb G A σ3 σ H) {p : Addr} {o : HO} (h : H p = none) : Le c G A H (upd H p o) where
  vis := fun a u e => by
    obtain ⟨e1, e2⟩ := hid_some e
    exact hid_mk (by rw [upd_ne (ne_of_none e1 h)]; exact e1) e2
  own := fun a ha => by
    have hm : a ∈ c.S G A := mem_S.mpr (by rcases List.mem_append.mp ha with z | z; exact .inr (.inl z); exact .inr (.inr z))
    have : a ≠ p := fun z => by subst z; exact r.there hm h
    rw [upd_ne this]
  inv := c.st H _ (fun a ha => by
    have hm : a ∈ c.S G A := mem_S.mpr (.inl ha)
    have : a ≠ p := fun z => by subst z; exact r.there hm h
    rw [upd_ne this]) r.inv
theorem R3.newAt (r : R3 K c Hb G A σ3 σ H) {p : Addr} {o : HO} (h : H p = none) : hid (c.S G A) (upd H p o) p = some o := hid_mk upd_same (r.free h)
theorem getElem?_set_cases {α : Type} {l : List α} {i j : Nat} {x y : α} (h : (l.set i x)[j]? = some y) : (i = j ∧ y = x ∧ i < l.length) ∨ (i ≠ j ∧ l[j]? = some y) := by
  by_cases e : i = j
  · subst e
    have hl : i < l.length := by
      have := (List.getElem?_eq_some_iff.mp h).1
      simpa using this
    rw [List.getElem?_set_self hl] at h
    cases h
    exact .inl ⟨rfl, rfl, hl⟩
  · rw [List.getElem?_set_ne e] at h
    exact .inr ⟨e, h⟩
theorem addrs_set_sub {A : List (Option Addr)} {i : Nat} : ∀ a ∈ addrs (A.set i none), a ∈ addrs A := fun a h => by
  have h' := mem_addrs.mp h
  obtain ⟨j, hj⟩ := List.getElem?_of_mem h'
  rcases getElem?_set_cases hj with ⟨_, e, _⟩ | ⟨_, e⟩
  · cases e
  · exact mem_addrs.mpr (List.mem_of_getElem? e)
theorem S_sub {A A' : List (Option Addr)} (h : ∀ a ∈ addrs A', a ∈ addrs A) : ∀ a ∈ c.S G A', a ∈ c.S G A := fun a z => by
  rcases mem_S.mp z with z | z | z
  · exact mem_S.mpr (.inl z)
  · exact mem_S.mpr (.inr (.inl z))
  · exact mem_S.mpr (.inr (.inr (h a z)))
theorem nodup_filterMap_set : ∀ {A : List (Option Addr)} {i : Nat}, (addrs A).Nodup → (addrs (A.set i none)).Nodup
  | [], i, h => by simpa using h
  | none :: A, 0, h => h
  | some a :: A, 0, h => (List.nodup_cons.mp (show (a :: addrs A).Nodup from h)).2
  | none :: A, i + 1, h => nodup_filterMap_set (A := A) (i := i) h
  | some a :: A, i + 1, h => by
    have h' := List.nodup_cons.mp (show (a :: addrs A).Nodup from h)
    exact List.nodup_cons.mpr ⟨fun z => h'.1 (addrs_set_sub a z), nodup_filterMap_set (A := A) (i := i) h'.2⟩
/-- a slot is stored with a value -/
theorem R3.set (r : R3 K c Hb G A σ3 σ H) (i : Nat) (q : Rep K (hid (c.S G A) H) v t) : R3 K c Hb G (A.set i none) (σ3.set i (.val t)) (σ.set i (some v)) H := by
  have sub : Same (hid (c.S G A) H) (hid (c.S G (A.set i none)) H) := hid_mono (S_sub addrs_set_sub)
  refine ⟨r.inv, Same.trans r.base sub, r.gk, nodup_filterMap_set (A := A) r.nd, fun a h => r.ns a (addrs_set_sub a h), by rw [List.length_set, List.length_set, r.l1], by rw [List.length_set, List.length_set, r.l2], ?_⟩
  intro j s o x h1 h2 h3
  rcases getElem?_set_cases h1 with ⟨e, e1, _⟩ | ⟨e, e1⟩
  · subst e
    subst e1
    rcases getElem?_set_cases h2 with ⟨_, e2, _⟩ | ⟨e2, _⟩
    · subst e2
      rcases getElem?_set_cases h3 with ⟨_, e3, _⟩ | ⟨e3, _⟩
      · subst e3
        exact ⟨rfl, v, rfl, q.mono sub⟩
      · exact absurd rfl e3
    · exact absurd rfl e2
  · rw [List.getElem?_set_ne e] at h2 h3
    have z := r.at_ j s o x e1 h2 h3
    cases s with
    | no => exact z
    | val t => obtain ⟨e, v, e2, q⟩ := z; exact ⟨e, v, e2, q.mono sub⟩
    | own t => obtain ⟨a, e, e2, q⟩ := z; exact ⟨a, e, e2, q.mono sub rfl⟩
/-- a slot is forgotten -/
theorem R3.wipe1 (r : R3 K c Hb G A σ3 σ H) (i : Nat) (x : Option V) : R3 K c Hb G (A.set i none) (σ3.set i .no) (σ.set i x) H := by
  have sub : Same (hid (c.S G A) H) (hid (c.S G (A.set i none)) H) := hid_mono (S_sub addrs_set_sub)
  refine ⟨r.inv, Same.trans r.base sub, r.gk, nodup_filterMap_set (A := A) r.nd, fun a h => r.ns a (addrs_set_sub a h), by rw [List.length_set, List.length_set, r.l1], by rw [List.length_set, List.length_set, r.l2], ?_⟩
  intro j s o x' h1 h2 h3
  rcases getElem?_set_cases h1 with ⟨e, e1, _⟩ | ⟨e, e1⟩
  · subst e
    subst e1
    rcases getElem?_set_cases h2 with ⟨_, e2, _⟩ | ⟨e2, _⟩
    · exact e2
    · exact absurd rfl e2
  · rw [List.getElem?_set_ne e] at h2 h3
    have z := r.at_ j s o x' e1 h2 h3
    cases s with
    | no => exact z
    | val t => obtain ⟨e, v, e2, q⟩ := z; exact ⟨e, v, e2, q.mono sub⟩
    | own t => obtain ⟨a, e, e2, q⟩ := z; exact ⟨a, e, e2, q.mono sub rfl⟩
end
end M3

/-! L3B: the readings of the hand layer, lifted to trees: expressions, statements. -/
namespace M3
open PySem L2
/-- an exception: its class, its fields -/
structure Xn where
  cls : Value
  fs : List (Str × T)
def XRep (K : PySem.W.Frag) (Hv : Hp) (cls : Value) (dd : Option Addr) (x : Xn) : Prop :=
  x.cls = cls ∧ match dd with
    | none => x.fs = []
    | some d => ∃ fs, Hv d = some (.xd fs) ∧ fs.map (·.1) = x.fs.map (·.1) ∧ RepL K Hv (fs.map (·.2)) (x.fs.map (·.2))
abbrev X3 := Xn → Prop
abbrev G3 (β : Type) := List Sl → (β → Prop) → X3 → Prop
abbrev E3 := G3 T
abbrev B3 := G3 Bool
abbrev A3 := G3 (List T)
/-- the one lifting: te at values is t at trees -/
def LiftG (K : PySem.W.Frag) (c : Cf) (W : WX) {α β : Type} (rel : Hp → α → β → Prop) (te : St → Hp → (α → Hp → Prop) → Prop) (t : G3 β) : Prop :=
  ∀ σ3 Q3 X, t σ3 Q3 X → ∀ Hb G A σ H Q, R3 K c Hb G A σ3 σ H →
    (∀ v d H', Le c G A H H' → rel (hid (c.S G A) H') v d → Q3 d → Q v H') →
    (∀ cls dd x H', Le c G A H H' → XRep K (hid (c.S G A) H') cls dd x → X x → W cls dd σ H') → te σ H Q
abbrev Lift (K : PySem.W.Frag) (c : Cf) (W : WX) (te : TE) (t : E3) : Prop := LiftG K c W (Rep K) te t
abbrev LiftT (K : PySem.W.Frag) (c : Cf) (W : WX) (te : TT) (t : B3) : Prop := LiftG K c W (fun _ (b b' : Bool) => b = b') te t
abbrev LiftA (K : PySem.W.Frag) (c : Cf) (W : WX) (te : TA) (t : A3) : Prop := LiftG K c W (RepL K) te t
abbrev LiftO (K : PySem.W.Frag) (c : Cf) (W : WX) (te : TO) (t : G3 (Option Int)) : Prop := LiftG K c W (fun _ (b b' : Option Int) => b = b') te t
/-! ### readings over trees -/
/-- what is there -/
def ob {α : Type} (o : Option α) (Q : α → Prop) : Prop := match o with | some a => Q a | none => False
@[simp] theorem ob_some {α : Type} (a : α) (Q : α → Prop) : ob (some a) Q = Q a := rfl
@[simp] theorem ob_none {α : Type} (Q : α → Prop) : ob none Q = False := rfl
theorem ob_iff {α : Type} {o : Option α} {Q : α → Prop} : ob o Q ↔ ∃ a, o = some a ∧ Q a := by
  cases o with
  | none => exact ⟨fun h => h.elim, fun ⟨_, h, _⟩ => by cases h⟩
  | some a => exact ⟨fun h => ⟨a, rfl, h⟩, fun ⟨_, h, q⟩ => by cases h; exact q⟩
def asI : T → Option Int
  | .int i => some i
  | _ => none
def asL : T → Option (List T)
  | .lst i => some i
  | _ => none
def asT : T → Option (List T)
  | .tup i => some i
  | _ => none
def asS : T → Option Str
  | .str i => some i
  | _ => none
def asN : T → Option Unit
  | .non => some ()
  | _ => none
def asB : T → Option Bool
  | .bl b => some b
  | _ => none
def one {α : Type} : List α → Option α
  | [x] => some x
  | _ => none
def two {α : Type} : List α → Option (α × α)
  | [x, y] => some (x, y)
  | _ => none
@[simp] theorem asI_non  : asI .non = none := rfl
@[simp] theorem asI_bl (b : Bool) : asI (.bl b) = none := rfl
@[simp] theorem asI_int (b : Int) : asI (.int b) = some b := rfl
@[simp] theorem asI_str (b : Str) : asI (.str b) = none := rfl
@[simp] theorem asI_tup (b : List T) : asI (.tup b) = none := rfl
@[simp] theorem asI_lst (b : List T) : asI (.lst b) = none := rfl
@[simp] theorem asL_non  : asL .non = none := rfl
@[simp] theorem asL_bl (b : Bool) : asL (.bl b) = none := rfl
@[simp] theorem asL_int (b : Int) : asL (.int b) = none := rfl
@[simp] theorem asL_str (b : Str) : asL (.str b) = none := rfl
@[simp] theorem asL_tup (b : List T) : asL (.tup b) = none := rfl
@[simp] theorem asL_lst (b : List T) : asL (.lst b) = some b := rfl
@[simp] theorem asT_non  : asT .non = none := rfl
@[simp] theorem asT_bl (b : Bool) : asT (.bl b) = none := rfl
@[simp] theorem asT_int (b : Int) : asT (.int b) = none := rfl
@[simp] theorem asT_str (b : Str) : asT (.str b) = none := rfl
@[simp] theorem asT_tup (b : List T) : asT (.tup b) = some b := rfl
@[simp] theorem asT_lst (b : List T) : asT (.lst b) = none := rfl
@[simp] theorem asS_non  : asS .non = none := rfl
@[simp] theorem asS_bl (b : Bool) : asS (.bl b) = none := rfl
@[simp] theorem asS_int (b : Int) : asS (.int b) = none := rfl
@[simp] theorem asS_str (b : Str) : asS (.str b) = some b := rfl
@[simp] theorem asS_tup (b : List T) : asS (.tup b) = none := rfl
@[simp] theorem asS_lst (b : List T) : asS (.lst b) = none := rfl
@[simp] theorem asN_non  : asN .non = some () := rfl
@[simp] theorem asN_bl (b : Bool) : asN (.bl b) = none := rfl
@[simp] theorem asN_int (b : Int) : asN (.int b) = none := rfl
@[simp] theorem asN_str (b : Str) : asN (.str b) = none := rfl
@[simp] theorem asN_tup (b : List T) : asN (.tup b) = none := rfl
@[simp] theorem asN_lst (b : List T) : asN (.lst b) = none := rfl
@[simp] theorem asB_non  : asB .non = none := rfl
@[simp] theorem asB_bl (b : Bool) : asB (.bl b) = some b := rfl
@[simp] theorem asB_int (b : Int) : asB (.int b) = none := rfl
@[simp] theorem asB_str (b : Str) : asB (.str b) = none := rfl
@[simp] theorem asB_tup (b : List T) : asB (.tup b) = none := rfl
@[simp] theorem asB_lst (b : List T) : asB (.lst b) = none := rfl
@[simp] theorem one_1 {α : Type} (x : α) : one [x] = some x := rfl
@[simp] theorem two_2 {α : Type} (x y : α) : two [x, y] = some (x, y) := rfl
theorem asI_is {x : T} {i : Int} (h : asI x = some i) : x = .int i := by cases x <;> cases h; rfl
theorem asL_is {x : T} {i : List T} (h : asL x = some i) : x = .lst i := by cases x <;> cases h; rfl
theorem asT_is {x : T} {i : List T} (h : asT x = some i) : x = .tup i := by cases x <;> cases h; rfl
theorem asS_is {x : T} {i : Str} (h : asS x = some i) : x = .str i := by cases x <;> cases h; rfl
theorem asN_is {x : T} {i : Unit} (h : asN x = some i) : x = .non := by cases x <;> cases h; rfl
theorem asB_is {x : T} {i : Bool} (h : asB x = some i) : x = .bl i := by cases x <;> cases h; rfl
theorem one_is {α : Type} {l : List α} {x : α} (h : one l = some x) : l = [x] := by
  match l, h with
  | [y], h => cases h; rfl
theorem two_is {α : Type} {l : List α} {x : α × α} (h : two l = some x) : l = [x.1, x.2] := by
  match l, h with
  | [y, z], h => cases h; rfl
def slot (σ : List Sl) (i : Nat) : Option T := match σ[i]? with | some (.val t) => some t | _ => none
def v3 (i : Nat) : E3 := fun σ Q _ => ob (slot σ i) Q
def k3 (t : T) : E3 := fun _ Q _ => Q t
def op3 (r : T → T → (T → Prop) → Prop) (a b : E3) : E3 := fun σ Q X => a σ (fun x => b σ (fun y => r x y Q) X) X
def un3 (r : T → (T → Prop) → Prop) (a : E3) : E3 := fun σ Q X => a σ (fun x => r x Q) X
def nil3 : A3 := fun _ Q _ => Q []
def cons3 (a : E3) (r : A3) : A3 := fun σ Q X => a σ (fun x => r σ (fun xs => Q (x :: xs)) X) X
def call3 (r : List T → (T → Prop) → Prop) (a : A3) : E3 := fun σ Q X => a σ (fun xs => r xs Q) X
/-- a value operation, lifted -/
def RL2 (K : PySem.W.Frag) (r : R2) (r3 : T → T → (T → Prop) → Prop) : Prop :=
  ∀ (c : Cf) x y Q3, r3 x y Q3 → ∀ Hb G A σ3 σ H vx vy Q, R3 K c Hb G A σ3 σ H → Rep K (hid (c.S G A) H) vx x → Rep K (hid (c.S G A) H) vy y →
    (∀ v d H', Le c G A H H' → Rep K (hid (c.S G A) H') v d → Q3 d → Q v H') → r vx vy H Q
def RL1 (K : PySem.W.Frag) (r : V → Hp → VK → Prop) (r3 : T → (T → Prop) → Prop) : Prop :=
  ∀ (c : Cf) x Q3, r3 x Q3 → ∀ Hb G A σ3 σ H vx Q, R3 K c Hb G A σ3 σ H → Rep K (hid (c.S G A) H) vx x →
    (∀ v d H', Le c G A H H' → Rep K (hid (c.S G A) H') v d → Q3 d → Q v H') → r vx H Q
def RLn (K : PySem.W.Frag) (r : List V → Hp → VK → Prop) (r3 : List T → (T → Prop) → Prop) : Prop :=
  ∀ (c : Cf) xs Q3, r3 xs Q3 → ∀ Hb G A σ3 σ H vs Q, R3 K c Hb G A σ3 σ H → RepL K (hid (c.S G A) H) vs xs →
    (∀ v d H', Le c G A H H' → Rep K (hid (c.S G A) H') v d → Q3 d → Q v H') → r vs H Q
section
variable {K : PySem.W.Frag} {c : Cf} {W : WX} {ta tb te : TE} {a b e : E3}
theorem slot_get {σ : List Sl} {i : Nat} {t : T} (h : slot σ i = some t) : σ[i]? = some (.val t) := by
  unfold slot at h
  split at h
  · cases h; assumption
  · cases h
theorem lift_v (i : Nat) : Lift K c W (tVar i) (v3 i) := by
  intro σ3 Q3 X h Hb G A σ H Q R k e
  obtain ⟨t, h1, h2⟩ := ob_iff.mp h
  obtain ⟨v, h3, h4⟩ := R.get (slot_get h1)
  exact ⟨v, h3, k v t H (Le.refl R.inv) h4 h2⟩
theorem lift_k {v : V} {t : T} (r : ∀ H, Rep K H v t) : Lift K c W (tC v) (k3 t) := by
  intro σ3 Q3 X h Hb G A σ H Q R k e
  exact k v t H (Le.refl R.inv) (r _) h
theorem lift_int (i : Int) : Lift K c W (tC (.int i)) (k3 (.int i)) := lift_k fun _ => .int i
theorem lift_str (x : Str) : Lift K c W (tC (.str x)) (k3 (.str x)) := lift_k fun _ => .str x
theorem lift_bl (b : Bool) : Lift K c W (tC (.bl b)) (k3 (.bl b)) := lift_k fun _ => .bl b
theorem lift_non : Lift K c W (tC .non) (k3 .non) := lift_k fun _ => .non
theorem lift_ty (n : String) : Lift K c W (tC (.ty n)) (k3 (.ty n)) := lift_k fun _ => .ty n
theorem lift_ref (a : Addr) : Lift K c W (tC (.ref a)) (k3 (.ref a)) := lift_k fun _ => .ref a
theorem lift_op {r : R2} {r3 : T → T → (T → Prop) → Prop} (hr : RL2 K r r3) (ha : Lift K c W ta a) (hb : Lift K c W tb b) : Lift K c W (tOp r ta tb) (op3 r3 a b) := by
  intro σ3 Q3 X h Hb G A σ H Q R k e
  refine ha _ _ _ h Hb G A σ H _ R (fun vx x H1 L1 rx hx => ?_) e
  refine hb _ _ _ hx Hb G A σ H1 _ (R.le L1) (fun vy y H2 L2 ry hy => ?_) (fun cls dd x H' L => e cls dd x H' (L1.trans L))
  exact hr c _ _ _ hy Hb G A σ3 σ H2 vx vy Q ((R.le L1).le L2) (rx.mono L2.vis) ry (fun v d H3 L3 => k v d H3 ((L1.trans L2).trans L3))
theorem lift_un {r : V → Hp → VK → Prop} {r3 : T → (T → Prop) → Prop} (hr : RL1 K r r3) (ha : Lift K c W ta a) : Lift K c W (tUn r ta) (un3 r3 a) := by
  intro σ3 Q3 X h Hb G A σ H Q R k e
  refine ha _ _ _ h Hb G A σ H _ R (fun vx x H1 L1 rx hx => ?_) e
  exact hr c _ _ hx Hb G A σ3 σ H1 vx Q (R.le L1) rx (fun v d H3 L3 => k v d H3 (L1.trans L3))
theorem lift_nil : LiftA K c W tNil nil3 := by
  intro σ3 Q3 X h Hb G A σ H Q R k e
  exact k [] [] H (Le.refl R.inv) .nil h
theorem lift_cons {tr : TA} {r : A3} (ha : Lift K c W ta a) (hr : LiftA K c W tr r) : LiftA K c W (tCons ta tr) (cons3 a r) := by
  intro σ3 Q3 X h Hb G A σ H Q R k e
  refine ha _ _ _ h Hb G A σ H _ R (fun vx x H1 L1 rx hx => ?_) e
  refine hr _ _ _ hx Hb G A σ H1 _ (R.le L1) (fun vy y H2 L2 ry hy => ?_) (fun cls dd x H' L => e cls dd x H' (L1.trans L))
  exact k _ _ H2 (L1.trans L2) (.cons (rx.mono L2.vis) ry) hy
theorem lift_cb {r : List V → Hp → VK → Prop} {r3 : List T → (T → Prop) → Prop} {t : TA} {x : A3} (hr : RLn K r r3) (ha : LiftA K c W t x) : Lift K c W (tCB r t) (call3 r3 x) := by
  intro σ3 Q3 X h Hb G A σ H Q R k e
  refine ha _ _ _ h Hb G A σ H _ R (fun vx x H1 L1 rx hx => ?_) e
  exact hr c _ _ hx Hb G A σ3 σ H1 vx Q (R.le L1) rx (fun v d H3 L3 => k v d H3 (L1.trans L3))
/-- (a, b, ..), [a, b, ..] -/
def tup3 (x : A3) : E3 := fun σ Q X => x σ (fun xs => xs.length ≤ sizeLine ∧ Q (.tup xs)) X
def lst3 (x : A3) : E3 := fun σ Q X => x σ (fun xs => xs.length ≤ sizeLine ∧ Q (.lst xs)) X
theorem lift_tup {t : TA} {x : A3} (ha : LiftA K c W t x) : Lift K c W (tTup t) (tup3 x) := by
  intro σ3 Q3 X h Hb G A σ H Q R k e
  refine ha _ _ _ h Hb G A σ H _ R (fun vs xs H1 L1 rx hx => ?_) e
  refine ⟨by rw [rx.length]; exact hx.1, fun p hp => ?_⟩
  have L2 := (R.le L1).new (o := .tup vs) hp
  exact k _ _ _ (L1.trans L2) (.mkT (SqT.of ((R.le L1).newAt hp)) (rx.mono L2.vis)) hx.2
theorem lift_lst {t : TA} {x : A3} (ha : LiftA K c W t x) : Lift K c W (tLst t) (lst3 x) := by
  intro σ3 Q3 X h Hb G A σ H Q R k e
  refine ha _ _ _ h Hb G A σ H _ R (fun vs xs H1 L1 rx hx => ?_) e
  refine ⟨by rw [rx.length]; exact hx.1, fun p hp => ?_⟩
  have L2 := (R.le L1).new (o := .lst vs) hp
  exact k _ _ _ (L1.trans L2) (.mkL ((R.le L1).newAt hp) (rx.mono L2.vis)) hx.2
/-! ### tests -/
def tst3 (a : E3) : B3 := fun σ Q X => a σ (fun x => ob (asB x) Q) X
def and3 (a b : B3) : B3 := fun σ Q X => a σ (fun x => if x = true then b σ Q X else Q false) X
def or3 (a b : B3) : B3 := fun σ Q X => a σ (fun x => if x = true then Q true else b σ Q X) X
def not3 (a : B3) : B3 := fun σ Q X => a σ (fun x => Q (!x)) X
def andV3 (a b : E3) : E3 := fun σ Q X => a σ (fun x => ob (asB x) fun k => if k = true then b σ Q X else Q (.bl false)) X
def orV3 (a b : E3) : E3 := fun σ Q X => a σ (fun x => ob (asB x) fun k => if k = true then Q (.bl true) else b σ Q X) X
def notV3 (a : E3) : E3 := fun σ Q X => a σ (fun x => ob (asB x) fun k => Q (.bl (!k))) X
def if3 (t : B3) (a b : E3) : E3 := fun σ Q X => t σ (fun x => if x = true then a σ Q X else b σ Q X) X
theorem lift_tst (ha : Lift K c W ta a) : LiftT K c W (tTest ta) (tst3 a) := by
  intro σ3 Q3 X h Hb G A σ H Q R k e
  refine ha _ _ _ h Hb G A σ H _ R (fun vx x H1 L1 rx hx => ?_) e
  obtain ⟨b, eb, q⟩ := ob_iff.mp hx
  cases asB_is eb
  exact ⟨b, rx.blI, k b b H1 L1 rfl q⟩
theorem lift_tB (ha : Lift K c W ta a) : LiftT K c W (tB ta) (tst3 a) := lift_tst ha
theorem lift_and {t u : TT} {x y : B3} (ha : LiftT K c W t x) (hb : LiftT K c W u y) : LiftT K c W (tAnd t u) (and3 x y) := by
  intro σ3 Q3 X h Hb G A σ H Q R k e
  refine ha _ _ _ h Hb G A σ H _ R (fun vx x H1 L1 rx hx => ?_) e
  subst rx
  cases vx with
  | true => exact iteT (hb _ _ _ (by simpa using hx) Hb G A σ H1 _ (R.le L1) (fun v d H' L => k v d H' (L1.trans L)) (fun cls dd x H' L => e cls dd x H' (L1.trans L)))
  | false => exact iteF (k false false H1 L1 rfl (by simpa using hx))
theorem lift_or {t u : TT} {x y : B3} (ha : LiftT K c W t x) (hb : LiftT K c W u y) : LiftT K c W (tOr t u) (or3 x y) := by
  intro σ3 Q3 X h Hb G A σ H Q R k e
  refine ha _ _ _ h Hb G A σ H _ R (fun vx x H1 L1 rx hx => ?_) e
  subst rx
  cases vx with
  | false => exact iteF (hb _ _ _ (by simpa using hx) Hb G A σ H1 _ (R.le L1) (fun v d H' L => k v d H' (L1.trans L)) (fun cls dd x H' L => e cls dd x H' (L1.trans L)))
  | true => exact iteT (k true true H1 L1 rfl (by simpa using hx))
theorem lift_not {t : TT} {x : B3} (ha : LiftT K c W t x) : LiftT K c W (tNot t) (not3 x) := by
  intro σ3 Q3 X h Hb G A σ H Q R k e
  refine ha _ _ _ h Hb G A σ H _ R (fun vx x H1 L1 rx hx => ?_) e
  subst rx
  exact k _ _ H1 L1 rfl hx
theorem lift_andV (ha : Lift K c W ta a) (hb : Lift K c W tb b) : Lift K c W (tAndV ta tb) (andV3 a b) := by
  intro σ3 Q3 X h Hb G A σ H Q R k e
  refine ha _ _ _ h Hb G A σ H _ R (fun vx x H1 L1 rx hx => ?_) e
  obtain ⟨z, eb, hy⟩ := ob_iff.mp hx
  cases asB_is eb
  refine ⟨z, rx.blI, ?_⟩
  cases z with
  | true => exact iteT (hb _ _ _ (by simpa using hy) Hb G A σ H1 _ (R.le L1) (fun v d H' L => k v d H' (L1.trans L)) (fun cls dd x H' L => e cls dd x H' (L1.trans L)))
  | false => exact iteF (k _ _ H1 L1 (.bl false) (by simpa using hy))
theorem lift_orV (ha : Lift K c W ta a) (hb : Lift K c W tb b) : Lift K c W (tOrV ta tb) (orV3 a b) := by
  intro σ3 Q3 X h Hb G A σ H Q R k e
  refine ha _ _ _ h Hb G A σ H _ R (fun vx x H1 L1 rx hx => ?_) e
  obtain ⟨z, eb, hy⟩ := ob_iff.mp hx
  cases asB_is eb
  refine ⟨z, rx.blI, ?_⟩
  cases z with
  | false => exact iteF (hb _ _ _ (by simpa using hy) Hb G A σ H1 _ (R.le L1) (fun v d H' L => k v d H' (L1.trans L)) (fun cls dd x H' L => e cls dd x H' (L1.trans L)))
  | true => exact iteT (k _ _ H1 L1 (.bl true) (by simpa using hy))
theorem lift_notV (ha : Lift K c W ta a) : Lift K c W (tNotV ta) (notV3 a) := by
  intro σ3 Q3 X h Hb G A σ H Q R k e
  refine ha _ _ _ h Hb G A σ H _ R (fun vx x H1 L1 rx hx => ?_) e
  obtain ⟨z, eb, hy⟩ := ob_iff.mp hx
  cases asB_is eb
  exact ⟨z, rx.blI, k _ _ H1 L1 (.bl _) hy⟩
theorem lift_if {t : TT} {x : B3} (ht : LiftT K c W t x) (ha : Lift K c W ta a) (hb : Lift K c W tb b) : Lift K c W (tIf t ta tb) (if3 x a b) := by
  intro σ3 Q3 X h Hb G A σ H Q R k e
  refine ht _ _ _ h Hb G A σ H _ R (fun vx x H1 L1 rx hx => ?_) e
  subst rx
  cases vx with
  | true => exact iteT (ha _ _ _ (by simpa using hx) Hb G A σ H1 _ (R.le L1) (fun v d H' L => k v d H' (L1.trans L)) (fun cls dd x H' L => e cls dd x H' (L1.trans L)))
  | false => exact iteF (hb _ _ _ (by simpa using hx) Hb G A σ H1 _ (R.le L1) (fun v d H' L => k v d H' (L1.trans L)) (fun cls dd x H' L => e cls dd x H' (L1.trans L)))
/-- a comparison chain a < b < c -/
def chain3 (r r' : T → T → (T → Prop) → Prop) (a b d : E3) : E3 := fun σ Q X => a σ (fun x => b σ (fun y => r x y fun z => ob (asB z) fun k => if k = true then d σ (fun w => r' y w Q) X else Q (.bl false)) X) X
theorem lift_chain {r r' : R2} {q q' : T → T → (T → Prop) → Prop} {tc : TE} {d : E3} (hr : RL2 K r q) (hr' : RL2 K r' q') (ha : Lift K c W ta a) (hb : Lift K c W tb b) (hc : Lift K c W tc d) : Lift K c W (tChain r r' ta tb tc) (chain3 q q' a b d) := by
  intro σ3 Q3 X h Hb G A σ H Q R k e
  refine ha _ _ _ h Hb G A σ H _ R (fun vx x H1 L1 rx hx => ?_) e
  refine hb _ _ _ hx Hb G A σ H1 _ (R.le L1) (fun vy y H2 L2 ry hy => ?_) (fun cls dd x H' L => e cls dd x H' (L1.trans L))
  refine hr c _ _ _ hy Hb G A σ3 σ H2 vx vy _ ((R.le L1).le L2) (rx.mono L2.vis) ry (fun vz z H3 L3 rz hz => ?_)
  obtain ⟨j, eb, hz2⟩ := ob_iff.mp hz
  cases asB_is eb
  refine ⟨j, rz.blI, ?_⟩
  have L := (L1.trans L2).trans L3
  cases j with
  | false => exact iteF (k _ _ H3 L (.bl false) (by simpa using hz2))
  | true =>
    refine iteT ?_
    refine hc _ _ _ (show d σ3 _ X by simpa using hz2) Hb G A σ H3 _ (R.le L) (fun vw w H4 L4 rw' hw => ?_) (fun cls dd x H' L' => e cls dd x H' (L.trans L'))
    exact hr' c _ _ _ hw Hb G A σ3 σ H4 vy vw Q ((R.le L).le L4) (ry.mono (Same.trans L3.vis L4.vis)) rw' (fun v d H5 L5 => k v d H5 ((L.trans L4).trans L5))
end
/-! ### statements -/
structure N3 where
  nx : List Sl → Prop
  rt : T → Prop
  bk : List Sl → Prop := fun _ => False
  ct : List Sl → Prop := fun _ => False
  xn : List Sl → Xn → Prop := fun _ _ => False
abbrev S3 := N3 → List Sl → Prop
/-- what is left behind a return -/
structure Fin3 (K : PySem.W.Frag) (c : Cf) (Hb : Hp) (G : List Addr) (H : Hp) : Prop where
  inv : c.I H
  base : Same (hid (c.S0 ++ G) Hb) (hid (c.S0 ++ G) H)
  gk : ∀ a ∈ G, H a = Hb a
theorem R3.fin {K : PySem.W.Frag} {c : Cf} {Hb H : Hp} {G : List Addr} {A : List (Option Addr)} {σ3 : List Sl} {σ : St} (r : R3 K c Hb G A σ3 σ H) : Fin3 K c Hb G H :=
  ⟨r.inv, Same.trans r.base (hid_mono fun a h => by rcases List.mem_append.mp h with h | h; exact mem_S.mpr (.inl h); exact mem_S.mpr (.inr (.inl h))), fun a h => (r.gk a h).1⟩
theorem hid_fin {c : Cf} {H : Hp} {G : List Addr} {A : List (Option Addr)} : Same (hid (c.S G A) H) (hid (c.S0 ++ G) H) :=
  hid_mono fun a h => by rcases List.mem_append.mp h with h | h; exact mem_S.mpr (.inl h); exact mem_S.mpr (.inr (.inl h))
/-- the ends at trees lead to the ends at values -/
structure To (K : PySem.W.Frag) (c : Cf) (W : WX) (Hb : Hp) (G : List Addr) (N : N3) (D : Ends) : Prop where
  nx : ∀ A σ3 σ H, R3 K c Hb G A σ3 σ H → N.nx σ3 → D.nx σ H
  rt : ∀ v d H, Fin3 K c Hb G H → Rep K (hid (c.S0 ++ G) H) v d → N.rt d → D.rt v H
  bk : ∀ A σ3 σ H, R3 K c Hb G A σ3 σ H → N.bk σ3 → D.bk σ H
  ct : ∀ A σ3 σ H, R3 K c Hb G A σ3 σ H → N.ct σ3 → D.ct σ H
  xn : ∀ A σ3 σ H cls dd x, R3 K c Hb G A σ3 σ H → XRep K (hid (c.S G A) H) cls dd x → N.xn σ3 x → W cls dd σ H
def LiftS (K : PySem.W.Frag) (c : Cf) (W : WX) (ts : TS) (t : S3) : Prop :=
  ∀ N σ3, t N σ3 → ∀ Hb G A σ H (D : Ends), R3 K c Hb G A σ3 σ H → To K c W Hb G N D → ts D σ H
def next3 : S3 := fun N σ => N.nx σ
def seq3 (t u : S3) : S3 := fun N σ => t { N with nx := u N } σ
def brk3 : S3 := fun N σ => N.bk σ
def cont3 : S3 := fun N σ => N.ct σ
def drop3 (a : E3) : S3 := fun N σ => a σ (fun _ => N.nx σ) (N.xn σ)
def ret3 (a : E3) : S3 := fun N σ => a σ N.rt (N.xn σ)
def retN3 : S3 := fun N _ => N.rt .non
def ifs3 (c : B3) (t u : S3) : S3 := fun N σ => c σ (fun b => if b = true then t N σ else u N σ) (N.xn σ)
/-- a target -/
abbrev TG3 := T → List Sl → (List Sl → Prop) → Prop
def name3 (i : Nat) : TG3 := fun d σ Q => Q (σ.set i (.val d))
/-- only the slots vs were stored -/
def Sets (vs : List Nat) (A A' : List (Option Addr)) (σ σ' : St) : Prop := σ'.length = σ.length ∧ (∀ j : Nat, j ∉ vs → σ'[j]? = σ[j]? ∧ A'[j]? = A[j]?) ∧ ∀ a ∈ addrs A', a ∈ addrs A
theorem Sets.mono {vs ws : List Nat} {A A' : List (Option Addr)} {σ σ' : St} (h : Sets vs A A' σ σ') (s : ∀ j ∈ vs, j ∈ ws) : Sets ws A A' σ σ' := ⟨h.1, fun j hj => h.2.1 j fun z => hj (s j z), h.2.2⟩
theorem Sets.trans {vs : List Nat} {A A1 A2 : List (Option Addr)} {σ σ1 σ2 : St} (a : Sets vs A A1 σ σ1) (b : Sets vs A1 A2 σ1 σ2) : Sets vs A A2 σ σ2 :=
  ⟨b.1.trans a.1, fun j hj => ⟨(b.2.1 j hj).1.trans (a.2.1 j hj).1, (b.2.1 j hj).2.trans (a.2.1 j hj).2⟩, fun x z => a.2.2 x (b.2.2 x z)⟩
def LiftTg (K : PySem.W.Frag) (c : Cf) (vs : List Nat) (g : TG) (g3 : TG3) : Prop :=
  ∀ d σ3 Q3, g3 d σ3 Q3 → ∀ Hb G A σ H v Q, R3 K c Hb G A σ3 σ H → Rep K (hid (c.S G A) H) v d →
    (∀ A' σ3' σ' H', R3 K c Hb G A' σ3' σ' H' → H' = H → Sets vs A A' σ σ' → Q3 σ3' → Q σ' H') → g v σ H Q
def asg3 (a : E3) (g : TG3) : S3 := fun N σ => a σ (fun d => g d σ N.nx) (N.xn σ)
section
variable {K : PySem.W.Frag} {c : Cf} {W : WX} {ta tb te : TE} {a b e : E3} {t u : TS} {x y : S3}
theorem lift_next : LiftS K c W tNext next3 := fun N σ3 h Hb G A σ H D R Z => Z.nx _ _ _ _ R h
theorem lift_seq (h1 : LiftS K c W t x) (h2 : LiftS K c W u y) : LiftS K c W (tSeq t u) (seq3 x y) := by
  intro N σ3 h Hb G A σ H D R Z
  exact h1 _ _ h Hb G A σ H _ R ⟨fun A' σ3' σ' H' R' q => h2 _ _ q Hb G A' σ' H' D R' Z, Z.rt, Z.bk, Z.ct, Z.xn⟩
theorem lift_brk : LiftS K c W tBreak brk3 := fun N σ3 h Hb G A σ H D R Z => Z.bk _ _ _ _ R h
theorem lift_cont : LiftS K c W tCont cont3 := fun N σ3 h Hb G A σ H D R Z => Z.ct _ _ _ _ R h
theorem lift_drop (ha : Lift K c W ta a) : LiftS K c W (tDrop ta) (drop3 a) := by
  intro N σ3 h Hb G A σ H D R Z
  exact ha _ _ _ h Hb G A σ H _ R (fun v d H' L _ q => Z.nx _ _ _ _ (R.le L) q) (fun cls dd x H' L r q => Z.xn _ _ _ _ _ _ _ (R.le L) r q)
theorem lift_ret (ha : Lift K c W ta a) : LiftS K c W (tRet ta) (ret3 a) := by
  intro N σ3 h Hb G A σ H D R Z
  exact ha _ _ _ h Hb G A σ H _ R (fun v d H' L r q => Z.rt _ _ _ (R.le L).fin (r.mono hid_fin) q) (fun cls dd x H' L r q => Z.xn _ _ _ _ _ _ _ (R.le L) r q)
theorem lift_retN : LiftS K c W tRetN retN3 := by
  intro N σ3 h Hb G A σ H D R Z
  exact Z.rt _ _ _ R.fin .non h
theorem lift_ifs {k : TT} {z : B3} (hc : LiftT K c W k z) (h1 : LiftS K c W t x) (h2 : LiftS K c W u y) : LiftS K c W (tIfS k t u) (ifs3 z x y) := by
  intro N σ3 h Hb G A σ H D R Z
  refine hc _ _ _ h Hb G A σ H _ R (fun vx w H' L r q => ?_) (fun cls dd x H' L r q => Z.xn _ _ _ _ _ _ _ (R.le L) r q)
  subst r
  cases vx with
  | true => exact iteT (h1 _ _ (by simpa using q) Hb G A σ H' D (R.le L) Z)
  | false => exact iteF (h2 _ _ (by simpa using q) Hb G A σ H' D (R.le L) Z)
theorem lift_name (i : Nat) {vs : List Nat} (hi : i ∈ vs) : LiftTg K c vs (gName i) (name3 i) := by
  intro d σ3 Q3 h Hb G A σ H v Q R r k
  exact k _ _ _ _ (R.set i r) rfl ⟨by rw [List.length_set], fun j hj => by
    have : i ≠ j := fun z => by subst z; exact hj hi
    rw [List.getElem?_set_ne this, List.getElem?_set_ne this]; exact ⟨rfl, rfl⟩, addrs_set_sub⟩ h
theorem lift_asg {vs : List Nat} {g : TG} {g3 : TG3} (ha : Lift K c W ta a) (hg : LiftTg K c vs g g3) : LiftS K c W (tAsg ta g) (asg3 a g3) := by
  intro N σ3 h Hb G A σ H D R Z
  refine ha _ _ _ h Hb G A σ H _ R (fun v d H' L r q => ?_) (fun cls dd x H' L r q => Z.xn _ _ _ _ _ _ _ (R.le L) r q)
  exact hg _ _ _ q Hb G A σ H' v _ (R.le L) r (fun A' σ3' σ' H2 R' _ _ q' => Z.nx _ _ _ _ R' q')
end
/-! ### several targets -/
def gnil3 : List T → List Sl → (List Sl → Prop) → Prop := fun ds σ Q => match ds with | [] => Q σ | _ => False
def gcons3 (g : TG3) (r : List T → List Sl → (List Sl → Prop) → Prop) : List T → List Sl → (List Sl → Prop) → Prop := fun ds σ Q => match ds with | d :: l => g d σ fun σ' => r l σ' Q | [] => False
def gtup3 (n : Nat) (r : List T → List Sl → (List Sl → Prop) → Prop) : TG3 := fun d σ Q => ob (asT d) fun ds => ds.length = n ∧ r ds σ Q
def LiftTgs (K : PySem.W.Frag) (c : Cf) (ws : List Nat) (g : TGs) (g3 : List T → List Sl → (List Sl → Prop) → Prop) : Prop :=
  ∀ ds σ3 Q3, g3 ds σ3 Q3 → ∀ Hb G A σ H vs Q, R3 K c Hb G A σ3 σ H → RepL K (hid (c.S G A) H) vs ds →
    (∀ A' σ3' σ' H', R3 K c Hb G A' σ3' σ' H' → H' = H → Sets ws A A' σ σ' → Q3 σ3' → Q σ' H') → g vs σ H Q
section
variable {K : PySem.W.Frag} {c : Cf} {ws : List Nat}
theorem lift_gnil : LiftTgs K c ws gNil gnil3 := by
  intro ds σ3 Q3 h Hb G A σ H vs Q R r k
  cases r with
  | cons _ _ => exact h.elim
  | nil => exact ⟨rfl, k _ _ _ _ R rfl ⟨rfl, fun _ _ => ⟨rfl, rfl⟩, fun _ z => z⟩ h⟩
theorem lift_gcons {g : TG} {g3 : TG3} {u : TGs} {u3 : List T → List Sl → (List Sl → Prop) → Prop} (h1 : LiftTg K c ws g g3) (h2 : LiftTgs K c ws u u3) : LiftTgs K c ws (gCons g u) (gcons3 g3 u3) := by
  intro ds σ3 Q3 h Hb G A σ H vs Q R r k
  cases r with
  | nil => exact h.elim
  | cons r1 r2 =>
    refine ⟨_, _, rfl, h1 _ _ _ h Hb G A σ H _ _ R r1 (fun A' σ3' σ' H' R' e sub q => ?_)⟩
    subst e
    exact h2 _ _ _ q Hb G A' σ' H' _ _ R' (RepL.mono r2 (hid_mono (S_sub sub.2.2))) (fun A2 σ2 σ2' H2 R2 e2 sub2 q2 => k _ _ _ _ R2 e2 (sub.trans sub2) q2)
theorem lift_gtup {n : Nat} {u : TGs} {u3 : List T → List Sl → (List Sl → Prop) → Prop} (h : LiftTgs K c ws u u3) : LiftTg K c ws (gTup K n u) (gtup3 n u3) := by
  intro d σ3 Q3 hh Hb G A σ H v Q R r k
  obtain ⟨ds, ed, hl, hh1⟩ := ob_iff.mp hh
  cases asT_is ed
  obtain ⟨a, vs, rfl, hs, rl⟩ := r.tupI
  exact ⟨a, vs, rfl, Same.sqT hid_same hs, by rw [rl.length]; exact hl, h _ _ _ hh1 Hb G A σ H vs Q R rl k⟩
end
/-! ### a def's promise at trees -/
abbrev F3 := List T → (T → Prop) → X3 → Prop
/-- a def that changes nothing: S is what the caller hides -/
def sp3 (K : PySem.W.Frag) (n : Nat) (f : F3) : Sp := fun vs H Q E => ∃ S ds, ds.length = n ∧ RepL K (hid S H) vs ds ∧ (∀ a ∈ S, H a ≠ none) ∧ ∃ Q3 X, f ds Q3 X ∧
  (∀ v d H', Same (hid S H) (hid S H') → (∀ a ∈ S, H' a = H a) → Rep K (hid S H') v d → Q3 d → Q v H') ∧
  (∀ cls dd x H', Same (hid S H) (hid S H') → (∀ a ∈ S, H' a = H a) → XRep K (hid S H') cls dd x → X x → E cls dd H')
theorem sp3_len {K : PySem.W.Frag} {n : Nat} {f : F3} {ps : List Str} (h : ps.length = n) : ∀ vs H Q E, sp3 K n f vs H Q E → vs.length = ps.length := by
  intro vs H Q E h'
  obtain ⟨S, ds, hl, r, _⟩ := h'
  rw [r.length, hl, h]
/-- nothing is hidden for good -/
def cf0 : Cf := ⟨[], fun _ => True, fun _ _ _ h => h, fun _ _ a h => by cases h⟩
/-- the slots at the start -/
def start3 (n : Nat) (ds : List T) : List Sl := ds.map Sl.val ++ List.replicate (n - ds.length) Sl.no
theorem start_eq (N : List Str) (vs : List V) : start N vs = vs.map some ++ List.replicate (N.length - vs.length) none := rfl
theorem r3_start {K : PySem.W.Frag} {c : Cf} {H : Hp} {G : List Addr} {N : List Str} {vs : List V} {ds : List T} (hI : c.I H) (hG : ∀ a ∈ G, H a ≠ none ∧ a ∉ c.S0) (r : RepL K (hid (c.S0 ++ G) H) vs ds) :
    R3 K c H G (List.replicate ((start3 N.length ds).length) none) (start3 N.length ds) (start N vs) H := by
  have hA : addrs (List.replicate ((start3 N.length ds).length) none) = [] := by
    unfold addrs
    rw [List.filterMap_replicate_of_none rfl]
  have hS : c.S G (List.replicate ((start3 N.length ds).length) none) = c.S0 ++ G := by
    unfold Cf.S
    rw [hA, List.append_nil]
  have hl := r.length
  refine ⟨hI, by rw [hS]; exact Same.refl _, fun a h => ⟨rfl, hG a h⟩, by rw [hA]; exact List.nodup_nil, (by rw [hA]; intro a h; cases h), (by simp), (by rw [start_eq]; unfold start3; simp [hl]), ?_⟩
  rw [hS]
  intro i s o x h1 h2 h3
  have ho : o = none := by
    have := List.mem_of_getElem? h2
    exact (List.mem_replicate.mp this).2
  subst ho
  unfold start3 at h1
  rw [start_eq] at h3
  by_cases hi : i < ds.length
  · rw [List.getElem?_append_left (by simpa using hi), List.getElem?_map] at h1
    rw [List.getElem?_append_left (by rw [List.length_map, hl]; exact hi), List.getElem?_map] at h3
    cases e1 : ds[i]? with
    | none => rw [e1] at h1; cases h1
    | some d =>
      rw [e1] at h1
      cases h1
      obtain ⟨v, e2, rv⟩ := r.get e1
      rw [e2] at h3
      cases h3
      exact ⟨rfl, v, rfl, rv⟩
  · rw [List.getElem?_append_right (by simpa using hi)] at h1
    have := List.mem_of_getElem? h1
    have hs := (List.mem_replicate.mp this).2
    subst hs
    rfl
/-- the body of such a def, at trees -/
theorem body3 {K : PySem.W.Frag} {n : Nat} {f : F3} {N : List Str} {t : TS} {x : S3} {W : WX} {vs : List V} {H : Hp} {Q : VK} {E : XK} (h : sp3 K n f vs H Q E) (hW : ∀ cls dd σ H', E cls dd H' → W cls dd σ H')
    (lt : LiftS K cf0 W t x) (hb : ∀ ds Q3 X, ds.length = n → f ds Q3 X → x { nx := fun _ => Q3 .non, rt := Q3, xn := fun _ => X } (start3 N.length ds)) : t { nx := fun _ H' => Q .non H', rt := Q } (start N vs) H := by
  obtain ⟨S, ds, hl, r, hS, Q3, X, hf, hq, hx⟩ := h
  refine lt _ _ (hb ds Q3 X hl hf) H S _ _ H _ (r3_start (c := cf0) (N := N) trivial (fun a h => ⟨hS a h, fun z => by cases z⟩) r) ⟨?_, ?_, fun _ _ _ _ _ z => z.elim, fun _ _ _ _ _ z => z.elim, ?_⟩
  · intro A σ3 σ H' R q
    exact hq _ _ _ R.fin.base (fun a h => R.fin.gk a h) .non q
  · intro v d H' F rv q
    exact hq _ _ _ F.base (fun a h => F.gk a h) rv q
  · intro A σ3 σ H' cls dd xn R rx q
    refine hW _ _ _ _ (hx cls dd xn H' R.fin.base (fun a h => R.fin.gk a h) ?_ q)
    obtain ⟨e, rx⟩ := rx
    refine ⟨e, ?_⟩
    cases dd with
    | none => exact rx
    | some d =>
      obtain ⟨fs, h1, h2, h3⟩ := rx
      exact ⟨fs, hid_fin _ _ h1, h2, h3.mono hid_fin⟩
/-- the call of such a def: nothing that is hidden changes -/
theorem sp3_call {K : PySem.W.Frag} {c : Cf} {n : Nat} {f : F3} {Hb H1 : Hp} {G : List Addr} {A : List (Option Addr)} {σ3 : List Sl} {σ : St} {vs : List V} {ds : List T} {Q : VK} {E : XK} {Q3 : T → Prop} {X : X3} (R1 : R3 K c Hb G A σ3 σ H1)
    (rx : RepL K (hid (c.S G A) H1) vs ds) (hl : ds.length = n) (hf : f ds Q3 X) (k : ∀ v d H', Le c G A H1 H' → Rep K (hid (c.S G A) H') v d → Q3 d → Q v H') (e : ∀ cls dd x H', Le c G A H1 H' → XRep K (hid (c.S G A) H') cls dd x → X x → E cls dd H') : sp3 K n f vs H1 Q E := by
  have le : ∀ H', Same (hid (c.S G A) H1) (hid (c.S G A) H') → (∀ a ∈ c.S G A, H' a = H1 a) → Le c G A H1 H' := fun H' s1 s2 =>
    ⟨s1, fun a ha => s2 a (mem_S.mpr (by rcases List.mem_append.mp ha with z | z; exact .inr (.inl z); exact .inr (.inr z))), c.st H1 H' (fun a ha => s2 a (mem_S.mpr (.inl ha))) R1.inv⟩
  exact ⟨c.S G A, ds, hl, rx, fun a h => R1.there h, Q3, X, hf, fun v d H' s1 s2 rv q => k v d H' (le H' s1 s2) rv q, fun cls dd xn H' s1 s2 rv q => e cls dd xn H' (le H' s1 s2) rv q⟩
def fn3 (n : Nat) (f : F3) (x : A3) (dvs : List T) : E3 := fun σ Q X => x σ (fun ds => (ds ++ dvs).length = n ∧ f (ds ++ dvs) Q X) X
/-- f(e, ..): f raises nothing here -/
def fn30 (n : Nat) (f : F3) (x : A3) (dvs : List T) : E3 := fun σ Q X => x σ (fun ds => (ds ++ dvs).length = n ∧ f (ds ++ dvs) Q (fun _ => False)) X
theorem lift_call0 {K : PySem.W.Frag} {c : Cf} {n : Nat} {f : F3} {W : WX} {E : XK} {t : TA} {x : A3} {dvs : List V} {dts : List T} (ha : LiftA K c W t x) (hd : ∀ H, RepL K H dvs dts) :
    Lift K c W (tCall (sp3 K n f) dvs E t) (fn30 n f x dts) := by
  intro σ3 Q3 X h Hb G A σ H Q R k e
  refine ha _ _ _ h Hb G A σ H _ R (fun vs ds H1 L1 rx hx => ?_) e
  exact sp3_call (R.le L1) (rx.append (hd _)) hx.1 hx.2 (fun v d H' L r q => k v d H' (L1.trans L) r q) (fun cls dd x H' L r q => q.elim)
theorem lift_call {K : PySem.W.Frag} {c : Cf} {n : Nat} {f : F3} {W : WX} {E : XK} {t : TA} {x : A3} {dvs : List V} {dts : List T} (hE : ∀ cls dd σ H, W cls dd σ H → E cls dd H) (ha : LiftA K c W t x) (hd : ∀ H, RepL K H dvs dts) :
    Lift K c W (tCall (sp3 K n f) dvs E t) (fn3 n f x dts) := by
  intro σ3 Q3 X h Hb G A σ H Q R k e
  refine ha _ _ _ h Hb G A σ H _ R (fun vs ds H1 L1 rx hx => ?_) e
  exact sp3_call (R.le L1) (rx.append (hd _)) hx.1 hx.2 (fun v d H' L r q => k v d H' (L1.trans L) r q) (fun cls dd x H' L r q => hE _ _ σ _ (e cls dd x H' (L1.trans L) r q))
/-- the same, as a plain reading -/
theorem call_sp3 {K : PySem.W.Frag} {c : Cf} {n : Nat} {f : F3} {W : WX} {E : XK} {t : TA} {x : A3} (ha : LiftA K c W t x) :
    Lift K c W (fun σ H Q => t σ H fun vs H1 => sp3 K n f vs H1 Q (fun cls dd H' => W cls dd σ H')) (fun σ Q X => x σ (fun ds => ds.length = n ∧ f ds Q X) X) := by
  intro σ3 Q3 X h Hb G A σ H Q R k e
  refine ha _ _ _ h Hb G A σ H _ R (fun vs ds H1 L1 rx hx => ?_) e
  have R1 := R.le L1
  have le : ∀ H', Same (hid (c.S G A) H1) (hid (c.S G A) H') → (∀ a ∈ c.S G A, H' a = H1 a) → Le c G A H1 H' := fun H' s1 s2 =>
    ⟨s1, fun a ha => s2 a (mem_S.mpr (by rcases List.mem_append.mp ha with z | z; exact .inr (.inl z); exact .inr (.inr z))), c.st H1 H' (fun a ha => s2 a (mem_S.mpr (.inl ha))) R1.inv⟩
  refine ⟨c.S G A, ds, hx.1, rx, fun a h => R1.there h, Q3, X, hx.2, fun v d H' s1 s2 rv q => k v d H' (L1.trans (le H' s1 s2)) rv q, fun cls dd xn H' s1 s2 rv q => e cls dd xn H' (L1.trans (le H' s1 s2)) rv q⟩
end M3

/-! L3C: operations on trees; loops and comprehensions. -/
namespace M3
open PySem L2
/-! ### ints -/
def i2 (g : Int → Int → T) : T → T → (T → Prop) → Prop := fun x y Q => ob (asI x) fun i => ob (asI y) fun j => Q (g i j)
def i2c (C : Int → Int → Prop) (g : Int → Int → T) : T → T → (T → Prop) → Prop := fun x y Q => ob (asI x) fun i => ob (asI y) fun j => C i j ∧ Q (g i j)
def i1 (g : Int → T) : T → (T → Prop) → Prop := fun x Q => ob (asI x) fun i => Q (g i)
section
variable {K : PySem.W.Frag}
theorem rl_I0 {g : Int → Int → V} {g3 : Int → Int → T} (h : ∀ i j H, Rep K H (g i j) (g3 i j)) : RL2 K (rI0 g) (i2 g3) := by
  intro c x y Q3 hh Hb G A σ3 σ H vx vy Q R rx ry k
  obtain ⟨i, ei, hh1⟩ := ob_iff.mp hh
  obtain ⟨j, ej, q⟩ := ob_iff.mp hh1
  cases asI_is ei
  cases asI_is ej
  exact ⟨i, j, rx.intI, ry.intI, k _ _ H (Le.refl R.inv) (h i j _) q⟩
theorem rl_I {C : Int → Int → Prop} {g : Int → Int → V} {g3 : Int → Int → T} (h : ∀ i j H, Rep K H (g i j) (g3 i j)) : RL2 K (rI C g) (i2c C g3) := by
  intro c x y Q3 hh Hb G A σ3 σ H vx vy Q R rx ry k
  obtain ⟨i, ei, hh1⟩ := ob_iff.mp hh
  obtain ⟨j, ej, hc, q⟩ := ob_iff.mp hh1
  cases asI_is ei
  cases asI_is ej
  exact ⟨i, j, rx.intI, ry.intI, hc, k _ _ H (Le.refl R.inv) (h i j _) q⟩
theorem rl_U {g : Int → V} {g3 : Int → T} (h : ∀ i H, Rep K H (g i) (g3 i)) : RL1 K (rU g) (i1 g3) := by
  intro c x Q3 hh Hb G A σ3 σ H vx Q R rx k
  obtain ⟨i, ei, q⟩ := ob_iff.mp hh
  cases asI_is ei
  exact ⟨i, rx.intI, k _ _ H (Le.refl R.inv) (h i _) q⟩
abbrev add3 := i2 fun i j => .int (i + j)
abbrev sub3 := i2 fun i j => .int (i - j)
abbrev mul3 := i2c CMul fun i j => .int (i * j)
abbrev mulW3 := i2c CMulW fun i j => .int (i * j)
abbrev fdivW3 := i2c CDivW fun i j => .int (i / j)
abbrev fdiv3 := i2c CDiv fun i j => .int (i / j)
abbrev mod3 := i2c (fun _ j => 0 < j) fun i j => .int (i % j)
abbrev pow3 := i2c CPow fun i j => .int (i ^ j.toNat)
abbrev lt3 := i2 fun i j => .bl (decide (i < j))
abbrev le3 := i2 fun i j => .bl (decide (i ≤ j))
abbrev gt3 := i2 fun i j => .bl (decide (j < i))
abbrev ge3 := i2 fun i j => .bl (decide (j ≤ i))
abbrev neg3 := i1 fun i => .int (-i)
theorem rl_add : RL2 K (rI0 fun i j => .int (i + j)) add3 := rl_I0 fun _ _ _ => .int _
theorem rl_sub : RL2 K (rI0 fun i j => .int (i - j)) sub3 := rl_I0 fun _ _ _ => .int _
theorem rl_mul : RL2 K (rI CMul fun i j => .int (i * j)) mul3 := rl_I fun _ _ _ => .int _
theorem rl_mulW : RL2 K (rI CMulW fun i j => .int (i * j)) mulW3 := rl_I fun _ _ _ => .int _
theorem rl_fdivW : RL2 K (rI CDivW fun i j => .int (i / j)) fdivW3 := rl_I fun _ _ _ => .int _
theorem rl_fdiv : RL2 K (rI CDiv fun i j => .int (i / j)) fdiv3 := rl_I fun _ _ _ => .int _
theorem rl_mod : RL2 K (rI (fun _ j => 0 < j) fun i j => .int (i % j)) mod3 := rl_I fun _ _ _ => .int _
theorem rl_pow : RL2 K (rI CPow fun i j => .int (i ^ j.toNat)) pow3 := rl_I fun _ _ _ => .int _
theorem rl_lt : RL2 K (rI0 fun i j => .bl (decide (i < j))) lt3 := rl_I0 fun _ _ _ => .bl _
theorem rl_le : RL2 K (rI0 fun i j => .bl (decide (i ≤ j))) le3 := rl_I0 fun _ _ _ => .bl _
theorem rl_gt : RL2 K (rI0 fun i j => .bl (decide (j < i))) gt3 := rl_I0 fun _ _ _ => .bl _
theorem rl_ge : RL2 K (rI0 fun i j => .bl (decide (j ≤ i))) ge3 := rl_I0 fun _ _ _ => .bl _
theorem rl_neg : RL1 K (rU fun i => .int (-i)) neg3 := rl_U fun _ _ => .int _
/-! ### is None; == of scalars -/
def isNon : T → Bool
  | .non => true
  | _ => false
def isN3 : T → T → (T → Prop) → Prop := fun x y Q => ob (asN y) fun _ => Q (.bl (isNon x))
def notN3 : T → T → (T → Prop) → Prop := fun x y Q => ob (asN y) fun _ => Q (.bl (!isNon x))
theorem Rep.isNon {H : Hp} {v : V} {t : T} (r : Rep K H v t) : decide (v = .non) = M3.isNon t := by cases r <;> rfl
theorem rl_isN : RL2 K (fun x y H Q => y = .non ∧ Q (.bl (decide (x = .non))) H) isN3 := by
  intro c x y Q3 hh Hb G A σ3 σ H vx vy Q R rx ry k
  obtain ⟨_, en, q⟩ := ob_iff.mp hh
  cases asN_is en
  exact ⟨ry.nonI, by rw [rx.isNon]; exact k _ _ H (Le.refl R.inv) (.bl _) q⟩
theorem rl_notN : RL2 K (fun x y H Q => y = .non ∧ Q (.bl (!decide (x = .non))) H) notN3 := by
  intro c x y Q3 hh Hb G A σ3 σ H vx vy Q R rx ry k
  obtain ⟨_, en, q⟩ := ob_iff.mp hh
  cases asN_is en
  exact ⟨ry.nonI, by rw [rx.isNon]; exact k _ _ H (Le.refl R.inv) (.bl _) q⟩
/-- the scalars: told apart by == as data -/
def flatT : T → Option V
  | .non => some .non
  | .bl b => some (.bl b)
  | .int i => some (.int i)
  | .str x => some (.str x)
  | _ => none
theorem Rep.flat {H : Hp} {v w : V} {t : T} (r : Rep K H v t) (h : flatT t = some w) : v = w := by cases r <;> cases h <;> rfl
def eqS3 : T → T → (T → Prop) → Prop := fun x y Q => ob (flatT x) fun v => ob (flatT y) fun w => scal v w = true ∧ Q (.bl (decide (v = w)))
def neS3 : T → T → (T → Prop) → Prop := fun x y Q => ob (flatT x) fun v => ob (flatT y) fun w => scal v w = true ∧ Q (.bl (!decide (v = w)))
theorem rl_eqS : RL2 K rEq eqS3 := by
  intro c x y Q3 hh Hb G A σ3 σ H vx vy Q R rx ry k
  obtain ⟨v, h1, hh1⟩ := ob_iff.mp hh
  obtain ⟨w, h2, h3, q⟩ := ob_iff.mp hh1
  rw [rx.flat h1, ry.flat h2]
  exact ⟨h3, k _ _ H (Le.refl R.inv) (.bl _) q⟩
theorem rl_neS : RL2 K rNe neS3 := by
  intro c x y Q3 hh Hb G A σ3 σ H vx vy Q R rx ry k
  obtain ⟨v, h1, hh1⟩ := ob_iff.mp hh
  obtain ⟨w, h2, h3, q⟩ := ob_iff.mp hh1
  rw [rx.flat h1, ry.flat h2]
  exact ⟨h3, k _ _ H (Le.refl R.inv) (.bl _) q⟩
/-! ### is True, is False: of bools -/
/-! ### sequences -/
def items : T → Option (List T)
  | .lst xs => some xs
  | .tup xs => some xs
  | _ => none
def ixL3 : T → T → (T → Prop) → Prop := fun x y Q => ob (asL x) fun xs => ob (asI y) fun i => ob (atI xs i) Q
def ixT3 : T → T → (T → Prop) → Prop := fun x y Q => ob (asT x) fun xs => ob (asI y) fun i => ob (atI xs i) Q
theorem RepL.atI {H : Hp} {vs : List V} {ts : List T} {i : Int} {t : T} (r : RepL K H vs ts) (h : L2.atI ts i = some t) : ∃ v, L2.atI vs i = some v ∧ Rep K H v t := by
  unfold L2.atI at h ⊢
  rw [r.length]
  cases e : ixN ts.length i with
  | none => rw [e] at h; cases h
  | some j =>
    rw [e] at h
    exact r.get h
theorem rl_ixL : RL2 K (rIxL K) ixL3 := by
  intro c x y Q3 hh Hb G A σ3 σ H vx vy Q R rx ry k
  obtain ⟨xs, ex, hh1⟩ := ob_iff.mp hh
  obtain ⟨i, ei, hh2⟩ := ob_iff.mp hh1
  obtain ⟨t, h, q⟩ := ob_iff.mp hh2
  cases asL_is ex
  cases asI_is ei
  obtain ⟨a, vs, rfl, ha, rl⟩ := rx.lstI
  obtain ⟨v, h1, h2⟩ := rl.atI h
  exact ⟨a, vs, i, v, rfl, ry.intI, SqL.of (hid_same _ _ ha), h1, k _ _ H (Le.refl R.inv) h2 q⟩
theorem rl_ixT : RL2 K (rIxT K) ixT3 := by
  intro c x y Q3 hh Hb G A σ3 σ H vx vy Q R rx ry k
  obtain ⟨xs, ex, hh1⟩ := ob_iff.mp hh
  obtain ⟨i, ei, hh2⟩ := ob_iff.mp hh1
  obtain ⟨t, h, q⟩ := ob_iff.mp hh2
  cases asT_is ex
  cases asI_is ei
  obtain ⟨a, vs, rfl, ha, rl⟩ := rx.tupI
  obtain ⟨v, h1, h2⟩ := rl.atI h
  exact ⟨a, vs, i, v, rfl, ry.intI, Same.sqT hid_same ha, h1, k _ _ H (Le.refl R.inv) h2 q⟩
def ixS3 : T → T → (T → Prop) → Prop := fun x y Q => ob (asS x) fun z => ob (asI y) fun i => z.length ≤ sizeLine ∧ ob (atI z.cps.toList i) fun c => Q (.str ⟨#[c]⟩)
theorem rl_ixS : RL2 K rIxS ixS3 := by
  intro c x y Q3 hh Hb G A σ3 σ H vx vy Q R rx ry k
  obtain ⟨z, ez, hh1⟩ := ob_iff.mp hh
  obtain ⟨i, ei, h, hh2⟩ := ob_iff.mp hh1
  obtain ⟨t, h1, q⟩ := ob_iff.mp hh2
  cases asS_is ez
  cases asI_is ei
  exact ⟨z, i, t, rx.strI, ry.intI, h, h1, k _ _ H (Le.refl R.inv) (.str _) q⟩
theorem RL2.or {r r' : R2} {q q' : T → T → (T → Prop) → Prop} (h : RL2 K r q) (h' : RL2 K r' q') : RL2 K (fun x y H Q => r x y H Q ∨ r' x y H Q) (fun x y Q => q x y Q ∨ q' x y Q) := by
  intro c x y Q3 hh Hb G A σ3 σ H vx vy Q R rx ry k
  rcases hh with hh | hh
  · exact .inl (h c x y Q3 hh Hb G A σ3 σ H vx vy Q R rx ry k)
  · exact .inr (h' c x y Q3 hh Hb G A σ3 σ H vx vy Q R rx ry k)
theorem RLn.or {r r' : List V → Hp → VK → Prop} {q q' : List T → (T → Prop) → Prop} (h : RLn K r q) (h' : RLn K r' q') : RLn K (fun x H Q => r x H Q ∨ r' x H Q) (fun x Q => q x Q ∨ q' x Q) := by
  intro c x Q3 hh Hb G A σ3 σ H vx Q R rx k
  rcases hh with hh | hh
  · exact .inl (h c x Q3 hh Hb G A σ3 σ H vx Q R rx k)
  · exact .inr (h' c x Q3 hh Hb G A σ3 σ H vx Q R rx k)
/-- len of a list, a tuple, a text -/
def lenT : T → Option Nat
  | .lst xs => some xs.length
  | .tup xs => some xs.length
  | .str z => if z.length ≤ sizeLine then some z.length else none
  | _ => none
def len3 : List T → (T → Prop) → Prop := fun xs Q => ob (one xs) fun x => ob (lenT x) fun n => Q (.int n)
theorem repL_one {H : Hp} {vs : List V} {t : T} (r : RepL K H vs [t]) : ∃ v, vs = [v] ∧ Rep K H v t := by
  cases r with
  | cons r q => cases q; exact ⟨_, rfl, r⟩
theorem repL_two {H : Hp} {vs : List V} {t u : T} (r : RepL K H vs [t, u]) : ∃ v w, vs = [v, w] ∧ Rep K H v t ∧ Rep K H w u := by
  cases r with
  | cons r q =>
    obtain ⟨w, rfl, h⟩ := repL_one q
    exact ⟨_, w, rfl, r, h⟩
theorem rl_len : RLn K (fun xs H Q => ∃ x n, xs = [x] ∧ LenV K x H n ∧ Q (.int n) H) len3 := by
  intro c xs Q3 hh Hb G A σ3 σ H vs Q R rx k
  obtain ⟨x, ex, hh1⟩ := ob_iff.mp hh
  obtain ⟨n, hn, q⟩ := ob_iff.mp hh1
  cases one_is ex
  obtain ⟨v, rfl, r⟩ := repL_one rx
  refine ⟨v, n, rfl, ?_, k _ _ H (Le.refl R.inv) (.int _) q⟩
  cases x with
  | lst xs =>
    cases hn
    obtain ⟨a, vs, rfl, ha, rl⟩ := r.lstI
    exact .inl ⟨vs, SqL.of (hid_same _ _ ha), by rw [rl.length]⟩
  | tup xs =>
    cases hn
    obtain ⟨a, vs, rfl, ha, rl⟩ := r.tupI
    exact .inr ⟨vs, Same.sqT hid_same ha, by rw [rl.length]⟩
  | str z =>
    cases r.strI
    replace hn : (if z.length ≤ sizeLine then some z.length else none) = some n := hn
    by_cases hz : z.length ≤ sizeLine
    · rw [if_pos hz] at hn; cases hn; exact ⟨hz, rfl⟩
    · rw [if_neg hz] at hn; cases hn
  | _ => cases hn
/-- all(xs) of a list of bools -/
def bls : List T → Option (List Bool)
  | [] => some []
  | .bl b :: r => (bls r).map (b :: ·)
  | _ => none
theorem bls_map : ∀ bs : List Bool, bls (bs.map T.bl) = some bs
  | [] => rfl
  | b :: bs => by show (bls (bs.map T.bl)).map (b :: ·) = _; rw [bls_map bs]; rfl
theorem RepL.bls {H : Hp} : ∀ {vs : List V} {ts : List T} {bs : List Bool}, RepL K H vs ts → M3.bls ts = some bs → vs = bs.map V.bl
  | _, [], bs, .nil, h => by cases h; rfl
  | _, t :: ts, bs, .cons r q, h => by
    cases t with
    | bl b =>
      cases e : M3.bls ts with
      | none =>
        have : (M3.bls ts).map (b :: ·) = some bs := h
        rw [e] at this; cases this
      | some l =>
        have h' : (M3.bls ts).map (b :: ·) = some bs := h
        rw [e] at h'
        cases h'
        rw [r.blI, RepL.bls q e, List.map_cons]
    | _ => cases h
def all3 : List T → (T → Prop) → Prop := fun xs Q => ob (one xs) fun x => ob (asL x) fun ts => ob (bls ts) fun bs => Q (.bl (bs.all id))
def any3 : List T → (T → Prop) → Prop := fun xs Q => ob (one xs) fun x => ob (asL x) fun ts => ob (bls ts) fun bs => Q (.bl (bs.any id))
theorem rl_all : RLn K (rAll K) all3 := by
  intro c xs Q3 hh Hb G A σ3 σ H vs Q R rx k
  obtain ⟨x, ex, hh1⟩ := ob_iff.mp hh
  obtain ⟨ts, et, hh2⟩ := ob_iff.mp hh1
  obtain ⟨bs, hn, q⟩ := ob_iff.mp hh2
  cases one_is ex
  cases asL_is et
  obtain ⟨v, rfl, r⟩ := repL_one rx
  obtain ⟨a, vs, rfl, ha, rl⟩ := r.lstI
  refine ⟨a, bs, rfl, ?_, k _ _ H (Le.refl R.inv) (.bl _) q⟩
  rw [← rl.bls hn]
  exact SqL.of (hid_same _ _ ha)
theorem rl_any : RLn K (rAny K) any3 := by
  intro c xs Q3 hh Hb G A σ3 σ H vs Q R rx k
  obtain ⟨x, ex, hh1⟩ := ob_iff.mp hh
  obtain ⟨ts, et, hh2⟩ := ob_iff.mp hh1
  obtain ⟨bs, hn, q⟩ := ob_iff.mp hh2
  cases one_is ex
  cases asL_is et
  obtain ⟨v, rfl, r⟩ := repL_one rx
  obtain ⟨a, vs, rfl, ha, rl⟩ := r.lstI
  refine ⟨a, bs, rfl, ?_, k _ _ H (Le.refl R.inv) (.bl _) q⟩
  rw [← rl.bls hn]
  exact SqL.of (hid_same _ _ ha)
/-! ### abs, max, min of two ints; int(bool) -/
def abs3 : List T → (T → Prop) → Prop := fun xs Q => ob (one xs) fun x => ob (asI x) fun i => Q (.int (if i < 0 then -i else i))
theorem rl_abs : RLn K (fun xs H Q => ∃ i, xs = [.int i] ∧ Q (.int (if i < 0 then -i else i)) H) abs3 := by
  intro c xs Q3 hh Hb G A σ3 σ H vs Q R rx k
  obtain ⟨x, ex, hh1⟩ := ob_iff.mp hh
  obtain ⟨i, ei, q⟩ := ob_iff.mp hh1
  cases one_is ex
  cases asI_is ei
  obtain ⟨v, rfl, r⟩ := repL_one rx
  cases r.intI
  exact ⟨i, rfl, k _ _ H (Le.refl R.inv) (.int _) q⟩
def max23 : List T → (T → Prop) → Prop := fun xs Q => ob (two xs) fun p => ob (asI p.1) fun i => ob (asI p.2) fun j => Q (.int (if j > i then j else i))
def min23 : List T → (T → Prop) → Prop := fun xs Q => ob (two xs) fun p => ob (asI p.1) fun i => ob (asI p.2) fun j => Q (.int (if j < i then j else i))
theorem rl_max2 : RLn K (fun xs H Q => ∃ i j, xs = [.int i, .int j] ∧ Q (.int (if j > i then j else i)) H) max23 := by
  intro c xs Q3 hh Hb G A σ3 σ H vs Q R rx k
  obtain ⟨⟨x, y⟩, ex, hh1⟩ := ob_iff.mp hh
  obtain ⟨i, ei, hh2⟩ := ob_iff.mp hh1
  obtain ⟨j, ej, q⟩ := ob_iff.mp hh2
  cases two_is ex
  cases asI_is ei
  cases asI_is ej
  obtain ⟨v, w, rfl, r, s⟩ := repL_two rx
  cases r.intI
  cases s.intI
  exact ⟨i, j, rfl, k _ _ H (Le.refl R.inv) (.int _) q⟩
theorem rl_min2 : RLn K (fun xs H Q => ∃ i j, xs = [.int i, .int j] ∧ Q (.int (if j < i then j else i)) H) min23 := by
  intro c xs Q3 hh Hb G A σ3 σ H vs Q R rx k
  obtain ⟨⟨x, y⟩, ex, hh1⟩ := ob_iff.mp hh
  obtain ⟨i, ei, hh2⟩ := ob_iff.mp hh1
  obtain ⟨j, ej, q⟩ := ob_iff.mp hh2
  cases two_is ex
  cases asI_is ei
  cases asI_is ej
  obtain ⟨v, w, rfl, r, s⟩ := repL_two rx
  cases r.intI
  cases s.intI
  exact ⟨i, j, rfl, k _ _ H (Le.refl R.inv) (.int _) q⟩
/-! ### isinstance with a built-in class -/
def tyn : T → Option String
  | .non => some "NoneType"
  | .bl _ => some "bool"
  | .int _ => some "int"
  | .str _ => some "str"
  | .tup _ => some "tuple"
  | .lst _ => some "list"
  | .dic _ => some "dict"
  | _ => none
theorem sqT_ty {H : Hp} {a : Addr} {vs : List V} (h : SqT K H a vs) : TyX K H (.ref a) (.type "tuple") := by
  rcases h with (h | ⟨o, h⟩) | ⟨o, its, n, h1, h2, _⟩
  · exact .base (.tup h)
  · exact .fTuple h
  · exact .kTuple h1 h2
theorem Rep.ty_ {H : Hp} {v : V} {t : T} {n : String} (r : Rep K H v t) (h : tyn t = some n) : TyX K H v (.type n) := by
  cases r with
  | non => cases h; exact .base .non
  | bl b => cases h; exact .base (.bl b)
  | int i => cases h; exact .base (.int i)
  | str x => cases h; exact .base (.str x)
  | ty n => cases h
  | ref a => cases h
  | tup h' => cases h; exact sqT_ty h'
  | lst h' => cases h; exact .base (.lst h')
  | dic h' =>
    cases h
    rcases h' with h' | ⟨o, h'⟩
    · exact .base (.dK h')
    · exact .fDict h'
  | ins h' => cases h
def isiB (x c : T) : Option Bool := match c with | .ty n => (tyn x).bind fun a => kitB a n | _ => none
def isi3 : List T → (T → Prop) → Prop := fun xs Q => ob (two xs) fun p => ob (isiB p.1 p.2) fun b => Q (.bl b)
theorem TyX.mono {H H' : Hp} {v : V} {t : Value} (e : Same H H') (h : TyX K H v t) : TyX K H' v t := by
  cases h with
  | base h =>
    refine .base ?_
    cases h with
    | non => exact .non
    | bl b => exact .bl b
    | int i => exact .int i
    | str x => exact .str x
    | flt x => exact .flt x
    | lst h => exact .lst (e _ _ h)
    | frz h => exact .frz (e _ _ h)
    | tup h => exact .tup (e _ _ h)
    | dK h => exact .dK (e _ _ h)
    | dT h => exact .dT (e _ _ h)
    | ins h cl ha hn ht hm => exact .ins (e _ _ h) cl ha hn ht hm
  | byt b => exact .byt b
  | set h => exact .set (e _ _ h)
  | kList h c => exact .kList h c
  | kTuple h c => exact .kTuple h c
  | kDict h c => exact .kDict h c
  | fTuple h => exact .fTuple (e _ _ h)
  | fDict h => exact .fDict (e _ _ h)
theorem rl_isi : RLn K (rIsi K) isi3 := by
  intro c xs Q3 hh Hb G A σ3 σ H vs Q R rx k
  obtain ⟨⟨x, y⟩, ex, hh1⟩ := ob_iff.mp hh
  obtain ⟨b, hb, q⟩ := ob_iff.mp hh1
  cases two_is ex
  obtain ⟨n, a, rfl, h1, h2⟩ : ∃ n a, y = .ty n ∧ tyn x = some a ∧ kitB a n = some b := by
    cases y with
    | ty n =>
      cases e : tyn x with
      | none =>
        have hb : (tyn x).bind (fun a => kitB a n) = some b := hb
        rw [e] at hb
        cases hb
      | some a =>
        have hb : (tyn x).bind (fun a => kitB a n) = some b := hb
        rw [e] at hb
        exact ⟨n, a, rfl, rfl, hb⟩
    | _ => cases hb
  obtain ⟨v, w, rfl, r, s⟩ := repL_two rx
  cases s.tyI
  exact ⟨v, _, _, _, b, rfl, .ty n, TyX.mono hid_same (r.ty_ h1), kit_ty h2, k _ _ H (Le.refl R.inv) (.bl _) q⟩
end
theorem kb_non_bool : kitB "NoneType" "bool" = some false := by decide +kernel
theorem kb_non_int : kitB "NoneType" "int" = some false := by decide +kernel
theorem kb_non_str : kitB "NoneType" "str" = some false := by decide +kernel
theorem kb_non_list : kitB "NoneType" "list" = some false := by decide +kernel
theorem kb_non_tuple : kitB "NoneType" "tuple" = some false := by decide +kernel
theorem kb_bool_bool : kitB "bool" "bool" = some true := by decide +kernel
theorem kb_bool_int : kitB "bool" "int" = some true := by decide +kernel
theorem kb_bool_str : kitB "bool" "str" = some false := by decide +kernel
theorem kb_bool_list : kitB "bool" "list" = some false := by decide +kernel
theorem kb_bool_tuple : kitB "bool" "tuple" = some false := by decide +kernel
theorem kb_int_bool : kitB "int" "bool" = some false := by decide +kernel
theorem kb_int_int : kitB "int" "int" = some true := by decide +kernel
theorem kb_int_str : kitB "int" "str" = some false := by decide +kernel
theorem kb_int_list : kitB "int" "list" = some false := by decide +kernel
theorem kb_int_tuple : kitB "int" "tuple" = some false := by decide +kernel
theorem kb_str_bool : kitB "str" "bool" = some false := by decide +kernel
theorem kb_str_int : kitB "str" "int" = some false := by decide +kernel
theorem kb_str_str : kitB "str" "str" = some true := by decide +kernel
theorem kb_str_list : kitB "str" "list" = some false := by decide +kernel
theorem kb_str_tuple : kitB "str" "tuple" = some false := by decide +kernel
theorem kb_list_bool : kitB "list" "bool" = some false := by decide +kernel
theorem kb_list_int : kitB "list" "int" = some false := by decide +kernel
theorem kb_list_str : kitB "list" "str" = some false := by decide +kernel
theorem kb_list_list : kitB "list" "list" = some true := by decide +kernel
theorem kb_list_tuple : kitB "list" "tuple" = some false := by decide +kernel
theorem kb_tuple_bool : kitB "tuple" "bool" = some false := by decide +kernel
theorem kb_tuple_int : kitB "tuple" "int" = some false := by decide +kernel
theorem kb_tuple_str : kitB "tuple" "str" = some false := by decide +kernel
theorem kb_tuple_list : kitB "tuple" "list" = some false := by decide +kernel
theorem kb_tuple_tuple : kitB "tuple" "tuple" = some true := by decide +kernel
end M3

/-! L3D: loops and comprehensions over trees. -/
namespace M3
open PySem L2
/-- the iterator yields the trees ds, while what V0 shows stands -/
structure Walks (K : PySem.W.Frag) (V0 : Hp) (J : It) (ds : List T) : Prop where
  go : ∀ (i : Nat) d S H, ds[i]? = some d → Same V0 (hid S H) → J.go i H
  yld : ∀ (i : Nat) d S H x H', ds[i]? = some d → Same V0 (hid S H) → (∀ a ∈ S, H a ≠ none) → J.yld i H x H' → (H' = H ∨ ∃ p o, H p = none ∧ H' = upd H p o) ∧ Rep K (hid S H') x d
  stop : ∀ S H, Same V0 (hid S H) → J.stop ds.length H
def LiftI (K : PySem.W.Frag) (c : Cf) (W : WX) (wi : TI) (t : A3) : Prop :=
  ∀ σ3 Q3 X, t σ3 Q3 X → ∀ Hb G A σ H R', R3 K c Hb G A σ3 σ H →
    (∀ J ds H', Le c G A H H' → Walks K (hid (c.S G A) H') J ds → Q3 ds → R' J H') →
    (∀ cls dd x H', Le c G A H H' → XRep K (hid (c.S G A) H') cls dd x → X x → W cls dd σ H') → wi σ H R'
section
variable {K : PySem.W.Frag} {c : Cf} {W : WX} {ta tb te : TE} {a b e : E3}
theorem walks_list {V0 : Hp} {a : Addr} {vs : List V} {ds : List T} (h : V0 a = some (.lst vs)) (r : RepL K V0 vs ds) : Walks K V0 (Itl K a) ds where
  go := fun i d S H hd e => by
    obtain ⟨v, hv, _⟩ := r.get hd
    exact ⟨vs, v, SqL.of (hid_same _ _ (e _ _ h)), hv⟩
  yld := fun i d S H x H' hd e _ y => by
    obtain ⟨v, hv, rv⟩ := r.get hd
    obtain ⟨rfl, y⟩ := y
    have z := y vs (SqL.of (hid_same _ _ (e _ _ h)))
    rw [hv] at z
    cases z
    exact ⟨.inl rfl, rv.mono e⟩
  stop := fun S H e => ⟨vs, SqL.of (hid_same _ _ (e _ _ h)), by rw [r.length]; exact Nat.le_refl _⟩
theorem walks_tup {V0 : Hp} {a : Addr} {vs : List V} {ds : List T} (h : SqT K V0 a vs) (r : RepL K V0 vs ds) : Walks K V0 (Itt K a) ds where
  go := fun i d S H hd e => by
    obtain ⟨v, hv, _⟩ := r.get hd
    exact ⟨vs, v, Same.sqT hid_same (Same.sqT e h), hv⟩
  yld := fun i d S H x H' hd e _ y => by
    obtain ⟨v, hv, rv⟩ := r.get hd
    obtain ⟨rfl, y⟩ := y
    have z := y vs (Same.sqT hid_same (Same.sqT e h))
    rw [hv] at z
    cases z
    exact ⟨.inl rfl, rv.mono e⟩
  stop := fun S H e => ⟨vs, Same.sqT hid_same (Same.sqT e h), by rw [r.length]; exact Nat.le_refl _⟩
def rangeT (lo : Int) (n : Nat) : List T := (List.range n).map fun i => .int (lo + (i : Nat))
theorem walks_range {V0 : Hp} (lo : Int) (n : Nat) : Walks K V0 (Itr lo n) (rangeT lo n) where
  go := fun i d S H hd e => by
    have := (List.getElem?_eq_some_iff.mp hd).1
    show i < n
    simpa [rangeT] using this
  yld := fun i d S H x H' hd e _ y => by
    obtain ⟨rfl, rfl⟩ := y
    have hl := (List.getElem?_eq_some_iff.mp hd).1
    have hl : i < n := by simpa [rangeT] using hl
    have z : (rangeT lo n)[i]? = some (.int (lo + (i : Nat))) := by
      unfold rangeT
      rw [List.getElem?_map, List.getElem?_range hl]
      rfl
    rw [z] at hd
    cases hd
    exact ⟨.inl rfl, .int _⟩
  stop := fun S H e => by
    show n ≤ _
    simp [rangeT]
def iterL3 (a : E3) : A3 := fun σ Q X => a σ (fun d => ob (asL d) Q) X
def iterT3 (a : E3) : A3 := fun σ Q X => a σ (fun d => ob (asT d) Q) X
def iterR3 (x : A3) : A3 := fun σ Q X => x σ (fun ds => ob (one ds) fun d => ob (asI d) fun j => -(2 ^ 62) ≤ j ∧ j < 2 ^ 62 ∧ Q (rangeT 0 j.toNat)) X
def iterR23 (x : A3) : A3 := fun σ Q X => x σ (fun ds => ob (two ds) fun d => ob (asI d.1) fun i => ob (asI d.2) fun j => (-(2 ^ 62) ≤ i ∧ i < 2 ^ 62 ∧ -(2 ^ 62) ≤ j ∧ j < 2 ^ 62) ∧ Q (rangeT i (j - i).toNat)) X
theorem lift_iL (ha : Lift K c W ta a) : LiftI K c W (iList K ta) (iterL3 a) := by
  intro σ3 Q3 X h Hb G A σ H R' R k e
  refine ha _ _ _ h Hb G A σ H _ R (fun v d H1 L1 r q => ?_) e
  obtain ⟨xs, ex, q1⟩ := ob_iff.mp q
  cases asL_is ex
  obtain ⟨p, vs, rfl, hp, rl⟩ := r.lstI
  exact ⟨p, rfl, ⟨vs, SqL.of (hid_same _ _ hp)⟩, k _ _ H1 L1 (walks_list hp rl) q1⟩
theorem lift_iT (ha : Lift K c W ta a) : LiftI K c W (iTup K ta) (iterT3 a) := by
  intro σ3 Q3 X h Hb G A σ H R' R k e
  refine ha _ _ _ h Hb G A σ H _ R (fun v d H1 L1 r q => ?_) e
  obtain ⟨xs, ex, q1⟩ := ob_iff.mp q
  cases asT_is ex
  obtain ⟨p, vs, rfl, hp, rl⟩ := r.tupI
  exact ⟨p, rfl, ⟨vs, Same.sqT hid_same hp⟩, k _ _ H1 L1 (walks_tup hp rl) q1⟩
theorem lift_iR {t : TA} {x : A3} (ha : LiftA K c W t x) : LiftI K c W (iRng1 t) (iterR3 x) := by
  intro σ3 Q3 X h Hb G A σ H R' R k e
  refine ha _ _ _ h Hb G A σ H _ R (fun v d H1 L1 r q => ?_) e
  obtain ⟨d, ed, q1⟩ := ob_iff.mp q
  obtain ⟨j, ej, h1, h2, q2⟩ := ob_iff.mp q1
  cases one_is ed
  cases asI_is ej
  obtain ⟨v, rfl, rv⟩ := repL_one r
  cases rv.intI
  exact ⟨j, rfl, h1, h2, k _ _ H1 L1 (walks_range 0 j.toNat) q2⟩
theorem lift_iR2 {t : TA} {x : A3} (ha : LiftA K c W t x) : LiftI K c W (iRng2 t) (iterR23 x) := by
  intro σ3 Q3 X h Hb G A σ H R' R k e
  refine ha _ _ _ h Hb G A σ H _ R (fun v d H1 L1 r q => ?_) e
  obtain ⟨⟨d, d'⟩, ed, q1⟩ := ob_iff.mp q
  obtain ⟨i, ei, q2⟩ := ob_iff.mp q1
  obtain ⟨j, ej, h1, q3⟩ := ob_iff.mp q2
  cases two_is ed
  cases asI_is ei
  cases asI_is ej
  obtain ⟨v, w, rfl, rv, rw'⟩ := repL_two r
  cases rv.intI
  cases rw'.intI
  exact ⟨i, j, rfl, h1, k _ _ H1 L1 (walks_range i (j - i).toNat) q3⟩
/-! ### zip -/
def pairT : List T → List T → List T
  | x :: xs, y :: ys => .tup [x, y] :: pairT xs ys
  | _, _ => []
theorem pairT_get : ∀ {xs ys : List T} {i : Nat} {d : T}, (pairT xs ys)[i]? = some d → ∃ x y, xs[i]? = some x ∧ ys[i]? = some y ∧ d = .tup [x, y]
  | [], _, i, d, h => by simp [pairT] at h
  | _ :: _, [], i, d, h => by simp [pairT] at h
  | x :: xs, y :: ys, 0, d, h => ⟨x, y, rfl, rfl, by simpa [pairT] using h.symm⟩
  | x :: xs, y :: ys, i + 1, d, h => by
    have h' : (pairT xs ys)[i]? = some d := by simpa [pairT] using h
    obtain ⟨x', y', h1, h2, h3⟩ := pairT_get h'
    exact ⟨x', y', by simpa using h1, by simpa using h2, h3⟩
theorem pairT_len : ∀ (xs ys : List T), (pairT xs ys).length = min xs.length ys.length
  | [], _ => by simp [pairT]
  | _ :: _, [] => by simp [pairT]
  | x :: xs, y :: ys => by simp [pairT, pairT_len xs ys]
theorem yld_pair {S : List Addr} {H H' : Hp} {Tt : Addr} {v w : V} {x y : T} (hS : ∀ a ∈ S, H a ≠ none) (hT : H Tt = none) (e : H' = upd H Tt (.tup [v, w])) (r1 : Rep K (hid S H) v x) (r2 : Rep K (hid S H) w y) :
    (H' = H ∨ ∃ p o, H p = none ∧ H' = upd H p o) ∧ Rep K (hid S H') (.ref Tt) (.tup [x, y]) := by
  subst e
  have hn : Tt ∉ S := fun z => hS Tt z hT
  have sm : Same (hid S H) (hid S (upd H Tt (.tup [v, w]))) := fun a o z => by
    obtain ⟨z1, z2⟩ := hid_some z
    exact hid_mk (by rw [upd_ne (ne_of_none z1 hT)]; exact z1) z2
  exact ⟨.inr ⟨Tt, _, hT, rfl⟩, .mkT (SqT.of (hid_mk upd_same hn)) (.cons (r1.mono sm) (.cons (r2.mono sm) .nil))⟩
theorem walks_zipL {V0 : Hp} {a b : Addr} {vs ws : List V} {xs ys : List T} (ha : V0 a = some (.lst vs)) (hb : V0 b = some (.lst ws)) (r : RepL K V0 vs xs) (s : RepL K V0 ws ys) : Walks K V0 (Itz K a b) (pairT xs ys) where
  go := fun i d S H hd e => by
    obtain ⟨x, y, h1, h2, _⟩ := pairT_get hd
    obtain ⟨v, hv, _⟩ := r.get h1
    obtain ⟨w, hw, _⟩ := s.get h2
    exact ⟨vs, ws, v, w, SqL.of (hid_same _ _ (e _ _ ha)), SqL.of (hid_same _ _ (e _ _ hb)), hv, hw⟩
  yld := fun i d S H x H' hd e hS y => by
    obtain ⟨x1, y1, h1, h2, rfl⟩ := pairT_get hd
    obtain ⟨v, hv, rv⟩ := r.get h1
    obtain ⟨w, hw, rw'⟩ := s.get h2
    obtain ⟨Tt, p, q, rfl, hT, e', f1, f2⟩ := y
    have z1 := f1 vs (SqL.of (hid_same _ _ (e _ _ ha)))
    have z2 := f2 ws (SqL.of (hid_same _ _ (e _ _ hb)))
    rw [hv] at z1
    rw [hw] at z2
    cases z1
    cases z2
    exact yld_pair hS hT e' (rv.mono e) (rw'.mono e)
  stop := fun S H e => ⟨vs, ws, SqL.of (hid_same _ _ (e _ _ ha)), SqL.of (hid_same _ _ (e _ _ hb)), by rw [pairT_len, r.length, s.length]; omega⟩
theorem walks_zipT {V0 : Hp} {a b : Addr} {vs ws : List V} {xs ys : List T} (ha : SqT K V0 a vs) (hb : SqT K V0 b ws) (r : RepL K V0 vs xs) (s : RepL K V0 ws ys) : Walks K V0 (RZ.ItzT K a b) (pairT xs ys) where
  go := fun i d S H hd e => by
    obtain ⟨x, y, h1, h2, _⟩ := pairT_get hd
    obtain ⟨v, hv, _⟩ := r.get h1
    obtain ⟨w, hw, _⟩ := s.get h2
    exact ⟨vs, ws, v, w, Same.sqT hid_same (Same.sqT e ha), Same.sqT hid_same (Same.sqT e hb), hv, hw⟩
  yld := fun i d S H x H' hd e hS y => by
    obtain ⟨x1, y1, h1, h2, rfl⟩ := pairT_get hd
    obtain ⟨v, hv, rv⟩ := r.get h1
    obtain ⟨w, hw, rw'⟩ := s.get h2
    obtain ⟨Tt, p, q, rfl, hT, e', f1, f2⟩ := y
    have z1 := f1 vs (Same.sqT hid_same (Same.sqT e ha))
    have z2 := f2 ws (Same.sqT hid_same (Same.sqT e hb))
    rw [hv] at z1
    rw [hw] at z2
    cases z1
    cases z2
    exact yld_pair hS hT e' (rv.mono e) (rw'.mono e)
  stop := fun S H e => ⟨vs, ws, Same.sqT hid_same (Same.sqT e ha), Same.sqT hid_same (Same.sqT e hb), by rw [pairT_len, r.length, s.length]; omega⟩
/-- zip of two lists, of two tuples -/
def zipT : T → T → Option (List T)
  | .lst xs, .lst ys => some (pairT xs ys)
  | .tup xs, .tup ys => some (pairT xs ys)
  | _, _ => none
def iterZ3 (x : A3) : A3 := fun σ Q X => x σ (fun ds => ob (two ds) fun p => ob (zipT p.1 p.2) Q) X
theorem zipT_is {x y : T} {l : List T} (h : zipT x y = some l) : ∃ xs ys, l = pairT xs ys ∧ ((x = .lst xs ∧ y = .lst ys) ∨ (x = .tup xs ∧ y = .tup ys)) := by
  cases x <;> cases y <;> cases h <;> first | exact ⟨_, _, rfl, .inl ⟨rfl, rfl⟩⟩ | exact ⟨_, _, rfl, .inr ⟨rfl, rfl⟩⟩
theorem lift_iZ {t : TA} {x : A3} (ha : LiftA K c W t x) : LiftI K c W (RZ.iZipA K t) (iterZ3 x) := by
  intro σ3 Q3 X h Hb G A σ H R' R k e
  refine ha _ _ _ h Hb G A σ H _ R (fun v d H1 L1 r q => ?_) e
  obtain ⟨⟨d, d'⟩, ed, q1⟩ := ob_iff.mp q
  obtain ⟨l, el, q2⟩ := ob_iff.mp q1
  cases two_is ed
  obtain ⟨xs, ys, rfl, hh⟩ := zipT_is el
  rcases hh with ⟨rfl, rfl⟩ | ⟨rfl, rfl⟩
  · obtain ⟨v, w, rfl, rv, rw'⟩ := repL_two r
    obtain ⟨p, vs, rfl, hp, rl⟩ := rv.lstI
    obtain ⟨p2, ws, rfl, hp2, rl2⟩ := rw'.lstI
    exact ⟨p, p2, vs, ws, rfl, .inl ⟨SqL.of (hid_same _ _ hp), SqL.of (hid_same _ _ hp2), k _ _ H1 L1 (walks_zipL hp hp2 rl rl2) q2⟩⟩
  · obtain ⟨v, w, rfl, rv, rw'⟩ := repL_two r
    obtain ⟨p, vs, rfl, hp, rl⟩ := rv.tupI
    obtain ⟨p2, ws, rfl, hp2, rl2⟩ := rw'.tupI
    exact ⟨p, p2, vs, ws, rfl, .inr ⟨Same.sqT hid_same hp, Same.sqT hid_same hp2, k _ _ H1 L1 (walks_zipT hp hp2 rl rl2) q2⟩⟩
end
/-! ### a base anew -/
section
variable {K : PySem.W.Frag} {c : Cf} {Hb H H1 H' : Hp} {G : List Addr} {A A' : List (Option Addr)} {σ3 σ3' : List Sl} {σ σ' : St}
theorem R3.rebase (r : R3 K c Hb G A σ3 σ H) : R3 K c (hid (addrs A) H) G A σ3 σ H where
  inv := r.inv
  base := fun a o e => by
    obtain ⟨e1, e2⟩ := hid_some e
    obtain ⟨e3, e4⟩ := hid_some e1
    exact hid_mk e3 fun z => by
      rcases mem_S.mp z with z | z | z
      · exact e2 (List.mem_append.mpr (.inl z))
      · exact e2 (List.mem_append.mpr (.inr z))
      · exact e4 z
  gk := fun a h => ⟨by rw [hid_out (fun z => r.ns a z (List.mem_append.mpr (.inr h)))], (r.gk a h).2⟩
  nd := r.nd
  ns := r.ns
  l1 := r.l1
  l2 := r.l2
  at_ := r.at_
theorem rebase_vis : Same (hid (c.S G A) H1) (hid (c.S0 ++ G) (hid (addrs A) H1)) := fun a o e => by
  obtain ⟨e1, e2⟩ := hid_some e
  refine hid_mk (hid_mk e1 fun z => e2 (mem_S.mpr (.inr (.inr z)))) fun z => e2 ?_
  rcases List.mem_append.mp z with z | z
  · exact mem_S.mpr (.inl z)
  · exact mem_S.mpr (.inr (.inl z))
theorem Fin3.debase (r : R3 K c Hb G A σ3 σ H1) (q : Fin3 K c (hid (addrs A) H1) G H') : Fin3 K c Hb G H' where
  inv := q.inv
  base := Same.trans r.base (Same.trans rebase_vis q.base)
  gk := fun a h => by rw [q.gk a h, hid_out (fun z => r.ns a z (List.mem_append.mpr (.inr h))), (r.gk a h).1]
theorem R3.debase (r : R3 K c Hb G A σ3 σ H1) (q : R3 K c (hid (addrs A) H1) G A' σ3' σ' H') : R3 K c Hb G A' σ3' σ' H' where
  inv := q.inv
  base := Same.trans r.base (Same.trans rebase_vis q.base)
  gk := fun a h => ⟨by rw [(q.gk a h).1, hid_out (fun z => r.ns a z (List.mem_append.mpr (.inr h))), (r.gk a h).1], (q.gk a h).2⟩
  nd := q.nd
  ns := q.ns
  l1 := q.l1
  l2 := q.l2
  at_ := q.at_
end
/-! ### for -/
def loop3 (g : TG3) (tb : S3) (N : N3) : List T → List Sl → Prop
  | [], σ => N.nx σ
  | x :: r, σ => g x σ fun σ' => tb { nx := loop3 g tb N r, ct := loop3 g tb N r, bk := N.nx, rt := N.rt, xn := N.xn } σ'
def for3 (s : A3) (g : TG3) (tb : S3) : S3 := fun N σ => s σ (fun ds => loop3 g tb N ds σ) (N.xn σ)
section
variable {K : PySem.W.Frag} {c : Cf} {W : WX}
theorem lift_for {vs : List Nat} {wi : TI} {s : A3} {g : TG} {g3 : TG3} {tb : TS} {b : S3} (hi : LiftI K c W wi s) (hg : LiftTg K c vs g g3) (hb : LiftS K c W tb b) : LiftS K c W (tFor wi g tb) (for3 s g3 b) := by
  intro N σ3 h Hb G A σ H D R Z
  refine hi _ _ _ h Hb G A σ H _ R (fun J ds H1 L1 w q => ?_) (fun cls dd x H' L r q => Z.xn _ _ _ _ _ _ _ (R.le L) r q)
  have R1 := R.le L1
  refine ⟨fun i m σ' H' => m = ds.length - i ∧ i ≤ ds.length ∧ ∃ A' σ3', R3 K c (hid (addrs A) H1) G A' σ3' σ' H' ∧ loop3 g3 b N (ds.drop i) σ3', ⟨ds.length, rfl, Nat.zero_le _, A, σ3, R1.rebase, by simpa using q⟩, ?_⟩
  rintro i m σ' H' ⟨rfl, hi, A', σ3', R', q'⟩
  have vis : Same (hid (c.S G A) H1) (hid (c.S G A') H') := Same.trans rebase_vis R'.base
  by_cases hl : i = ds.length
  · subst hl
    left
    refine ⟨w.stop _ _ vis, Z.nx _ _ _ _ (R1.debase R') ?_⟩
    have e : ds.drop ds.length = [] := List.drop_length
    rw [e] at q'
    exact q'
  · right
    have hlt : i < ds.length := Nat.lt_of_le_of_ne hi hl
    have hd : ds[i]? = some ds[i] := List.getElem?_eq_getElem hlt
    rw [List.drop_eq_getElem_cons hlt] at q'
    refine ⟨w.go i _ _ _ hd vis, fun σ2 H2 => ∃ A2 σ32, R3 K c (hid (addrs A) H1) G A2 σ32 σ2 H2 ∧ loop3 g3 b N (ds.drop (i + 1)) σ32, ?_, ?_⟩
    · rintro σ2 H2 ⟨A2, σ32, R2, q2⟩
      exact ⟨ds.length - (i + 1), by omega, rfl, hlt, A2, σ32, R2, q2⟩
    · intro x H2 y
      obtain ⟨hn, rx⟩ := w.yld i _ _ _ x H2 hd vis (fun a h => R'.there h) y
      have R2 : R3 K c (hid (addrs A) H1) G A' σ3' σ' H2 := by
        rcases hn with rfl | ⟨p, o, hp, rfl⟩
        · exact R'
        · exact R'.le (R'.new hp)
      refine hg _ _ _ q' _ G A' σ' H2 x _ R2 rx (fun A4 σ4 σ4' H4 R4 _ _ q4 => ?_)
      refine hb _ _ q4 _ G A4 σ4' H4 _ R4 ⟨?_, ?_, ?_, ?_, ?_⟩
      · exact fun A5 σ5 σ5' H5 R5 q5 => ⟨A5, σ5, R5, q5⟩
      · exact fun v d H5 F rv q5 => Z.rt v d H5 (Fin3.debase R1 F) rv q5
      · exact fun A5 σ5 σ5' H5 R5 q5 => Z.nx _ _ _ _ (R1.debase R5) q5
      · exact fun A5 σ5 σ5' H5 R5 q5 => ⟨A5, σ5, R5, q5⟩
      · exact fun A5 σ5 σ5' H5 cls dd xn R5 rx q5 => Z.xn _ _ _ _ _ _ _ (R1.debase R5) rx q5
/-- a loop by its word: P holds between two turns -/
theorem loop3_inv {g : TG3} {tb : S3} {N : N3} (P : List T → List Sl → Prop) : ∀ (ds : List T) (σ : List Sl), P ds σ → (∀ σ, P [] σ → N.nx σ) →
    (∀ x r σ, P (x :: r) σ → g x σ fun σ' => ∀ nx : List Sl → Prop, (∀ σ2, P r σ2 → nx σ2) → tb { nx := nx, ct := nx, bk := N.nx, rt := N.rt, xn := N.xn } σ') →
    (∀ d σ (Q Q' : List Sl → Prop), (∀ σ, Q σ → Q' σ) → g d σ Q → g d σ Q') → loop3 g tb N ds σ
  | [], σ, h, h0, hs, hm => h0 σ h
  | x :: r, σ, h, h0, hs, hm => hm _ _ _ _ (fun σ' q => q (loop3 g tb N r) fun σ2 h2 => loop3_inv P r σ2 h2 h0 hs hm) (hs x r σ h)
end
/-! ### comprehensions -/
def wipe3 (σ : List Sl) : List Nat → List Sl
  | [] => σ
  | v :: vs => (wipe3 σ vs).set v .no
def comp3 (g : TG3) (tt : B3) (te : E3) (σ : List Sl) (X : X3) (Q : List T → Prop) : List T → List T → Prop
  | [], acc => Q acc
  | x :: r, acc => g x σ fun σ' => tt σ' (fun b => if b = true then te σ' (fun y => acc.length < sizeLine ∧ comp3 g tt te σ X Q r (acc ++ [y])) X else comp3 g tt te σ X Q r acc) X
def noOwn (σ : List Sl) (vs : List Nat) : Prop := ∀ i ∈ vs, ∀ t, σ[i]? ≠ some (.own t)
def lc3 (s : A3) (g : TG3) (tt : B3) (te : E3) (vs : List Nat) : E3 := fun σ Q X => noOwn σ vs ∧ s σ (fun ds => comp3 g tt te (wipe3 σ vs) X (fun ys => Q (.lst ys)) ds []) X
def yes3 : B3 := fun _ Q _ => Q true
section
variable {K : PySem.W.Frag} {c : Cf} {W : WX} {Hb H H1 H' : Hp} {G : List Addr} {A A' : List (Option Addr)} {σ3 σ3' : List Sl} {σ σ' : St}
theorem lift_yes : LiftT K c W tYes yes3 := by
  intro σ3 Q3 X h Hb G A σ H Q R k e
  exact k true true H (Le.refl R.inv) rfl h
theorem wipe3_own : ∀ {vs : List Nat} {σ : List Sl} {i : Nat} {t : T}, (wipe3 σ vs)[i]? = some (.own t) → σ[i]? = some (.own t)
  | [], _, _, _, h => h
  | v :: vs, σ, i, t, h => by
    rcases getElem?_set_cases (show ((wipe3 σ vs).set v .no)[i]? = some (.own t) from h) with ⟨_, e, _⟩ | ⟨_, e⟩
    · cases e
    · exact wipe3_own e
theorem set_eq_self {α : Type} {l : List α} {i : Nat} {x : α} (h : l[i]? = some x ∨ l.length ≤ i) : l.set i x = l := by
  apply List.ext_getElem?
  intro j
  by_cases e : i = j
  · subst e
    rcases h with h | h
    · rw [List.getElem?_set_self (List.getElem?_eq_some_iff.mp h).1, h]
    · rw [List.getElem?_eq_none (by simpa using h), List.getElem?_eq_none h]
  · rw [List.getElem?_set_ne e]
theorem R3.wiped (r : R3 K c Hb G A σ3 σ H) : ∀ {vs : List Nat}, noOwn σ3 vs → R3 K c Hb G A (wipe3 σ3 vs) (wipe σ vs) H
  | [], _ => r
  | v :: vs, h => by
    have ih := R3.wiped r (vs := vs) fun i hi => h i (List.mem_cons_of_mem _ hi)
    have z := ih.wipe1 v none
    have e : A.set v none = A := by
      apply set_eq_self
      by_cases hv : v < A.length
      · left
        have h1 : v < (wipe3 σ3 vs).length := by rw [← ih.l1]; exact hv
        have h2 : v < (wipe σ vs).length := by rw [ih.l2]; exact h1
        have q := ih.at_ v _ _ _ (List.getElem?_eq_getElem h1) (List.getElem?_eq_getElem hv) (List.getElem?_eq_getElem h2)
        rw [List.getElem?_eq_getElem hv]
        cases e : (wipe3 σ3 vs)[v] with
        | no => rw [e] at q; rw [q]
        | val t => rw [e] at q; rw [q.1]
        | own t =>
          have w1 : (wipe3 σ3 vs)[v]? = some (.own t) := by rw [List.getElem?_eq_getElem h1, e]
          exact absurd (wipe3_own w1) (h v (List.mem_cons_self ..) t)
      · exact .inr (Nat.le_of_not_lt hv)
    rw [e] at z
    exact z
theorem wipe_eq : ∀ {vs : List Nat} {σ σ' : St}, σ'.length = σ.length → (∀ j : Nat, j ∉ vs → σ'[j]? = σ[j]?) → wipe σ' vs = wipe σ vs := by
  intro vs σ σ' hl h
  apply List.ext_getElem?
  intro j
  by_cases hj : j ∈ vs
  · have z : ∀ {vs : List Nat} (σ : St), j ∈ vs → (wipe σ vs)[j]? = if j < σ.length then some none else none := by
      intro vs
      induction vs with
      | nil => intro σ h; cases h
      | cons v vs ih =>
        intro σ hm
        show ((wipe σ vs).set v none)[j]? = _
        by_cases e : v = j
        · subst e
          by_cases hv : v < σ.length
          · rw [List.getElem?_set_self (by rw [wipe_length]; exact hv), if_pos hv]
          · rw [List.getElem?_eq_none (by simp [wipe_length]; omega), if_neg hv]
        · rw [List.getElem?_set_ne e]
          rcases List.mem_cons.mp hm with q | q
          · exact absurd q.symm e
          · exact ih σ q
    rw [z σ' hj, z σ hj, hl]
  · rw [wipe_out hj, wipe_out hj, h j hj]
theorem wipe_wipe {vs : List Nat} {σ : St} : wipe (wipe σ vs) vs = wipe σ vs := wipe_eq (wipe_length _ _) fun j hj => wipe_out hj
/-- a list of our own at D is hidden too -/
theorem R3.under (r : R3 K c Hb G A σ3 σ H1) {D : Addr} {o : HO} (hD : H1 D = none) (hd : H D = some o) (vis : Same (hid (c.S G A) H1) (hid (D :: c.S G A) H)) (own : ∀ a ∈ G ++ addrs A, H a = H1 a) (inv : c.I H) :
    R3 K c (hid (addrs A) H) (D :: G) A σ3 σ H := by
  have nD : D ∉ c.S G A := r.free hD
  have sub : ∀ a, a ∈ c.S (D :: G) A ↔ a ∈ D :: c.S G A := fun a => by
    rw [mem_S, List.mem_cons, List.mem_cons, mem_S]
    exact ⟨fun h => by rcases h with h | (h | h) | h <;> simp [h], fun h => by rcases h with h | h | h | h <;> simp [h]⟩
  have vis2 : Same (hid (c.S G A) H1) (hid (c.S (D :: G) A) H) := Same.trans vis (hid_mono fun a h => (sub a).mp h)
  refine ⟨inv, ?_, ?_, r.nd, ?_, r.l1, r.l2, ?_⟩
  · intro a o e
    obtain ⟨e1, e2⟩ := hid_some e
    obtain ⟨e3, e4⟩ := hid_some e1
    exact hid_mk e3 fun z => by
      rcases mem_S.mp z with z | z | z
      · exact e2 (List.mem_append.mpr (.inl z))
      · exact e2 (List.mem_append.mpr (.inr z))
      · exact e4 z
  · intro a h
    rcases List.mem_cons.mp h with rfl | h
    · exact ⟨by rw [hid_out (fun z => nD (mem_S.mpr (.inr (.inr z))))], (by rw [hd]; intro z; cases z), fun z => nD (mem_S.mpr (.inl z))⟩
    · have e := own a (List.mem_append.mpr (.inl h))
      exact ⟨by rw [hid_out (fun z => r.ns a z (List.mem_append.mpr (.inr h)))], by rw [e]; exact (r.gk a h).2.1, (r.gk a h).2.2⟩
  · intro a h z
    rcases List.mem_append.mp z with z | z
    · exact r.ns a h (List.mem_append.mpr (.inl z))
    · rcases List.mem_cons.mp z with rfl | z
      · exact nD (mem_S.mpr (.inr (.inr h)))
      · exact r.ns a h (List.mem_append.mpr (.inr z))
  · intro i s o x h1 h2 h3
    have z := r.at_ i s o x h1 h2 h3
    cases s with
    | no => exact z
    | val t => obtain ⟨e, v, e2, q⟩ := z; exact ⟨e, v, e2, q.mono vis2⟩
    | own t =>
      obtain ⟨a, e, e2, q⟩ := z
      refine ⟨a, e, e2, q.mono vis2 (own a (List.mem_append.mpr (.inr (mem_addrs.mpr ?_))))⟩
      subst e
      exact List.mem_of_getElem? h2
theorem hid_upd_in {S : List Addr} {H : Hp} {D : Addr} {o : HO} (h : D ∈ S) : hid S (upd H D o) = hid S H := by
  funext a
  by_cases e : a ∈ S
  · rw [hid_in e, hid_in e]
  · rw [hid_out e, hid_out e, upd_ne (fun z => e (by rw [z]; exact h))]
theorem lift_lc {vs : List Nat} {wi : TI} {s : A3} {g : TG} {g3 : TG3} {tt : TT} {b : B3} {te : TE} {e3 : E3} (hi : LiftI K c W wi s) (hg : LiftTg K c vs g g3) (ht : LiftT K c W tt b) (he : Lift K c W te e3)
    (hW : ∀ cls dd σ σ' H, W cls dd σ H → W cls dd σ' H) : Lift K c W (tLc wi g tt te vs) (lc3 s g3 b e3 vs) := by
  intro σ3 Q3 X h Hb G A σ H Q R k e
  obtain ⟨no, h⟩ := h
  refine hi _ _ _ h Hb G A σ H _ R (fun J ds H1 L1 w q => ?_) e
  have R1 := R.le L1
  intro D hD
  have nD : D ∉ c.S G A := R1.free hD
  have RW := R1.wiped (vs := vs) no
  refine ⟨fun i m H' => m = ds.length - i ∧ i ≤ ds.length ∧ ∃ accV acc, H' D = some (.lst accV) ∧ RepL K (hid (D :: c.S G A) H') accV acc ∧ comp3 g3 b e3 (wipe3 σ3 vs) X (fun ys => Q3 (.lst ys)) (ds.drop i) acc ∧
    Same (hid (c.S G A) H1) (hid (D :: c.S G A) H') ∧ (∀ a ∈ G ++ addrs A, H' a = H1 a) ∧ c.I H', ⟨ds.length, rfl, Nat.zero_le _, [], [], upd_same, .nil, by simpa using q, ?_, ?_, ?_⟩, ?_⟩
  · rw [hid_upd_in (List.mem_cons_self ..)]
    intro a o z
    obtain ⟨z1, z2⟩ := hid_some z
    exact hid_mk z1 fun y => by
      rcases List.mem_cons.mp y with y | y
      · subst y; rw [hD] at z1; cases z1
      · exact z2 y
  · exact (R1.new (o := .lst []) hD).own
  · exact (R1.new (o := .lst []) hD).inv
  rintro i m H2 ⟨rfl, hi, accV, acc, hd2, racc, q2, vis, own, inv⟩
  have vis' : Same (hid (c.S G A) H1) (hid (c.S G A) H2) := Same.trans vis (hid_mono fun a h => List.mem_cons_of_mem _ h)
  by_cases hl : i = ds.length
  · subst hl
    left
    refine ⟨w.stop _ _ vis', ?_⟩
    have e' : ds.drop ds.length = [] := List.drop_length
    rw [e'] at q2
    exact k _ _ H2 (L1.trans ⟨vis', own, inv⟩) (.mkL (hid_mk hd2 nD) (racc.mono (hid_mono fun a h => List.mem_cons_of_mem _ h))) q2
  · right
    have hlt : i < ds.length := Nat.lt_of_le_of_ne hi hl
    have hdd : ds[i]? = some ds[i] := List.getElem?_eq_getElem hlt
    rw [List.drop_eq_getElem_cons hlt] at q2
    refine ⟨w.go i _ _ _ hdd vis', fun H3 => ∃ accV acc, H3 D = some (.lst accV) ∧ RepL K (hid (D :: c.S G A) H3) accV acc ∧ comp3 g3 b e3 (wipe3 σ3 vs) X (fun ys => Q3 (.lst ys)) (ds.drop (i + 1)) acc ∧
      Same (hid (c.S G A) H1) (hid (D :: c.S G A) H3) ∧ (∀ a ∈ G ++ addrs A, H3 a = H1 a) ∧ c.I H3, ?_, ?_⟩
    · rintro H3 ⟨accV, acc, z⟩
      exact ⟨ds.length - (i + 1), by omega, rfl, hlt, accV, acc, z⟩
    · intro x H3 y
      have RU := RW.under hD hd2 vis own inv
      have sD : ∀ a, a ∈ c.S (D :: G) A ↔ a ∈ D :: c.S G A := fun a => by
        rw [mem_S, List.mem_cons, List.mem_cons, mem_S]
        exact ⟨fun h => by rcases h with h | (h | h) | h <;> simp [h], fun h => by rcases h with h | h | h | h <;> simp [h]⟩
      have sm1 : ∀ H, Same (hid (c.S (D :: G) A) H) (hid (D :: c.S G A) H) := fun H => hid_mono fun a h => (sD a).mpr h
      have sm2 : ∀ H, Same (hid (D :: c.S G A) H) (hid (c.S (D :: G) A) H) := fun H => hid_mono fun a h => (sD a).mp h
      obtain ⟨hn, rx⟩ := w.yld i _ (c.S (D :: G) A) _ x H3 hdd (Same.trans vis (sm2 _)) (fun a h => RU.there h) y
      have L3 : Le c (D :: G) A H2 H3 := by
        rcases hn with rfl | ⟨p, o, hp, rfl⟩
        · exact Le.refl inv
        · exact RU.new hp
      have R3' := RU.le L3
      have back : ∀ H', Le c (D :: G) A H2 H' → Same (hid (c.S G A) H1) (hid (D :: c.S G A) H') ∧ (∀ a ∈ G ++ addrs A, H' a = H1 a) ∧ c.I H' ∧ H' D = some (.lst accV) := fun H' L => by
        refine ⟨Same.trans vis (Same.trans (sm2 _) (Same.trans L.vis (sm1 _))), fun a h => ?_, L.inv, ?_⟩
        · rw [L.own a (by rcases List.mem_append.mp h with h | h <;> simp [h]), own a h]
        · rw [L.own D (by simp), hd2]
      have exn : ∀ (σ' : St) cls dd x H', Le c (D :: G) A H2 H' → XRep K (hid (c.S (D :: G) A) H') cls dd x → X x → W cls dd σ' H' := fun σ' cls dd x H' L r hx => by
        obtain ⟨b1, b2, b3, b4⟩ := back H' L
        refine hW cls dd σ σ' H' (e cls dd x H' (L1.trans ⟨Same.trans b1 (hid_mono fun a h => List.mem_cons_of_mem _ h), b2, b3⟩) ?_ hx)
        have sm : Same (hid (c.S (D :: G) A) H') (hid (c.S G A) H') := Same.trans (sm1 _) (hid_mono fun a h => List.mem_cons_of_mem _ h)
        obtain ⟨r1, r2⟩ := r
        refine ⟨r1, ?_⟩
        cases dd with
        | none => exact r2
        | some d =>
          obtain ⟨fs, f1, f2, f3⟩ := r2
          exact ⟨fs, sm _ _ f1, f2, f3.mono sm⟩
      refine hg _ _ _ q2 _ (D :: G) A _ H3 x _ R3' rx (fun A4 σ4 σ4' H4 R4 e4 st q4 => ?_)
      subst e4
      refine ⟨?_, ?_⟩
      · rw [wipe_eq st.1 (fun j hj => (st.2.1 j hj).1), wipe_wipe]
      have hA4 : A4 = A := by
        apply List.ext_getElem?
        intro j
        by_cases hj : j ∈ vs
        · have l4 : A4.length = A.length := by rw [R4.l1, RW.l1, ← RW.l2, ← R4.l2, st.1]
          by_cases hjl : j < A.length
          · have g4 : j < A4.length := by rw [l4]; exact hjl
            have hno : A[j]? = some none := by
              have h1 : j < (wipe3 σ3 vs).length := by rw [← RW.l1]; exact hjl
              have h2 : j < (wipe σ vs).length := by rw [RW.l2]; exact h1
              have z := RW.at_ j _ _ _ (List.getElem?_eq_getElem h1) (List.getElem?_eq_getElem hjl) (List.getElem?_eq_getElem h2)
              rw [List.getElem?_eq_getElem hjl]
              cases ee : (wipe3 σ3 vs)[j] with
              | no => rw [ee] at z; rw [z]
              | val t => rw [ee] at z; rw [z.1]
              | own t =>
                have w1 : (wipe3 σ3 vs)[j]? = some (.own t) := by rw [List.getElem?_eq_getElem h1, ee]
                exact absurd (wipe3_own w1) (no j hj t)
            rw [hno]
            cases ea : A4[j] with
            | none => rw [List.getElem?_eq_getElem g4, ea]
            | some p =>
              have m4 : p ∈ addrs A4 := mem_addrs.mpr (by rw [← ea]; exact List.getElem_mem g4)
              have m : p ∈ addrs A := st.2.2 p m4
              obtain ⟨i', hi'⟩ := List.getElem?_of_mem (mem_addrs.mp m)
              have hij : i' ≠ j := fun z => by subst z; rw [hno] at hi'; cases hi'
              by_cases hv : i' ∈ vs
              · have hjl' := (List.getElem?_eq_some_iff.mp hi').1
                have h1 : i' < (wipe3 σ3 vs).length := by rw [← RW.l1]; exact hjl'
                have h2 : i' < (wipe σ vs).length := by rw [RW.l2]; exact h1
                have z := RW.at_ i' _ _ _ (List.getElem?_eq_getElem h1) hi' (List.getElem?_eq_getElem h2)
                cases ee : (wipe3 σ3 vs)[i'] with
                | no => rw [ee] at z; cases z
                | val t => rw [ee] at z; cases z.1
                | own t =>
                  have w1 : (wipe3 σ3 vs)[i']? = some (.own t) := by rw [List.getElem?_eq_getElem h1, ee]
                  exact absurd (wipe3_own w1) (no i' hv t)
              · have : A4[i']? = some (some p) := by rw [(st.2.1 i' hv).2]; exact hi'
                have two : ∀ {B : List (Option Addr)} {i j : Nat}, (addrs B).Nodup → B[i]? = some (some p) → B[j]? = some (some p) → i = j := by
                  intro B
                  induction B with
                  | nil => intro i j _ h; simp at h
                  | cons b B ih =>
                    intro i j hN h1 h2
                    cases i with
                    | zero =>
                      cases j with
                      | zero => rfl
                      | succ j =>
                        simp at h1 h2
                        subst h1
                        exact absurd (mem_addrs.mpr (List.mem_of_getElem? h2)) (List.nodup_cons.mp (show (p :: addrs B).Nodup from hN)).1
                    | succ i =>
                      cases j with
                      | zero =>
                        simp at h1 h2
                        subst h2
                        exact absurd (mem_addrs.mpr (List.mem_of_getElem? h1)) (List.nodup_cons.mp (show (p :: addrs B).Nodup from hN)).1
                      | succ j =>
                        simp at h1 h2
                        have hN' : (addrs B).Nodup := by
                          cases b with
                          | none => exact hN
                          | some q => exact (List.nodup_cons.mp (show (q :: addrs B).Nodup from hN)).2
                        rw [ih hN' h1 h2]
                exact absurd (two R4.nd this (by rw [List.getElem?_eq_getElem g4, ea])) hij
          · rw [List.getElem?_eq_none (by omega), List.getElem?_eq_none (by omega)]
        · exact (st.2.1 j hj).2
      subst hA4
      refine ht _ _ _ q4 _ (D :: G) A4 σ4' H4 _ R4 (fun bv bb H5 L5 rb q5 => ?_) (fun cls dd x H' L => exn _ cls dd x H' (L3.trans L))
      subst rb
      cases bv with
      | false =>
        refine iteF ?_
        obtain ⟨b1, b2, b3, b4⟩ := back H5 (L3.trans L5)
        exact ⟨accV, acc, b4, racc.mono (Same.trans (sm2 _) (Same.trans (L3.trans L5).vis (sm1 _))), by simpa using q5, b1, b2, b3⟩
      | true =>
        refine iteT ?_
        refine he _ _ _ (show e3 σ4 _ X by simpa using q5) _ (D :: G) A4 σ4' H5 _ (R4.le L5) (fun y d H6 L6 ry q6 => ?_) (fun cls dd x H' L => exn _ cls dd x H' ((L3.trans L5).trans L))
        obtain ⟨b1, b2, b3, b4⟩ := back H6 ((L3.trans L5).trans L6)
        have racc6 := racc.mono (Same.trans (sm2 _) (Same.trans ((L3.trans L5).trans L6).vis (sm1 _)))
        refine ⟨accV, b4, by rw [racc.length]; exact q6.1, accV ++ [y], acc ++ [d], upd_same, ?_, q6.2, ?_, ?_, ?_⟩
        · rw [hid_upd_in (List.mem_cons_self ..)]
          exact racc6.append (.cons (ry.mono (sm1 _)) .nil)
        · rw [hid_upd_in (List.mem_cons_self ..)]
          exact b1
        · intro a ha
          have : a ≠ D := fun z => by
            subst z
            exact nD (mem_S.mpr (by rcases List.mem_append.mp ha with z | z; exact .inr (.inl z); exact .inr (.inr z)))
          rw [upd_ne this]
          exact b2 a ha
        · exact c.st H6 _ (fun a ha => by rw [upd_ne (fun z => nD (by rw [← z]; exact mem_S.mpr (.inl ha)))]) b3
end
end M3

/-! L3E: calls of defs by their promises, keywords, slices, further operations. -/
namespace M3
open PySem L2
/-! ### a def that may be called with positional arguments, the defaults dvs behind them -/
structure Cl (P : Program) (w : World) (K : PySem.W.Frag) (mg : Str → Option Value) (base : Heap) (CX : CXT) (x : Str) (k : Nat) (dvs : List V) (sp : Sp) : Prop where
  ex : ∃ (f : Addr) (fd : FuncData) (ps : List Str) (ds : List Value), FnOk P w K mg base CX k f fd ps sp ∧ mg x = some (.ref f) ∧ PySem.W.keepIn K (.ref f) = true ∧ Binds K fd ps ds ∧ Vals dvs ds
/-- .. with n positional arguments and the keywords ks -/
structure ClN (P : Program) (w : World) (K : PySem.W.Frag) (mg : Str → Option Value) (base : Heap) (CX : CXT) (x : Str) (k n : Nat) (ks : List Str) (gV : List V → List V → List V) (sp : Sp) : Prop where
  ex : ∃ (f : Addr) (fd : FuncData) (ps : List Str) (g : List Value → List Value → List Value), FnOk P w K mg base CX k f fd ps sp ∧ mg x = some (.ref f) ∧ PySem.W.keepIn K (.ref f) = true ∧ KBn K fd ps n ks g gV
section
variable {X : Cx} {CX : CXT} {k n : Nat} {sp : Sp} {dvs : List V} {E : XK} {x : Str} {p pos : Pos} {e : Expr} {es : List Expr} {kws : List Keyword} {ks : List Str} {t tk : TA} {gV : List V → List V → List V}
theorem pe_cl (C : Cl X.prog X.w X.K X.mg X.base CX x k dvs sp) (hr : Room k X.A) (hg : Gl X x) (hx : Passes CX X E)
    (ha : PA X (e :: es) t) (hdb : (x == ("__debug__" : Str)) = false := by decide) (he : starEach (e :: es) X.env = (false, eval e X.env) :: starEach es X.env := by rfl) (hpl : (backTo pos (starEach es X.env)).any (·.1) = false := by rfl) :
    PE X (.Call (.Name x p) (e :: es) [] pos) (tCall sp dvs E t) := by
  obtain ⟨f, fd, ps, ds, F, hm, hk, hb, hd⟩ := C.ex
  exact pe_call F hr hg hm hk hb hd hx ha hdb he hpl
theorem pe_cl0 (C : Cl X.prog X.w X.K X.mg X.base CX x k dvs sp) (hr : Room k X.A) (hg : Gl X x) (hx : Passes CX X E)
    (hdb : (x == ("__debug__" : Str)) = false := by decide) : PE X (.Call (.Name x p) [] [] pos) (tCall sp dvs E tNil) := by
  obtain ⟨f, fd, ps, ds, F, hm, hk, hb, hd⟩ := C.ex
  exact pe_call0 F hr hg hm hk hb hd hx hdb
theorem pe_clN (C : ClN X.prog X.w X.K X.mg X.base CX x k n ks gV sp) (hr : Room k X.A) (hg : Gl X x) (hx : Passes CX X E)
    (ha : PA X (e :: es) t) (hkw : PK X kws tk) (hall : (backToKw pos (keywordEach kws X.env)).all (·.1.isSome) = true := by rfl) (hks : (backToKw pos (keywordEach kws X.env)).filterMap (·.1) = ks := by rfl)
    (hdb : (x == ("__debug__" : Str)) = false := by decide) (he : starEach (e :: es) X.env = (false, eval e X.env) :: starEach es X.env := by rfl)
    (hpl : ((backTo pos (starEach (e :: es) X.env)).any (·.1) || (backToKw pos (keywordEach kws X.env)).any (·.1.isNone)) = false := by rfl) :
    PE X (.Call (.Name x p) (e :: es) kws pos) (tCallN n ks.length sp gV E t tk) := by
  obtain ⟨f, fd, ps, g, F, hm, hk, hb⟩ := C.ex
  exact pe_callN F hr hg hm hk hb hx ha hkw hall hks hdb he hpl
theorem pe_clN0 (C : ClN X.prog X.w X.K X.mg X.base CX x k 0 ks gV sp) (hr : Room k X.A) (hg : Gl X x) (hx : Passes CX X E)
    (hkw : PK X kws tk) (hall : (backToKw pos (keywordEach kws X.env)).all (·.1.isSome) = true := by rfl) (hks : (backToKw pos (keywordEach kws X.env)).filterMap (·.1) = ks := by rfl)
    (hdb : (x == ("__debug__" : Str)) = false := by decide)
    (hpl : ((backTo pos (starEach [] X.env)).any (·.1) || (backToKw pos (keywordEach kws X.env)).any (·.1.isNone)) = false := by rfl) :
    PE X (.Call (.Name x p) [] kws pos) (tCallN 0 ks.length sp gV E tNil tk) := by
  obtain ⟨f, fd, ps, g, F, hm, hk, hb⟩ := C.ex
  refine ⟨fun pins s σ H Q I h => ?_⟩
  refine wpAny_Call_Name_kw (ld_glob I hg hm ?_ hdb)
  refine PySem.W.callWith_KW0 (h₀ := X.base) I.ok.mod.kin hk hall ?_ hpl
  refine thn (hkw.run pos pins s σ H _ I h) fun ws s2 ⟨zs, H2, I2, rz, l1, l2, q2⟩ => ⟨I2.kIn, ?_⟩
  rw [hks]
  exact run_fnN (us := []) (vs := []) F hr hb hx I2 .nil rz rfl l2 q2
end
/-- f(e, .., k = v, ..) at trees -/
def fnN30 (n : Nat) (f : F3) (g : List T → List T → List T) (m j : Nat) (x y : A3) : E3 := fun σ Q X => x σ (fun ds => y σ (fun es => ds.length = m ∧ es.length = j ∧ (g ds es).length = n ∧ f (g ds es) Q (fun _ => False)) X) X
def fnN3 (n : Nat) (f : F3) (g : List T → List T → List T) (m j : Nat) (x y : A3) : E3 := fun σ Q X => x σ (fun ds => y σ (fun es => ds.length = m ∧ es.length = j ∧ (g ds es).length = n ∧ f (g ds es) Q X) X) X
section
variable {K : PySem.W.Frag} {c : Cf} {W : WX}
theorem lift_callN0 {n m j : Nat} {f : F3} {E : XK} {t tk : TA} {x y : A3} {gV : List V → List V → List V} {g : List T → List T → List T} (hg : ∀ H vs ds ws es, RepL K H vs ds → RepL K H ws es → ds.length = m → es.length = j → RepL K H (gV vs ws) (g ds es))
    (ha : LiftA K c W t x) (hb : LiftA K c W tk y) : Lift K c W (tCallN m j (sp3 K n f) gV E t tk) (fnN30 n f g m j x y) := by
  intro σ3 Q3 X h Hb G A σ H Q R k e
  refine ha _ _ _ h Hb G A σ H _ R (fun vs ds H1 L1 rx hx => ?_) e
  refine hb _ _ _ hx Hb G A σ H1 _ (R.le L1) (fun ws es H2 L2 ry hy => ?_) (fun cls dd x H' L => e cls dd x H' (L1.trans L))
  obtain ⟨h1, h2, h3, h4⟩ := hy
  refine ⟨by rw [rx.length]; exact h1, by rw [ry.length]; exact h2, ?_⟩
  exact sp3_call ((R.le L1).le L2) (hg _ _ _ _ _ (rx.mono L2.vis) ry h1 h2) h3 h4 (fun v d H' L r q => k v d H' ((L1.trans L2).trans L) r q) (fun cls dd x H' L r q => q.elim)
theorem lift_callN {n m j : Nat} {f : F3} {E : XK} {t tk : TA} {x y : A3} {gV : List V → List V → List V} {g : List T → List T → List T} (hE : ∀ cls dd σ H, W cls dd σ H → E cls dd H) (hg : ∀ H vs ds ws es, RepL K H vs ds → RepL K H ws es → ds.length = m → es.length = j → RepL K H (gV vs ws) (g ds es))
    (ha : LiftA K c W t x) (hb : LiftA K c W tk y) : Lift K c W (tCallN m j (sp3 K n f) gV E t tk) (fnN3 n f g m j x y) := by
  intro σ3 Q3 X h Hb G A σ H Q R k e
  refine ha _ _ _ h Hb G A σ H _ R (fun vs ds H1 L1 rx hx => ?_) e
  refine hb _ _ _ hx Hb G A σ H1 _ (R.le L1) (fun ws es H2 L2 ry hy => ?_) (fun cls dd x H' L => e cls dd x H' (L1.trans L))
  obtain ⟨h1, h2, h3, h4⟩ := hy
  refine ⟨by rw [rx.length]; exact h1, by rw [ry.length]; exact h2, ?_⟩
  exact sp3_call ((R.le L1).le L2) (hg _ _ _ _ _ (rx.mono L2.vis) ry h1 h2) h3 h4 (fun v d H' L r q => k v d H' ((L1.trans L2).trans L) r q) (fun cls dd x H' L r q => hE _ _ σ _ (e cls dd x H' ((L1.trans L2).trans L) r q))
/-! ### slices -/
theorem lift_po0 : LiftO K c W tNoPart (fun _ Q _ => Q none) := by
  intro σ3 Q3 X h Hb G A σ H Q R k e
  exact k none none H (Le.refl R.inv) rfl h
def part3 (a : E3) : G3 (Option Int) := fun σ Q X => a σ (fun x => ob (asI x) fun i => Q (some i)) X
theorem lift_po {ta : TE} {a : E3} (ha : Lift K c W ta a) : LiftO K c W (tPart ta) (part3 a) := by
  intro σ3 Q3 X h Hb G A σ H Q R k e
  refine ha _ _ _ h Hb G A σ H _ R (fun vx x H1 L1 rx hx => ?_) e
  obtain ⟨i, ei, q⟩ := ob_iff.mp hx
  cases asI_is ei
  exact ⟨i, rx.intI, k _ _ H1 L1 rfl q⟩
def cut {α : Type} (xs : List α) (lo hi : Option Int) : List α := (xs.drop (HT.sIx xs.length 0 lo)).take (HT.sIx xs.length xs.length hi - HT.sIx xs.length 0 lo)
theorem RepL.cut {H : Hp} {vs : List V} {ts : List T} (r : RepL K H vs ts) (lo hi : Option Int) : RepL K H (cutV vs lo hi) (M3.cut ts lo hi) := by
  unfold cutV M3.cut
  rw [r.length]
  exact (r.drop _).take _
def sl3 (q : T → Option Int → Option Int → (T → Prop) → Prop) (a : E3) (l h : G3 (Option Int)) : E3 := fun σ Q X => a σ (fun x => l σ (fun lo => h σ (fun hi => q x lo hi Q) X) X) X
def RLs (K : PySem.W.Frag) (r : V → Option Int → Option Int → Hp → VK → Prop) (q : T → Option Int → Option Int → (T → Prop) → Prop) : Prop :=
  ∀ (c : Cf) x lo hi Q3, q x lo hi Q3 → ∀ Hb G A σ3 σ H vx Q, R3 K c Hb G A σ3 σ H → Rep K (hid (c.S G A) H) vx x →
    (∀ v d H', Le c G A H H' → Rep K (hid (c.S G A) H') v d → Q3 d → Q v H') → r vx lo hi H Q
theorem lift_sl {r : V → Option Int → Option Int → Hp → VK → Prop} {q : T → Option Int → Option Int → (T → Prop) → Prop} {ta : TE} {a : E3} {tl th : TO} {l h : G3 (Option Int)} (hr : RLs K r q) (ha : Lift K c W ta a) (hl : LiftO K c W tl l) (hh : LiftO K c W th h) :
    Lift K c W (tSl r ta tl th) (sl3 q a l h) := by
  intro σ3 Q3 X hq Hb G A σ H Q R k e
  refine ha _ _ _ hq Hb G A σ H _ R (fun vx x H1 L1 rx hx => ?_) e
  refine hl _ _ _ hx Hb G A σ H1 _ (R.le L1) (fun lo lo' H2 L2 e2 hy => ?_) (fun cls dd x H' L => e cls dd x H' (L1.trans L))
  subst e2
  refine hh _ _ _ hy Hb G A σ H2 _ ((R.le L1).le L2) (fun hi hi' H3 L3 e3 hz => ?_) (fun cls dd x H' L => e cls dd x H' ((L1.trans L2).trans L))
  subst e3
  exact hr c _ _ _ _ hz Hb G A σ3 σ H3 vx Q (((R.le L1).le L2).le L3) (rx.mono (Same.trans L2.vis L3.vis)) (fun v d H' L => k v d H' (((L1.trans L2).trans L3).trans L))
def cutL3 : T → Option Int → Option Int → (T → Prop) → Prop := fun x lo hi Q => ob (asL x) fun xs => Q (.lst (cut xs lo hi))
def cutT3 : T → Option Int → Option Int → (T → Prop) → Prop := fun x lo hi Q => ob (asT x) fun xs => Q (.tup (cut xs lo hi))
def cutS3 : T → Option Int → Option Int → (T → Prop) → Prop := fun x lo hi Q => ob (asS x) fun z => z.length ≤ sizeLine ∧ Q (.str (cutS z lo hi))
theorem rl_slL : RLs K (rSlL K) cutL3 := by
  intro c x lo hi Q3 hh Hb G A σ3 σ H vx Q R rx k
  obtain ⟨xs, ex, q⟩ := ob_iff.mp hh
  cases asL_is ex
  obtain ⟨a, vs, rfl, ha, rl⟩ := rx.lstI
  refine ⟨a, vs, rfl, SqL.of (hid_same _ _ ha), fun p hp => ?_⟩
  have L := R.new (o := .lst (cutV vs lo hi)) hp
  exact k _ _ _ L (.mkL (R.newAt hp) ((rl.mono L.vis).cut lo hi)) q
theorem cut_whole {α : Type} {xs : List α} {lo hi : Option Int} (h : HT.sIx xs.length 0 lo = 0 ∧ HT.sIx xs.length xs.length hi = xs.length) : cut xs lo hi = xs := by
  unfold cut
  rw [h.1, h.2, List.drop_zero, Nat.sub_zero, List.take_length]
theorem rl_slT : RLs K (rSlA K) cutT3 := by
  intro c x lo hi Q3 hh Hb G A σ3 σ H vx Q R rx k
  obtain ⟨xs, ex, q⟩ := ob_iff.mp hh
  cases asT_is ex
  obtain ⟨a, vs, rfl, ha, rl⟩ := rx.tupI
  refine ⟨a, vs, rfl, Same.sqT hid_same ha, fun hw => ?_, fun _ p hp => ?_⟩
  · rw [rl.length] at hw
    refine k _ _ _ (Le.refl R.inv) rx ?_
    rw [cut_whole hw] at q
    exact q
  · have L := R.new (o := .tup (cutV vs lo hi)) hp
    exact k _ _ _ L (.mkT (SqT.of (R.newAt hp)) ((rl.mono L.vis).cut lo hi)) q
theorem rl_slS : RLs K rSlS cutS3 := by
  intro c x lo hi Q3 hh Hb G A σ3 σ H vx Q R rx k
  obtain ⟨z, ez, hz, q⟩ := ob_iff.mp hh
  cases asS_is ez
  exact ⟨z, rx.strI, hz, k _ _ H (Le.refl R.inv) (.str _) q⟩
/-! ### + of lists, tuples, texts; list * int -/
def catL3 : T → T → (T → Prop) → Prop := fun x y Q => ob (asL x) fun xs => ob (asL y) fun ys => xs.length + ys.length ≤ sizeLine ∧ Q (.lst (xs ++ ys))
def catT3 : T → T → (T → Prop) → Prop := fun x y Q => ob (asT x) fun xs => ob (asT y) fun ys => xs.length + ys.length ≤ sizeLine ∧ Q (.tup (xs ++ ys))
def catS3 : T → T → (T → Prop) → Prop := fun x y Q => ob (asS x) fun a => ob (asS y) fun b => a.length + b.length ≤ sizeLine ∧ Q (.str (a ++ b))
def repL3 : T → T → (T → Prop) → Prop := fun x y Q => ob (asL x) fun xs => ob (asI y) fun k => -(2 ^ 63) ≤ k ∧ k < 2 ^ 63 ∧ xs.length * k.toNat ≤ sizeLine ∧ Q (.lst (List.replicate k.toNat xs).flatten)
theorem rl_catL : RL2 K rCat catL3 := by
  intro c x y Q3 hh Hb G A σ3 σ H vx vy Q R rx ry k
  obtain ⟨xs, ex, hh1⟩ := ob_iff.mp hh
  obtain ⟨ys, ey, hl, q⟩ := ob_iff.mp hh1
  cases asL_is ex
  cases asL_is ey
  obtain ⟨a, vs, rfl, ha, rl⟩ := rx.lstI
  obtain ⟨b, ws, rfl, hb, rm⟩ := ry.lstI
  refine ⟨a, b, vs, ws, rfl, rfl, hid_same _ _ ha, hid_same _ _ hb, by rw [rl.length, rm.length]; exact hl, fun p hp => ?_⟩
  have L := R.new (o := .lst (vs ++ ws)) hp
  exact k _ _ _ L (.mkL (R.newAt hp) ((rl.mono L.vis).append (rm.mono L.vis))) q
theorem rl_catT : RL2 K (rCatA K) catT3 := by
  intro c x y Q3 hh Hb G A σ3 σ H vx vy Q R rx ry k
  obtain ⟨xs, ex, hh1⟩ := ob_iff.mp hh
  obtain ⟨ys, ey, hl, q⟩ := ob_iff.mp hh1
  cases asT_is ex
  cases asT_is ey
  obtain ⟨a, vs, rfl, ha, rl⟩ := rx.tupI
  obtain ⟨b, ws, rfl, hb, rm⟩ := ry.tupI
  refine ⟨a, b, vs, ws, rfl, rfl, Same.sqT hid_same ha, Same.sqT hid_same hb, by rw [rl.length, rm.length]; exact hl, fun h => ?_, fun _ h => ?_, fun _ _ p hp => ?_⟩
  · subst h
    cases rl
    exact k _ _ _ (Le.refl R.inv) ry q
  · subst h
    cases rm
    rw [List.append_nil] at q
    exact k _ _ _ (Le.refl R.inv) rx q
  · have L := R.new (o := .tup (vs ++ ws)) hp
    exact k _ _ _ L (.mkT (SqT.of (R.newAt hp)) ((rl.mono L.vis).append (rm.mono L.vis))) q
theorem rl_catS : RL2 K (fun x y H Q => ∃ i j, x = .str i ∧ y = .str j ∧ i.length + j.length ≤ sizeLine ∧ Q (.str (i ++ j)) H) catS3 := by
  intro c x y Q3 hh Hb G A σ3 σ H vx vy Q R rx ry k
  obtain ⟨a, ea, hh1⟩ := ob_iff.mp hh
  obtain ⟨b, eb, hl, q⟩ := ob_iff.mp hh1
  cases asS_is ea
  cases asS_is eb
  exact ⟨a, b, rx.strI, ry.strI, hl, k _ _ H (Le.refl R.inv) (.str _) q⟩
theorem RepL.times {H : Hp} {vs : List V} {ts : List T} (r : RepL K H vs ts) : ∀ n : Nat, RepL K H (List.replicate n vs).flatten (List.replicate n ts).flatten
  | 0 => .nil
  | n + 1 => by
    rw [List.replicate_succ, List.replicate_succ, List.flatten_cons, List.flatten_cons]
    exact r.append (RepL.times r n)
theorem rl_repL : RL2 K rRep repL3 := by
  intro c x y Q3 hh Hb G A σ3 σ H vx vy Q R rx ry k
  obtain ⟨xs, ex, hh1⟩ := ob_iff.mp hh
  obtain ⟨n, en, h1, h2, hl, q⟩ := ob_iff.mp hh1
  cases asL_is ex
  cases asI_is en
  obtain ⟨a, vs, rfl, ha, rl⟩ := rx.lstI
  refine ⟨a, n, vs, rfl, ry.intI, hid_same _ _ ha, h1, h2, by rw [rl.length]; exact hl, fun p hp => ?_⟩
  have L := R.new (o := .lst (List.replicate n.toNat vs).flatten) hp
  exact k _ _ _ L (.mkL (R.newAt hp) ((rl.mono L.vis).times _)) q
/-! ### tuple(..), list(..), int(..) -/
def tuple3 : List T → (T → Prop) → Prop := fun xs Q => ob (one xs) fun x => ob (items x) fun ys => Q (.tup ys)
def list3 : List T → (T → Prop) → Prop := fun xs Q => ob (one xs) fun x => ob (items x) fun ys => Q (.lst ys)
theorem items_cases {x : T} {ys : List T} (h : items x = some ys) : x = .lst ys ∨ x = .tup ys := by
  cases x <;> simp [items] at h <;> subst h <;> simp
theorem rl_tuple : RLn K (fun xs H Q => ∃ p ys, xs = [.ref p] ∧ ((SqL K H p ys ∧ ∀ l, H l = none → Q (.ref l) (upd H l (.tup ys))) ∨ (SqT K H p ys ∧ Q (.ref p) H))) tuple3 := by
  intro c xs Q3 hh Hb G A σ3 σ H vs Q R rx k
  obtain ⟨x, ex, hh1⟩ := ob_iff.mp hh
  obtain ⟨ys, hi, q⟩ := ob_iff.mp hh1
  cases one_is ex
  obtain ⟨v, rfl, r⟩ := repL_one rx
  rcases items_cases hi with rfl | rfl
  · obtain ⟨a, vs, rfl, ha, rl⟩ := r.lstI
    refine ⟨a, vs, rfl, .inl ⟨SqL.of (hid_same _ _ ha), fun p hp => ?_⟩⟩
    have L := R.new (o := .tup vs) hp
    exact k _ _ _ L (.mkT (SqT.of (R.newAt hp)) (rl.mono L.vis)) q
  · obtain ⟨a, vs, rfl, ha, rl⟩ := r.tupI
    exact ⟨a, vs, rfl, .inr ⟨Same.sqT hid_same ha, k _ _ _ (Le.refl R.inv) r q⟩⟩
theorem rl_list : RLn K (fun xs H Q => ∃ p ys, xs = [.ref p] ∧ (SqL K H p ys ∨ SqT K H p ys) ∧ ∀ l, H l = none → Q (.ref l) (upd H l (.lst ys))) list3 := by
  intro c xs Q3 hh Hb G A σ3 σ H vs Q R rx k
  obtain ⟨x, ex, hh1⟩ := ob_iff.mp hh
  obtain ⟨ys, hi, q⟩ := ob_iff.mp hh1
  cases one_is ex
  obtain ⟨v, rfl, r⟩ := repL_one rx
  rcases items_cases hi with rfl | rfl
  · obtain ⟨a, vs, rfl, ha, rl⟩ := r.lstI
    refine ⟨a, vs, rfl, .inl (SqL.of (hid_same _ _ ha)), fun p hp => ?_⟩
    have L := R.new (o := .lst vs) hp
    exact k _ _ _ L (.mkL (R.newAt hp) (rl.mono L.vis)) q
  · obtain ⟨a, vs, rfl, ha, rl⟩ := r.tupI
    refine ⟨a, vs, rfl, .inr (Same.sqT hid_same ha), fun p hp => ?_⟩
    have L := R.new (o := .lst vs) hp
    exact k _ _ _ L (.mkL (R.newAt hp) (rl.mono L.vis)) q
end
end M3

/-! L3P: the law's pot: hidden for good; a draw is any number below its bound. -/
namespace M3
open PySem L2
/-- the pot at p, its cells at cc -/
def PotAt (p cc : Addr) (H : Hp) : Prop :=
  ∃ (cs : List Int) (i n s : Int), H p = some (.lst [.ref cc, .int i, .int n, .int s]) ∧ H cc = some (.lst (cs.map V.int)) ∧ 0 ≤ i ∧ i < cs.length ∧ cs.length ≤ 1000 ∧ (∀ z ∈ cs, 0 ≤ z) ∧ 0 ≤ s ∧ s < 2147483647
theorem PotAt.ne {p cc : Addr} {H : Hp} (h : PotAt p cc H) : p ≠ cc := by
  obtain ⟨cs, i, n, s, h1, h2, _⟩ := h
  refine ne_of h1 h2 fun z => ?_
  have z : [V.ref cc, V.int i, V.int n, V.int s] = cs.map V.int := HO.lst.inj z
  cases cs with
  | nil => cases z
  | cons a cs => rw [List.map_cons] at z; injection z with z _; cases z
def potCf (p cc : Addr) : Cf where
  S0 := [p, cc]
  I := PotAt p cc
  st := fun H H' e h => by
    obtain ⟨cs, i, n, s, h1, h2, r⟩ := h
    exact ⟨cs, i, n, s, by rw [e p (by simp)]; exact h1, by rw [e cc (by simp)]; exact h2, r⟩
  on := fun H h a ha => by
    obtain ⟨cs, i, n, s, h1, h2, r⟩ := h
    rcases List.mem_cons.mp ha with rfl | ha
    · rw [h1]; intro z; cases z
    · rcases List.mem_cons.mp ha with rfl | ha
      · rw [h2]; intro z; cases z
      · cases ha
/-- a def that draws from the pot, its first argument -/
def spP (K : PySem.W.Frag) (n : Nat) (f : F3) : Sp := fun vs H Q E => ∃ p cc G ds, PotAt p cc H ∧ (∀ a ∈ G, H a ≠ none ∧ a ∉ (potCf p cc).S0) ∧ (T.ref p :: ds).length = n ∧ RepL K (hid ((potCf p cc).S0 ++ G) H) vs (T.ref p :: ds) ∧ ∃ Q3 X, f (T.ref p :: ds) Q3 X ∧
  (∀ v d H', PotAt p cc H' → Same (hid ((potCf p cc).S0 ++ G) H) (hid ((potCf p cc).S0 ++ G) H') → (∀ a ∈ G, H' a = H a) → Rep K (hid ((potCf p cc).S0 ++ G) H') v d → Q3 d → Q v H') ∧
  (∀ cls dd x H', PotAt p cc H' → Same (hid ((potCf p cc).S0 ++ G) H) (hid ((potCf p cc).S0 ++ G) H') → (∀ a ∈ G, H' a = H a) → XRep K (hid ((potCf p cc).S0 ++ G) H') cls dd x → X x → E cls dd H')
theorem spP_len {K : PySem.W.Frag} {n : Nat} {f : F3} {ps : List Str} (h : ps.length = n) : ∀ vs H Q E, spP K n f vs H Q E → vs.length = ps.length := by
  intro vs H Q E h'
  obtain ⟨p, cc, G, ds, _, _, hl, r, _⟩ := h'
  rw [r.length, hl, h]
theorem bodyP {K : PySem.W.Frag} {n : Nat} {f : F3} {N : List Str} {t : TS} {x : Addr → S3} {W : WX} {vs : List V} {H : Hp} {Q : VK} {E : XK} (h : spP K n f vs H Q E) (hW : ∀ cls dd σ H', E cls dd H' → W cls dd σ H')
    (lt : ∀ p cc, LiftS K (potCf p cc) W t (x p)) (hb : ∀ p ds Q3 X, (T.ref p :: ds).length = n → f (T.ref p :: ds) Q3 X → x p { nx := fun _ => Q3 .non, rt := Q3, xn := fun _ => X } (start3 N.length (T.ref p :: ds))) : t { nx := fun _ H' => Q .non H', rt := Q } (start N vs) H := by
  obtain ⟨p, cc, G, ds, hp, hG, hl, r, Q3, X, hf, hq, hx⟩ := h
  refine lt p cc _ _ (hb p ds Q3 X hl hf) H G _ _ H _ (r3_start (c := potCf p cc) (N := N) hp hG r) ⟨?_, ?_, fun _ _ _ _ _ z => z.elim, fun _ _ _ _ _ z => z.elim, ?_⟩
  · intro A σ3 σ H' R q
    exact hq _ _ _ R.inv R.fin.base (fun a h => R.fin.gk a h) .non q
  · intro v d H' F rv q
    exact hq _ _ _ F.inv F.base (fun a h => F.gk a h) rv q
  · intro A σ3 σ H' cls dd xn R rx q
    refine hW _ _ _ _ (hx cls dd xn H' R.inv R.fin.base (fun a h => R.fin.gk a h) ?_ q)
    obtain ⟨e, rx⟩ := rx
    refine ⟨e, ?_⟩
    cases dd with
    | none => exact rx
    | some d =>
      obtain ⟨fs, h1, h2, h3⟩ := rx
      exact ⟨fs, hid_fin _ _ h1, h2, h3.mono hid_fin⟩
/-- f(pot, e, ..) -/
def fnP30 (p : Addr) (n : Nat) (f : F3) (x : A3) (dvs : List T) : E3 := fun σ Q X => x σ (fun ds => ds.head? = some (T.ref p) ∧ (ds ++ dvs).length = n ∧ f (ds ++ dvs) Q (fun _ => False)) X
theorem spP_call {K : PySem.W.Frag} {p cc : Addr} {n : Nat} {f : F3} {Hb H1 : Hp} {G : List Addr} {A : List (Option Addr)} {σ3 : List Sl} {σ : St} {vs : List V} {ds : List T} {Q : VK} {E : XK} {Q3 : T → Prop} {X : X3} (R1 : R3 K (potCf p cc) Hb G A σ3 σ H1)
    (rx : RepL K (hid ((potCf p cc).S G A) H1) vs (T.ref p :: ds)) (hl : (T.ref p :: ds).length = n) (hf : f (T.ref p :: ds) Q3 X) (k : ∀ v d H', Le (potCf p cc) G A H1 H' → Rep K (hid ((potCf p cc).S G A) H') v d → Q3 d → Q v H')
    (e : ∀ cls dd x H', Le (potCf p cc) G A H1 H' → XRep K (hid ((potCf p cc).S G A) H') cls dd x → X x → E cls dd H') : spP K n f vs H1 Q E := by
  have eS : (potCf p cc).S0 ++ (G ++ addrs A) = (potCf p cc).S G A := by unfold Cf.S; rw [List.append_assoc]
  have hG : ∀ a ∈ G ++ addrs A, H1 a ≠ none ∧ a ∉ (potCf p cc).S0 := fun a ha => by
    rcases List.mem_append.mp ha with h | h
    · exact (R1.gk a h).2
    · exact ⟨R1.there (mem_S.mpr (.inr (.inr h))), fun z => R1.ns a h (List.mem_append.mpr (.inl z))⟩
  refine ⟨p, cc, G ++ addrs A, ds, R1.inv, hG, hl, by rw [eS]; exact rx, Q3, X, hf, ?_, ?_⟩
  · rw [eS]
    exact fun v d H' hp s1 s2 rv q => k v d H' ⟨s1, s2, hp⟩ rv q
  · rw [eS]
    exact fun cls dd xn H' hp s1 s2 rv q => e cls dd xn H' ⟨s1, s2, hp⟩ rv q
theorem lift_callP0 {K : PySem.W.Frag} {p cc : Addr} {n : Nat} {f : F3} {W : WX} {E : XK} {t : TA} {x : A3} {dvs : List V} {dts : List T} (ha : LiftA K (potCf p cc) W t x) (hd : ∀ H, RepL K H dvs dts) :
    Lift K (potCf p cc) W (tCall (spP K n f) dvs E t) (fnP30 p n f x dts) := by
  intro σ3 Q3 X h Hb G A σ H Q R k e
  refine ha _ _ _ h Hb G A σ H _ R (fun vs ds H1 L1 rx hx => ?_) e
  obtain ⟨hd0, hl, hf⟩ := hx
  obtain ⟨r, rfl⟩ : ∃ r, ds = T.ref p :: r := by
    cases ds with
    | nil => cases hd0
    | cons a r => cases hd0; exact ⟨r, rfl⟩
  exact spP_call (R.le L1) (rx.append (hd _)) hl hf (fun v d H' L r q => k v d H' (L1.trans L) r q) (fun cls dd x H' L r q => q.elim)
/-- the draw -/
def take3 : F3 := fun ds Q _ => ob (two ds) fun p => ob (asI p.2) fun m => 0 < m ∧ m < 2 ^ 200 ∧ ∀ r, 0 ≤ r → r < m → Q (.int r)
/-- the draw, by values: nothing but the pot changes -/
def spTake : Sp := fun vs H Q _ => ∃ p cc m, vs = [.ref p, .int m] ∧ PotAt p cc H ∧ 0 < m ∧ m < 2 ^ 200 ∧ ∀ r H', 0 ≤ r → r < m → PotAt p cc H' → (∀ a, a ≠ p → a ≠ cc → H' a = H a) → Q (.int r) H'
theorem take_imp {K : PySem.W.Frag} : ∀ vs H Q E, spP K 2 take3 vs H Q E → spTake vs H Q E := by
  intro vs H Q E h
  obtain ⟨p, cc, G, ds, hp, hG, hl, r, Q3, X, hf, hq, hx⟩ := h
  obtain ⟨⟨p', m'⟩, e, hf⟩ := ob_iff.mp hf
  obtain ⟨m, em, h0, h1, hd⟩ := ob_iff.mp hf
  cases asI_is em
  have e := two_is e
  injection e with e1 e2
  subst e2
  obtain ⟨v, w, rfl, rv, rw'⟩ := repL_two r
  cases rv.refI
  cases rw'.intI
  refine ⟨p, cc, m, rfl, hp, h0, h1, fun r H' r0 r1 hp' he => ?_⟩
  have nin : ∀ a, a ∉ (potCf p cc).S0 → a ≠ p ∧ a ≠ cc := fun a ha => ⟨fun z => ha (by rw [z]; exact List.mem_cons_self ..), fun z => ha (by rw [z]; exact List.mem_cons_of_mem _ (List.mem_cons_self ..))⟩
  refine hq _ (.int r) H' hp' (fun a o e => ?_) (fun a ha => ?_) (.int r) (hd r r0 r1)
  · obtain ⟨e1, e2⟩ := hid_some e
    have ha := nin a fun z => e2 (List.mem_append.mpr (.inl z))
    exact hid_mk (by rw [he a ha.1 ha.2]; exact e1) e2
  · have := nin a (hG a ha).2
    exact he a this.1 this.2
/-! ### xs[i] op= e -/
theorem get_list {X : Cx} : PGet X (rIxL X.K) := by
  intro pins s σ H x y v u Q I rx ry h
  obtain ⟨p, xs, i, z, rfl, rfl, hq, he, q⟩ := h
  cases rx
  obtain ⟨t, rfl⟩ := ry
  obtain ⟨its, r, pl, hz⟩ := I.list hq
  obtain ⟨j, h1, h2, h3, h4, h5⟩ := atI_get he
  obtain ⟨w, ew, rw'⟩ := r.get h2
  have hl := r.length
  have hn := line63
  have fin : EP X pins σ Q w s := ⟨z, H, I, rw', q⟩
  by_cases h0 : 0 ≤ i
  · have hj : i.toNat = j := by
      rw [seqIndex_of h0 h5] at h1
      exact Option.some.inj h1
    exact wpAny_getItem_list pl.isList h0 (by omega) (by rw [hj]; simpa using ew) fin
  · have hj : (i + (its.toArray.size : Int)).toNat = j := by
      rw [seqIndex_neg (by omega) h4] at h1
      rw [List.size_toArray, ← hl]
      exact Option.some.inj h1
    exact wpAny_getItem_list_neg pl.isList (by omega) (by rw [List.size_toArray] <;> omega) (by omega) (by rw [hj]; simpa using ew) fin
/-! ### is True, is False -/
section
variable {K : PySem.W.Frag}
def isB3 : T → T → (T → Prop) → Prop := fun x y Q => ob (asB x) fun a => ob (asB y) fun b => Q (.bl (decide (a = b)))
theorem rl_isB : RL2 K rIsB isB3 := by
  intro c x y Q3 hh Hb G A σ3 σ H vx vy Q R rx ry k
  obtain ⟨a, ea, hh1⟩ := ob_iff.mp hh
  obtain ⟨b, eb, q⟩ := ob_iff.mp hh1
  cases asB_is ea
  cases asB_is eb
  exact ⟨a, b, rx.blI, ry.blI, k _ _ H (Le.refl R.inv) (.bl _) q⟩
def toI : T → Option Int
  | .int i => some i
  | .bl b => some (if b then 1 else 0)
  | _ => none
def int13 : List T → (T → Prop) → Prop := fun xs Q => ob (one xs) fun x => ob (toI x) fun i => Q (.int i)
theorem rl_int1 : RLn K (fun xs H Q => (∃ i, xs = [.int i] ∧ Q (.int i) H) ∨ ∃ k, xs = [.bl k] ∧ Q (.int (if k then 1 else 0)) H) int13 := by
  intro c xs Q3 hh Hb G A σ3 σ H vs Q R rx k
  obtain ⟨x, ex, hh1⟩ := ob_iff.mp hh
  obtain ⟨i, ei, q⟩ := ob_iff.mp hh1
  cases one_is ex
  obtain ⟨v, rfl, r⟩ := repL_one rx
  cases x with
  | int i =>
    cases ei
    cases r.intI
    exact .inl ⟨_, rfl, k _ _ H (Le.refl R.inv) (.int _) q⟩
  | bl b =>
    cases ei
    cases r.blI
    exact .inr ⟨b, rfl, k _ _ H (Le.refl R.inv) (.int _) q⟩
  | _ => cases ei
end
end M3

/-! L3K: the rules with the written part told by its own letter (so that a comprehension's block can be read). -/
namespace M3
open PySem L2
section
variable {X : Cx} {K : PySem.W.Frag} {pos : Pos}
theorem ix_listK (h : X.K = K) : IxR X (rIxL K) := h ▸ ix_list
theorem ix_tupK (h : X.K = K) : IxR X (rIxT K) := h ▸ ix_tup
theorem ix_strK (h : X.K = K) : IxR X rIxS := ix_str
theorem call_lenK (h : X.K = K) : CallR X (.builtin "len") (fun xs H Q => ∃ x n, xs = [x] ∧ LenV K x H n ∧ Q (.int n) H) := h ▸ call_len
theorem call_isiK' (h : X.K = K) : CallR X (.builtin "isinstance") (rIsi K) := h ▸ call_isi
theorem cr_allK (h : X.K = K) (hc : X.calm = true) : CallR X (.builtin "all") (rAll K) := h ▸ cr_all hc
theorem cr_anyK (h : X.K = K) (hc : X.calm = true) : CallR X (.builtin "any") (rAny K) := h ▸ cr_any hc
theorem sl_listK (h : X.K = K) : SlR X (rSlL K) := h ▸ sl_list
theorem sl_tupK (h : X.K = K) : SlR X (rSlA K) := h ▸ sl_tupA
theorem sl_strK (h : X.K = K) : SlR X rSlS := sl_str
theorem op_catTK (h : X.K = K) : OpR X (binaryOp .Add) (rCatA K) := h ▸ op_catA
theorem call_tupleK (h : X.K = K) : CallR X (.type "tuple") (fun xs H Q => ∃ p ys, xs = [.ref p] ∧ ((SqL K H p ys ∧ ∀ l, H l = none → Q (.ref l) (upd H l (.tup ys))) ∨ (SqT K H p ys ∧ Q (.ref p) H))) := h ▸ call_tuple_of
theorem call_listK (h : X.K = K) : CallR X (.type "list") (fun xs H Q => ∃ p ys, xs = [.ref p] ∧ (SqL K H p ys ∨ SqT K H p ys) ∧ ∀ l, H l = none → Q (.ref l) (upd H l (.lst ys))) := h ▸ call_list_of
theorem pi_listK {tg l : Expr} {tl : TE} (h : X.K = K) (hl : PE X l tl) : PI X tg l (iList K tl) := h ▸ pi_list hl
theorem pi_tupK {tg l : Expr} {tl : TE} (h : X.K = K) (hl : PE X l tl) : PI X tg l (iTup K tl) := h ▸ pi_tup hl
theorem pi_zipK {e e2 : Expr} {ta : TA} {p tpos : Pos} {elts : List Expr} {kk : Nat} (h : X.K = K) (hg : Gl X "zip") (hm : X.mg "zip" = none) (ha : PA X [e, e2] ta)
    (hs : starEach [e, e2] X.env = (false, eval e X.env) :: starEach [e2] X.env := by rfl) (hpl : (backTo pos (starEach [e2] X.env)).any (·.1) = false := by rfl) :
    PI X (.Tuple elts kk tpos) (.Call (.Name "zip" p) [e, e2] [] pos) (RZ.iZipA K ta) := h ▸ RZ.pi_zipA hg hm ha hs hpl
theorem pi_enumK {e : Expr} {ta : TA} {p tpos : Pos} {elts : List Expr} {kk : Nat} (h : X.K = K) (hg : Gl X "enumerate") (hm : X.mg "enumerate" = none) (ha : PA X [e] ta) (hs : starEach [e] X.env = [(false, eval e X.env)] := by rfl) :
    PI X (.Tuple elts kk tpos) (.Call (.Name "enumerate" p) [e] [] pos) (iEnum K ta) := h ▸ pi_enum hg hm ha hs
theorem pg_tupK {es : List Expr} {k : Nat} {t : TGs} {n : Nat} (h : X.K = K) (hc : X.calm = true) (hp : PGs X es t)
    (hn : (assignEach es X.env).length = n := by rfl) (hst : (assignEach es X.env).findIdx? (·.1) = none := by rfl) : PG X (.Tuple es k pos) (gTup K n t) := h ▸ pg_tup hc hp hn hst
/-- any value's truth, by its tree -/
def tTrK (K : PySem.W.Frag) (ta : TE) : TT := fun σ H Q => ta σ H fun x H' => ∃ k, TruV K x H' k ∧ Q k H'
theorem pt_truthK {a : Expr} {ta : TE} (h : X.K = K) (ha : PE X a ta) (he : ∀ whole, isTrue a X.env whole = (do let v ← whole; standAt a.pos; holding [v] (truthy v))) : PT X a (tTrK K ta) := h ▸ pt_truth ha he
end
section
variable {K : PySem.W.Frag} {c : Cf} {W : WX}
def truT : T → Option Bool
  | .non => some false
  | .bl b => some b
  | .int i => some (i != 0)
  | .str y => if y.length ≤ sizeLine then some ((y.length : Int) != 0) else none
  | .lst xs => some (!xs.isEmpty)
  | .tup xs => some (!xs.isEmpty)
  | _ => none
def truth3 (a : E3) : B3 := fun σ Q X => a σ (fun x => ob (truT x) Q) X
theorem RepL.isEmpty {H : Hp} {vs : List V} {ts : List T} (r : RepL K H vs ts) : vs.isEmpty = ts.isEmpty := by cases r <;> rfl
theorem lift_truth {ta : TE} {a : E3} (ha : Lift K c W ta a) : LiftT K c W (tTrK K ta) (truth3 a) := by
  intro σ3 Q3 X h Hb G A σ H Q R k e
  refine ha _ _ _ h Hb G A σ H _ R (fun vx x H1 L1 rx hx => ?_) e
  obtain ⟨b, hb, q⟩ := ob_iff.mp hx
  refine ⟨b, ?_, k b b H1 L1 rfl q⟩
  cases x with
  | non => cases rx.nonI; cases hb; exact rfl
  | bl i => cases rx.blI; cases hb; exact rfl
  | int i => cases rx.intI; cases hb; exact rfl
  | str y =>
    cases rx.strI
    replace hb : (if y.length ≤ sizeLine then some ((y.length : Int) != 0) else none) = some b := hb
    by_cases hy : y.length ≤ sizeLine
    · rw [if_pos hy] at hb; cases hb; exact ⟨hy, rfl⟩
    · rw [if_neg hy] at hb; cases hb
  | lst xs =>
    obtain ⟨a, vs, rfl, hq, rl⟩ := rx.lstI
    cases hb
    exact .inl ⟨vs, SqL.of (hid_same _ _ hq), by rw [rl.isEmpty]⟩
  | tup xs =>
    obtain ⟨a, vs, rfl, hq, rl⟩ := rx.tupI
    cases hb
    exact .inr (.inl ⟨vs, Same.sqT hid_same hq, by rw [rl.isEmpty]⟩)
  | _ => cases hb
end
end M3

/-! L3L: the law's own body behind the making of its pot; draws by cases. -/
namespace M3
open PySem L2
theorem RepL.rev {K : PySem.W.Frag} {H : Hp} : ∀ {vs : List V} {ts : List T}, RepL K H vs ts → RepL K H vs.reverse ts.reverse
  | _, _, .nil => .nil
  | _, _, .cons r q => by
    rw [List.reverse_cons, List.reverse_cons]
    exact (RepL.rev q).append (.cons r .nil)
/-- the law's promise -/
def spLaw (K : PySem.W.Frag) : Sp := fun vs H Q _ => ∃ (a : Addr) (ns : List Int), vs = [.ref a] ∧ SqL K H a (ns.map V.int) ∧ ∀ H', Q (.bl true) H'
theorem r3_pot {K : PySem.W.Frag} {p cc : Addr} {H : Hp} (m : Nat) (a : Addr) (hp : PotAt p cc H) :
    R3 K (potCf p cc) H [] (List.replicate (m + 2) none) (Sl.no :: Sl.val (.ref p) :: List.replicate m Sl.no) (some (V.ref a) :: some (V.ref p) :: List.replicate m none) H := by
  have hA : addrs (List.replicate (m + 2) (none : Option Addr)) = [] := by
    unfold addrs
    rw [List.filterMap_replicate_of_none rfl]
  refine ⟨hp, ?_, fun a h => (by cases h), (by rw [hA]; exact List.nodup_nil), fun a h => (by rw [hA] at h; cases h), (by simp), (by simp), ?_⟩
  · unfold Cf.S
    rw [hA, List.append_nil]
    exact Same.refl _
  · intro i s o x h1 h2 h3
    have ho : o = none := (List.mem_replicate.mp (List.mem_of_getElem? h2)).2
    subst ho
    match i, h1, h3 with
    | 0, h1, h3 => cases h1; exact rfl
    | 1, h1, h3 => cases h1; cases h3; exact ⟨rfl, _, rfl, .ref p⟩
    | i + 2, h1, h3 =>
      have hs : s = .no := (List.mem_replicate.mp (List.mem_of_getElem? (show (List.replicate m Sl.no)[i]? = some s by simpa using h1))).2
      subst hs
      exact rfl
theorem law_rest {K : PySem.W.Frag} {p cc : Addr} {W : WX} {t : TS} {x : S3} {H : Hp} {Q : VK} {a : Addr} (m : Nat) (lt : LiftS K (potCf p cc) W t x) (hp : PotAt p cc H) (hQ : ∀ H', Q (.bl true) H')
    (hx : x { nx := fun _ => False, rt := fun d => d = .bl true } (Sl.no :: Sl.val (.ref p) :: List.replicate m Sl.no)) : t { nx := fun _ H' => Q .non H', rt := Q } (some (V.ref a) :: some (V.ref p) :: List.replicate m none) H := by
  refine lt _ _ hx H [] _ _ H _ (r3_pot m a hp) ⟨fun _ _ _ _ _ z => z.elim, fun v d H' _ r e => ?_, fun _ _ _ _ _ z => z.elim, fun _ _ _ _ _ z => z.elim, fun _ _ _ _ _ _ _ _ _ z => z.elim⟩
  subst e
  rw [r.blI]
  exact hQ H'
/-! ### draws -/
theorem ob_atI {xs : List T} {r : Int} {Q : T → Prop} (h0 : 0 ≤ r) (h1 : r < xs.length) (h : ∀ x ∈ xs, Q x) : ob (atI xs r) Q := by
  obtain ⟨j, rfl⟩ : ∃ j : Nat, r = (j : Int) := ⟨r.toNat, by omega⟩
  have hj : j < xs.length := by omega
  have e : atI xs (j : Int) = some xs[j] := atI_nat (List.getElem?_eq_getElem hj)
  rw [e]
  exact h _ (List.getElem_mem hj)
/-- a draw of an item by its place -/
theorem draw_all {xs : List T} {n : Int} {Q : T → Prop} (hn : n = xs.length) (h : ∀ x ∈ xs, Q x) : ∀ r : Int, 0 ≤ r → r < n → ob (atI xs r) Q := fun r h0 h1 => ob_atI h0 (by omega) h
/-- a statement by what it makes known, whatever follows -/
theorem seq_by {t u : S3} {N : N3} {σ : List Sl} (M : List Sl → Prop) (h : ∀ nx : List Sl → Prop, (∀ σ', M σ' → nx σ') → t { N with nx := nx } σ) (k : ∀ σ', M σ' → u N σ') : seq3 t u N σ := h (u N) k
theorem loop_name {i : Nat} {tb : S3} {N : N3} (P : List T → List Sl → Prop) (ds : List T) (σ : List Sl) (h : P ds σ) (h0 : ∀ σ, P [] σ → N.nx σ)
    (hs : ∀ x r σ, P (x :: r) σ → ∀ nx : List Sl → Prop, (∀ σ2, P r σ2 → nx σ2) → tb { nx := nx, ct := nx, bk := N.nx, rt := N.rt, xn := N.xn } (σ.set i (.val x))) : loop3 (name3 i) tb N ds σ :=
  loop3_inv P ds σ h h0 (fun x r σ hp => fun nx hn => hs x r σ hp nx hn) (fun d σ Q Q' hq h => hq _ h)
/-- a cut behind a statement: M is what is known there -/
def cut3 (t u : S3) : S3 := fun N σ => ∃ M : List Sl → Prop, t { N with nx := M } σ ∧ ∀ σ', M σ' → u N σ'
theorem lift_cut {K : PySem.W.Frag} {c : Cf} {W : WX} {t u : TS} {x y : S3} (h1 : LiftS K c W t x) (h2 : LiftS K c W u y) : LiftS K c W (tSeq t u) (cut3 x y) := by
  intro N σ3 h Hb G A σ H D R Z
  obtain ⟨M, hx, hy⟩ := h
  exact h1 _ _ hx Hb G A σ H _ R ⟨fun A' σ3' σ' H' R' q => h2 _ _ (hy σ3' q) Hb G A' σ' H' D R' Z, Z.rt, Z.bk, Z.ct, Z.xn⟩
end M3

/-! L3M: in, not in; further operations. -/
namespace M3
open PySem L2
section
variable {X : Cx} {K : PySem.W.Frag}
theorem op_inK (h : X.K = K) : OpR X (compareOp .In) (rIn K false) := h ▸ op_in_seq
theorem op_notInK (h : X.K = K) : OpR X (compareOp .NotIn) (rIn K true) := h ▸ op_notIn_seq
end
section
variable {K : PySem.W.Frag}
/-- flat items as values -/
def flats : List T → Option (List V)
  | [] => some []
  | t :: ts => (flatT t).bind fun v => (flats ts).map (v :: ·)
theorem flat_flat {t : T} {v : V} (h : flatT t = some v) : flatV v = true := by cases t <;> cases h <;> rfl
theorem RepL.flats {H : Hp} : ∀ {vs : List V} {ts : List T} {ws : List V}, RepL K H vs ts → M3.flats ts = some ws → vs = ws ∧ ws.all flatV = true
  | _, [], ws, .nil, h => by cases h; exact ⟨rfl, rfl⟩
  | _, t :: ts, ws, .cons r q, h => by
    have h : (flatT t).bind (fun v => (M3.flats ts).map (v :: ·)) = some ws := h
    cases e : flatT t with
    | none => rw [e] at h; cases h
    | some v =>
      rw [e] at h
      cases e2 : M3.flats ts with
      | none => rw [e2] at h; cases h
      | some l =>
        rw [e2] at h
        cases h
        obtain ⟨h1, h2⟩ := RepL.flats q e2
        rw [r.flat e, h1]
        exact ⟨rfl, by rw [List.all_cons, flat_flat e, h2]; rfl⟩
def in3 (neg : Bool) : T → T → (T → Prop) → Prop := fun x y Q => ob (flatT x) fun v => ob (items y) fun ys => ob (flats ys) fun vs => Q (.bl (if neg then !inV v vs else inV v vs))
theorem rl_in (neg : Bool) : RL2 K (rIn K neg) (in3 neg) := by
  intro c x y Q3 hh Hb G A σ3 σ H vx vy Q R rx ry k
  obtain ⟨v, ev, h1⟩ := ob_iff.mp hh
  obtain ⟨ys, ey, h2⟩ := ob_iff.mp h1
  obtain ⟨vs, es, q⟩ := ob_iff.mp h2
  have e := rx.flat ev
  subst e
  rcases items_cases ey with rfl | rfl
  · obtain ⟨a, ws, rfl, ha, rl⟩ := ry.lstI
    obtain ⟨e1, e2⟩ := rl.flats es
    subst e1
    exact ⟨a, ws, rfl, .inl (SqL.of (hid_same _ _ ha)), flat_flat ev, e2, k _ _ H (Le.refl R.inv) (.bl _) q⟩
  · obtain ⟨a, ws, rfl, ha, rl⟩ := ry.tupI
    obtain ⟨e1, e2⟩ := rl.flats es
    subst e1
    exact ⟨a, ws, rfl, .inr (Same.sqT hid_same ha), flat_flat ev, e2, k _ _ H (Le.refl R.inv) (.bl _) q⟩
end
theorem for_v {i : Nat} {xs : List T} {g : TG3} {tb : S3} {N : N3} {σ : List Sl} (h : slot σ i = some (.lst xs)) (k : loop3 g tb N xs σ) : for3 (iterL3 (v3 i)) g tb N σ := by
  unfold for3 iterL3 v3
  rw [h]
  exact k
theorem for_vT {i : Nat} {xs : List T} {g : TG3} {tb : S3} {N : N3} {σ : List Sl} (h : slot σ i = some (.tup xs)) (k : loop3 g tb N xs σ) : for3 (iterT3 (v3 i)) g tb N σ := by
  unfold for3 iterT3 v3
  rw [h]
  exact k
end M3

namespace Law
open PySem L2 M3
def top (i : Nat) : Stmt := PySem.Challenge.pw_onepour_k03_truths_of_three_kinds.main.body.getD i (.Pass ⟨0, 0, 0, 0⟩)
section
variable {P : Program} {w : World} {K : PySem.W.Frag} {mg : Str → Option Value} {base : Heap}
/-! ### the pot's draw -/
abbrev s_Ltake : Stmt := top 8
theorem sc_Ltake : FnScope ["_law_pot_here", "_law_many", "_law_cell_here"] ["_law_pot_here", "_law_many"] (defScope s_Ltake) := ⟨rfl, rfl, rfl, by decide +kernel, rfl, by decide +kernel, by decide +kernel⟩
theorem ok_Ltake {f : Addr} {fd : FuncData} (F : Fun K "_law_take" "_law_take" s_Ltake f fd) (zlen : mg "len" = none) : FnOk P w K mg base CX0 1 f fd ["_law_pot_here", "_law_many"] spTake := by
  refine F.ok sc_Ltake (fun vs H Q E h => ?_) (fun cdv A outer s H vs Q E hr h => ?_)
  · obtain ⟨p, cc, m, rfl, _⟩ := h
    rfl
  · obtain ⟨p, cc, m, rfl, ⟨cs, i, n, sd, hp, hc, i0, i1, hl, hz, s0, s1⟩, m0, m1, k⟩ := h
    have ne : p ≠ cc := PotAt.ne ⟨cs, i, n, sd, hp, hc, i0, i1, hl, hz, s0, s1⟩
    refine ⟨_, pss_cons (ps_augS (pv 0) pe_int get_list pe_int ip_add set_list)
      (pss_cons (ps_set (i := 2) sc_Ltake.nd rfl (Or.inl rfl) (pe_ix ix_list (pe_ix ix_list (pv 0) pe_int (fun _ _ => rfl)) (pe_ix ix_list (pv 0) pe_int (fun _ _ => rfl)) (fun _ _ => rfl)))
      (pss_cons (ps_if (pt_cmpR op_ge (pv 2) (pe_op op_pow pe_int pe_int) (nomark _))
        (pss_cons (ps_asg (pe_op op_fdivW (pv 2) (pv 1)) (pg_sub (pe_ix ix_list (pv 0) pe_int (fun _ _ => rfl)) (pe_ix ix_list (pv 0) pe_int (fun _ _ => rfl)) set_list))
        (pss_one (ps_ret (pe_op op_mod (pv 2) (pv 1))))) pss_nil)
      (pss_cons (ps_asg (pe_op op_mod (pe_op op_add (pe_ix ix_list (pv 0) pe_int (fun _ _ => rfl)) pe_int) (pe_callB call_len_seq (by rfl) zlen (by decide +kernel) (pa_cons (pe_ix ix_list (pv 0) pe_int (fun _ _ => rfl)) pa_nil))) (pg_sub (pv 0) pe_int set_list))
      (pss_cons (ps_asg (pe_op op_mod (pe_op op_add (pe_op op_add (pe_op op_mul (pe_ix ix_list (pv 0) pe_int (fun _ _ => rfl)) pe_int) (pe_op op_mod (pv 2) pe_int)) (pe_ix ix_list (pv 0) pe_int (fun _ _ => rfl))) pe_int) (pg_sub (pv 0) pe_int set_list))
      (pss_one (ps_ret (pe_op op_mod (pe_op op_fdiv (pe_ix ix_list (pv 0) pe_int (fun _ _ => rfl)) pe_int) (pv 1)))))))), ?_⟩
    refine ⟨_, rfl, p, _, 2, _, rfl, rfl, SqL.of hp, rfl, _, _, rfl, rfl, p, _, 2, 2, rfl, rfl, hp, rfl, ?_⟩
    have hp1 : (upd H p (.lst [.ref cc, .int i, .int (n + 1), .int sd])) p = some (.lst [.ref cc, .int i, .int (n + 1), .int sd]) := upd_same
    have hc1 : (upd H p (.lst [.ref cc, .int i, .int (n + 1), .int sd])) cc = some (.lst (cs.map V.int)) := by rw [upd_ne ne.symm]; exact hc
    obtain ⟨j, hj⟩ : ∃ j : Nat, i = (j : Int) := ⟨i.toNat, by omega⟩
    subst hj
    have hjl : j < cs.length := by omega
    obtain ⟨z, ez⟩ : ∃ z, cs[j]? = some z := ⟨cs[j], List.getElem?_eq_getElem hjl⟩
    have ez' : (cs.map V.int)[j]? = some (V.int z) := by rw [List.getElem?_map, ez]; rfl
    have z0 : 0 ≤ z := hz z (List.mem_of_getElem? ez)
    refine ⟨_, rfl, p, _, 0, _, rfl, rfl, SqL.of hp1, rfl, _, rfl, p, _, 1, _, rfl, rfl, SqL.of hp1, rfl, cc, _, _, _, rfl, rfl, SqL.of hc1, atI_nat ez', ?_⟩
    refine ⟨_, rfl, _, _, rfl, rfl, ⟨by decide, by decide, by decide⟩, _, _, rfl, rfl, _, rfl, ?_⟩
    refine ite2 (fun _ => ?_) (fun _ => ?_)
    · -- a great cell
      refine ⟨_, rfl, _, rfl, _, _, rfl, rfl, wide_div (b := 200) m0 (by omega) (by decide) (by decide), ?_⟩
      refine ⟨_, rfl, p, _, 0, _, rfl, rfl, SqL.of hp1, rfl, _, rfl, p, _, 1, _, rfl, rfl, SqL.of hp1, rfl, cc, _, _, j, rfl, rfl, hc1, ?_, ?_⟩
      · rw [List.length_map]
        unfold ixN
        rw [if_pos (by omega), if_pos (by omega)]
        simp
      refine ⟨_, rfl, _, rfl, _, _, rfl, rfl, m0, ?_⟩
      refine k _ _ (Int.emod_nonneg _ (by omega)) (Int.emod_lt_of_pos _ m0) ⟨cs.set j (z / m), (j : Int), n + 1, sd, ?_, ?_, i0, by rw [List.length_set]; exact i1, by rw [List.length_set]; exact hl, ?_, s0, s1⟩ (fun a h1 h2 => by rw [upd_ne h2, upd_ne h1])
      · rw [upd_ne ne]; exact hp1
      · rw [upd_same, List.map_set]
      · intro y hy
        rcases List.mem_or_eq_of_mem_set hy with hy | hy
        · exact hz y hy
        · rw [hy]; exact Int.ediv_nonneg z0 (by omega)
    · -- a small one
      have hcl : (0 : Int) < (cs.map V.int).length := by rw [List.length_map]; omega
      refine ⟨_, rfl, p, _, 1, _, rfl, rfl, SqL.of hp1, rfl, _, _, rfl, rfl, _, rfl, p, _, 0, _, rfl, rfl, SqL.of hp1, rfl, cc, _, rfl, .inl (SqL.of hc1), _, _, rfl, rfl, hcl, ?_⟩
      refine ⟨_, rfl, p, _, 1, 1, rfl, rfl, hp1, rfl, ?_⟩
      have hp2 : (upd (upd H p (.lst [.ref cc, .int (j : Int), .int (n + 1), .int sd])) p (.lst [.ref cc, .int (((j : Int) + 1) % ((cs.map V.int).length : Int)), .int (n + 1), .int sd])) p = some (.lst [.ref cc, .int (((j : Int) + 1) % ((cs.map V.int).length : Int)), .int (n + 1), .int sd]) := upd_same
      refine ⟨_, rfl, p, _, 3, _, rfl, rfl, SqL.of hp2, rfl, _, _, rfl, rfl, .inr ⟨by decide, by decide⟩, _, rfl, _, _, rfl, rfl, (by show (0 : Int) < 2147483647; decide), _, _, rfl, rfl, _, rfl, p, _, 2, _, rfl, rfl, SqL.of hp2, rfl, _, _, rfl, rfl, _, _, rfl, rfl, (by show (0 : Int) < 2147483647; decide), ?_⟩
      refine ⟨_, rfl, p, _, 3, 3, rfl, rfl, hp2, rfl, ?_⟩
      refine ⟨_, rfl, p, _, 3, _, rfl, rfl, SqL.of upd_same, rfl, _, _, rfl, rfl, ⟨by decide, by decide⟩, _, rfl, _, _, rfl, rfl, m0, ?_⟩
      refine k _ _ (Int.emod_nonneg _ (by omega)) (Int.emod_lt_of_pos _ m0) ⟨cs, _, n + 1, _, upd_same, ?_, ?_, ?_, hl, hz, ?_, ?_⟩ (fun a h1 h2 => by rw [upd_ne h1, upd_ne h1, upd_ne h1])
      · rw [upd_ne ne.symm, upd_ne ne.symm]; exact hc1
      · exact Int.emod_nonneg _ (by omega)
      · rw [List.length_map]; exact Int.emod_lt_of_pos _ (by omega)
      · exact Int.emod_nonneg _ (by omega)
      · exact Int.emod_lt_of_pos _ (by omega)
def spPot (K : PySem.W.Frag) : Sp := fun vs H Q _ => ∃ (a : Addr) (ns : List Int), vs = [.ref a] ∧ SqL K H a (ns.map V.int) ∧ ∀ p cc H', H p = none → H cc = none → PotAt p cc H' → Same H H' → Q (.ref p) H'
abbrev s_Lpot : Stmt := top 7
theorem sc_Lpot : FnScope ["_law_script", "_law_cells", "_law_cell_here"] ["_law_script"] (defScope s_Lpot) := ⟨rfl, rfl, rfl, by decide +kernel, rfl, by decide +kernel, by decide +kernel⟩
theorem ok_Lpot {f : Addr} {fd : FuncData} (F : Fun K "_law_pot" "_law_pot" s_Lpot f fd) (zabs : mg "abs" = none) : FnOk P w K mg base CX0 1 f fd ["_law_script"] (spPot K) := by
  refine F.ok sc_Lpot (fun vs H Q E h => ?_) (fun cdv A outer s H vs Q E hr h => ?_)
  · obtain ⟨a, ns, rfl, _⟩ := h
    rfl
  · obtain ⟨a, ns, rfl, hS, k⟩ := h
    refine ⟨_, pss_cons (ps_setLc (i := 1) (own := [("_law_cell_here", 2)]) (by rfl) sc_Lpot.nd rfl rfl (sw_true rfl rfl rfl (by decide +kernel)) (pi_list (pe_slice sl_list (pv 0) po_none (po_some pe_int))) (blkOk_by (own := [("_law_cell_here", 2)]) (N := ["_law_script", "_law_cells", "_law_cell_here"]) (sc := defScope s_Lpot) (by decide +kernel)) (fun _ _ _ _ _ => (pg_name (i := 2) sc_Lpot.nd rfl (Or.inl rfl))) (fun _ _ _ _ _ => pts_nil) (fun _ _ _ _ _ => (pe_callB call_abs (by rfl) zabs (by decide +kernel) (pa_cons (pv 2) pa_nil))))
      (pss_cons (ps_if (pt_not (pt_truth (pv 1) (by intro _; rfl))) (pss_one (ps_set (i := 1) sc_Lpot.nd rfl (Or.inl rfl) (pe_lst (pa_cons pe_int pa_nil)))) pss_nil)
      (pss_one (ps_ret (pe_lst (pa_cons (pv 1) (pa_cons pe_int (pa_cons pe_int (pa_cons pe_int pa_nil)))))))), ?_⟩
    obtain ⟨ms, ems, lms⟩ : ∃ ms : List Int, cutV (ns.map V.int) none (some 63) = ms.map V.int ∧ ms.length ≤ 63 := by
      refine ⟨(ns.drop (HT.sIx (ns.map V.int).length 0 none)).take (HT.sIx (ns.map V.int).length (ns.map V.int).length (some 63) - HT.sIx (ns.map V.int).length 0 none), ?_, ?_⟩
      · unfold cutV
        rw [List.map_take, List.map_drop]
      · rw [List.length_take]
        have h1 := HT.sIx_nat (ns.map V.int).length (ns.map V.int).length 63
        have h2 : HT.sIx (ns.map V.int).length (ns.map V.int).length (some 63) = min 63 (ns.map V.int).length := h1
        omega
    refine ⟨_, rfl, 63, rfl, a, _, rfl, hS, fun q hq => ?_⟩
    rw [ems]
    refine ⟨q, rfl, ⟨_, SqL.of upd_same⟩, fun D hD => ?_⟩
    have nqD : q ≠ D := ne_of_none upd_same hD
    have s1 : Same H (upd H q (.lst (ms.map V.int))) := fun b o e => by rw [upd_ne (ne_of_none e hq)]; exact e
    have hD0 : H D = none := s1.free hD
    refine lc_list (K := K) (a := q) (xs := ms.map V.int) (fun i H2 => Same H H2 ∧ H2 q = some (.lst (ms.map V.int)) ∧ ∃ as : List Int, H2 D = some (.lst (as.map V.int)) ∧ as.length = i ∧ ∀ z ∈ as, 0 ≤ z) ?_ ?_ ?_ ?_
    · refine ⟨fun b o e => by rw [upd_ne (ne_of_none e hD0)]; exact s1 b o e, by rw [upd_ne nqD]; exact upd_same, [], upd_same, rfl, fun z hz => by cases hz⟩
    · rintro i H2 _ ⟨_, h2, _⟩
      exact SqL.of h2
    · rintro i x H2 hx ⟨s2, h2, as, hd, hl, hz⟩
      have hil : i < (ms.map V.int).length := (List.getElem?_eq_some_iff.mp hx).1
      rw [List.length_map] at hil
      obtain ⟨z, rfl⟩ : ∃ z, x = V.int z := by
        rw [List.getElem?_map] at hx
        cases e : ms[i]? with
        | none => rw [e] at hx; cases hx
        | some z => rw [e] at hx; exact ⟨z, (Option.some.inj hx).symm⟩
      refine ⟨rfl, ?_⟩
      unfold tYes
      refine iteT ?_
      refine ⟨_, rfl, z, rfl, as.map V.int, hd, ?_, ?_⟩
      · rw [List.length_map]
        exact small1000 (by omega)
      · refine ⟨fun b o e => by rw [upd_ne (ne_of_none e hD0)]; exact s2 b o e, by rw [upd_ne nqD]; exact h2, as ++ [if z < 0 then -z else z], by rw [upd_same, List.map_append]; rfl, by rw [List.length_append, hl]; rfl, fun y hy => ?_⟩
        rcases List.mem_append.mp hy with hy | hy
        · exact hz y hy
        · rw [List.mem_singleton.mp hy]
          split <;> omega
    · rintro H2 ⟨s2, h2, as, hd, hl, hz⟩
      rw [List.length_map] at hl
      have fin : ∀ (cc : Addr) (cs : List Int) (H3 : Hp), H cc = none → H3 cc = some (.lst (cs.map V.int)) → Same H H3 → 0 < cs.length → cs.length ≤ 1000 → (∀ z ∈ cs, 0 ≤ z) →
          tRet (tLst (tCons (tVar 1) (tCons (tC (V.int 0)) (tCons (tC (V.int 0)) (tCons (tC (V.int 7)) tNil))))) { nx := fun _ H' => Q .non H', rt := Q } [some (.ref a), some (.ref cc), none] H3 := by
        intro cc cs H3 hcc h3 s3 l0 l1 z0
        refine ⟨_, rfl, (by show 4 ≤ sizeLine; decide), fun p hp => ?_⟩
        have npc : cc ≠ p := ne_of_none h3 hp
        refine k p cc _ (s3.free hp) hcc ⟨cs, 0, 0, 7, upd_same, by rw [upd_ne npc]; exact h3, by decide, by omega, l1, z0, by decide, by decide⟩ (fun b o e => by rw [upd_ne (ne_of_none (s3 b o e) hp)]; exact s3 b o e)
      refine ⟨_, rfl, _, .inl ⟨_, SqL.of hd, rfl⟩, ?_⟩
      cases as with
      | nil =>
        refine iteT ?_
        refine ⟨(by show 1 ≤ sizeLine; decide), fun c2 hc2 => ?_⟩
        exact fin c2 [0] _ (s2.free hc2) upd_same (fun b o e => by rw [upd_ne (ne_of_none (s2 b o e) hc2)]; exact s2 b o e) (by decide) (by decide) (by intro z h; rw [List.mem_singleton.mp h]; decide)
      | cons z as =>
        refine iteF ?_
        exact fin D (z :: as) H2 hD0 hd s2 (by simp) (by omega) hz
end
/-! ### the law's own comparison -/
mutual
def sameT : T → T → Bool
  | f, .non => isNon f
  | f, .bl b => match f with | .bl a => decide (a = b) | _ => false
  | f, .int j => match f with | .int i => decide (i = j) | _ => false
  | f, .str y => match f with | .str x => decide (x = y) | _ => false
  | f, .lst ys => match f with | .lst xs => sameL xs ys | _ => false
  | f, .tup ys => match f with | .tup xs => sameL xs ys | _ => false
  | _, _ => false
def sameL : List T → List T → Bool
  | [], [] => true
  | x :: xs, y :: ys => sameT x y && sameL xs ys
  | _, _ => false
end
mutual
def plain : T → Bool
  | .non => true
  | .bl _ => true
  | .int _ => true
  | .str _ => true
  | .lst xs => decide (xs.length < 100000) && plainL xs
  | .tup xs => decide (xs.length < 100000) && plainL xs
  | _ => false
def plainL : List T → Bool
  | [] => true
  | x :: xs => plain x && plainL xs
end
mutual
def dep : T → Nat
  | .lst xs => depL xs + 1
  | .tup xs => depL xs + 1
  | _ => 0
def depL : List T → Nat
  | [] => 0
  | x :: xs => max (dep x) (depL xs)
end
@[simp] theorem plain_non : plain .non = true := by simp [plain]
@[simp] theorem plain_bl (b : Bool) : plain (.bl b) = true := by simp [plain]
@[simp] theorem plain_int (b : Int) : plain (.int b) = true := by simp [plain]
@[simp] theorem plain_str (b : Str) : plain (.str b) = true := by simp [plain]
@[simp] theorem plain_lst (b : List T) : plain (.lst b) = (decide (b.length < 100000) && plainL b) := by simp [plain]
@[simp] theorem plain_tup (b : List T) : plain (.tup b) = (decide (b.length < 100000) && plainL b) := by simp [plain]
@[simp] theorem plainL_nil : plainL [] = true := by simp [plainL]
@[simp] theorem plainL_cons (x : T) (xs : List T) : plainL (x :: xs) = (plain x && plainL xs) := by simp [plainL]
@[simp] theorem dep_non : dep .non = 0 := by simp [dep]
@[simp] theorem dep_bl (b : Bool) : dep (.bl b) = 0 := by simp [dep]
@[simp] theorem dep_int (b : Int) : dep (.int b) = 0 := by simp [dep]
@[simp] theorem dep_str (b : Str) : dep (.str b) = 0 := by simp [dep]
@[simp] theorem dep_lst (b : List T) : dep (.lst b) = depL b + 1 := by simp [dep]
@[simp] theorem dep_tup (b : List T) : dep (.tup b) = depL b + 1 := by simp [dep]
@[simp] theorem depL_nil : depL [] = 0 := by simp [depL]
@[simp] theorem depL_cons (x : T) (xs : List T) : depL (x :: xs) = max (dep x) (depL xs) := by simp [depL]
@[simp] theorem same_bl (a b : Bool) : sameT (.bl a) (.bl b) = decide (a = b) := by simp [sameT]
@[simp] theorem same_int (a b : Int) : sameT (.int a) (.int b) = decide (a = b) := by simp [sameT]
@[simp] theorem same_str (a b : Str) : sameT (.str a) (.str b) = decide (a = b) := by simp [sameT]
@[simp] theorem same_non (a : T) : sameT a .non = isNon a := by simp [sameT]
@[simp] theorem same_lst (a b : List T) : sameT (.lst a) (.lst b) = sameL a b := by simp [sameT]
@[simp] theorem same_tup (a b : List T) : sameT (.tup a) (.tup b) = sameL a b := by simp [sameT]
@[simp] theorem sameL_nil : sameL [] [] = true := by simp [sameL]
@[simp] theorem sameL_cons (x y : T) (xs ys : List T) : sameL (x :: xs) (y :: ys) = (sameT x y && sameL xs ys) := by simp [sameL]
mutual
theorem sameT_refl : ∀ t : T, plain t = true → sameT t t = true
  | .non, _ => rfl
  | .bl b, _ => by simp [sameT]
  | .int b, _ => by simp [sameT]
  | .str b, _ => by simp [sameT]
  | .lst xs, h => by simp only [plain, Bool.and_eq_true] at h; simp only [sameT]; exact sameL_refl xs h.2
  | .tup xs, h => by simp only [plain, Bool.and_eq_true] at h; simp only [sameT]; exact sameL_refl xs h.2
  | .ty _, h => by simp [plain] at h
  | .ref _, h => by simp [plain] at h
  | .dic _, h => by simp [plain] at h
  | .ins _ _, h => by simp [plain] at h
theorem sameL_refl : ∀ ts : List T, plainL ts = true → sameL ts ts = true
  | [], _ => rfl
  | t :: ts, h => by
    simp only [plainL, Bool.and_eq_true] at h
    simp only [sameL, Bool.and_eq_true]
    exact ⟨sameT_refl t h.1, sameL_refl ts h.2⟩
end
theorem sameL_len : ∀ xs ys : List T, sameL xs ys = true → xs.length = ys.length
  | [], [], _ => rfl
  | x :: xs, y :: ys, h => by
    simp only [sameL, Bool.and_eq_true] at h
    simp [sameL_len xs ys h.2]
  | [], _ :: _, h => by simp [sameL] at h
  | _ :: _, [], h => by simp [sameL] at h
def sameBs : List T → List T → List Bool
  | x :: xs, y :: ys => sameT x y :: sameBs xs ys
  | _, _ => []
theorem sameBs_all : ∀ xs ys : List T, xs.length = ys.length → (sameBs xs ys).all id = sameL xs ys
  | [], [], _ => rfl
  | x :: xs, y :: ys, h => by
    simp only [sameBs, sameL, List.all_cons, id]
    rw [← sameBs_all xs ys (by simpa using h)]
  | [], _ :: _, h => by simp at h
  | _ :: _, [], h => by simp at h
def same3 (n : Nat) : F3 := fun ds Q _ => ob (two ds) fun p => plain p.1 = true ∧ plain p.2 = true ∧ dep p.2 < n ∧ Q (.bl (sameT p.1 p.2))
theorem fnOk_false {P : Program} {w : World} {K : PySem.W.Frag} {mg : Str → Option Value} {base : Heap} {CX : CXT} {k : Nat} {f : Addr} {fd : FuncData} {ps : List Str} {sp : Sp} (h : ∀ vs H Q E, ¬ sp vs H Q E) : FnOk P w K mg base CX k f fd ps sp :=
  ⟨fun vs H Q E z => (h vs H Q E z).elim, fun A outer s H args us vs Q E _ _ _ _ z => (h vs H Q E z).elim⟩
abbrev s_Lsame : Stmt := top 9
theorem sc_Lsame : FnScope ["_law_found", "_law_due", "_law_one", "_law_other"] ["_law_found", "_law_due"] (defScope s_Lsame) := ⟨rfl, rfl, rfl, by decide +kernel, rfl, by decide +kernel, by decide +kernel⟩
theorem tynP {t : T} (h : plain t = true) : ∃ n, tyn t = some n := by
  cases t with
  | ty n => simp [plain] at h
  | ref n => simp [plain] at h
  | ins n => simp [plain] at h
  | dic n => exact ⟨_, rfl⟩
  | _ => exact ⟨_, rfl⟩
/-- the turns of the comparison's comprehension -/
theorem same_comp {n : Nat} {σ : List Sl} {X : X3} {Q : List T → Prop} : ∀ (xs ys : List T) (acc : List T), plainL xs = true → plainL ys = true → depL ys < n → acc.length + xs.length < sizeLine → xs.length = ys.length → σ.length = 4 →
    Q (acc ++ (sameBs xs ys).map T.bl) → comp3 (gtup3 2 (gcons3 (name3 2) (gcons3 (name3 3) gnil3))) yes3 (fn30 2 (same3 n) (cons3 (v3 2) (cons3 (v3 3) nil3)) []) σ X Q (pairT xs ys) acc
  | [], [], acc, _, _, _, _, _, _, h => by simpa [pairT, sameBs, comp3] using h
  | x :: xs, y :: ys, acc, h1, h2, h3, h4, h5, hσ, h => by
    simp only [plainL, Bool.and_eq_true] at h1 h2
    simp only [depL] at h3
    match σ, hσ with
    | [a, b, c, d], _ =>
      refine ⟨rfl, ?_⟩
      dsimp only [yes3, gcons3, gnil3, name3]
      rw [if_pos rfl]
      refine ⟨rfl, h1.1, h2.1, (by show dep y < n; omega), by simp at h4; omega, ?_⟩
      refine same_comp xs ys _ h1.2 h2.2 (by omega) (by simp at h4 ⊢; omega) (by simpa using h5) rfl ?_
      simpa [sameBs] using h
  | [], _ :: _, _, _, _, _, _, h, _, _ => by simp at h
  | _ :: _, [], _, _, _, _, _, h, _, _ => by simp at h
section
variable {P : Program} {w : World} {K : PySem.W.Frag} {mg : Str → Option Value} {base : Heap}
theorem ok_Lsame1 {n : Nat} {f : Addr} {fd : FuncData} (F : Fun K "_law_same" "_law_same" s_Lsame f fd) (zb_all : mg "all" = none) (zb_bool : mg "bool" = none) (zb_int : mg "int" = none) (zb_isinstance : mg "isinstance" = none) (zb_len : mg "len" = none) (zb_list : mg "list" = none) (zb_str : mg "str" = none) (zb_tuple : mg "tuple" = none) (zb_zip : mg "zip" = none) (c__law_same_2 : Cl P w K mg base CX0 "_law_same" n [] (sp3 K 2 (same3 n))) :
    FnOk P w K mg base CX0 (n + 1) f fd ["_law_found", "_law_due"] (sp3 K 2 (same3 (n + 1))) := by
  refine F.ok sc_Lsame (sp3_len rfl) (fun cdv A outer s H vs Q E hr h => ?_)
  refine ⟨_, (pss_cons (ps_if (pt_cmpR op_isN (pv 1) pe_non (nomark _)) (pss_one (ps_ret (pe_cmpR op_isN (pv 0) pe_non (nomark _)))) pss_nil)
      (pss_cons (ps_if (pt_val (pe_callB (call_isiK' (K := K) rfl) (by rfl) zb_isinstance (by decide +kernel) (pa_cons (pv 1) (pa_cons (pe_bltn (v := .ty "bool") (by rfl) zb_bool (by decide +kernel) rfl) pa_nil)))) (pss_one (ps_ret (pe_and (pe_callB (call_isiK' (K := K) rfl) (by rfl) zb_isinstance (by decide +kernel) (pa_cons (pv 0) (pa_cons (pe_bltn (v := .ty "bool") (by rfl) zb_bool (by decide +kernel) rfl) pa_nil))) (pe_one (pe_cmpR op_eq (pv 0) (pv 1) (nomark _)))))) pss_nil)
      (pss_cons (ps_if (pt_val (pe_callB (call_isiK' (K := K) rfl) (by rfl) zb_isinstance (by decide +kernel) (pa_cons (pv 1) (pa_cons (pe_bltn (v := .ty "int") (by rfl) zb_int (by decide +kernel) rfl) pa_nil)))) (pss_one (ps_ret (pe_and (pe_callB (call_isiK' (K := K) rfl) (by rfl) zb_isinstance (by decide +kernel) (pa_cons (pv 0) (pa_cons (pe_bltn (v := .ty "int") (by rfl) zb_int (by decide +kernel) rfl) pa_nil))) (pe_and (pe_not (pe_callB (call_isiK' (K := K) rfl) (by rfl) zb_isinstance (by decide +kernel) (pa_cons (pv 0) (pa_cons (pe_bltn (v := .ty "bool") (by rfl) zb_bool (by decide +kernel) rfl) pa_nil)))) (pe_one (pe_cmpR op_eq (pv 0) (pv 1) (nomark _))))))) pss_nil)
      (pss_cons (ps_if (pt_val (pe_callB (call_isiK' (K := K) rfl) (by rfl) zb_isinstance (by decide +kernel) (pa_cons (pv 1) (pa_cons (pe_bltn (v := .ty "str") (by rfl) zb_str (by decide +kernel) rfl) pa_nil)))) (pss_one (ps_ret (pe_and (pe_callB (call_isiK' (K := K) rfl) (by rfl) zb_isinstance (by decide +kernel) (pa_cons (pv 0) (pa_cons (pe_bltn (v := .ty "str") (by rfl) zb_str (by decide +kernel) rfl) pa_nil))) (pe_one (pe_cmpR op_eq (pv 0) (pv 1) (nomark _)))))) pss_nil)
      (pss_cons (ps_if (pt_val (pe_callB (call_isiK' (K := K) rfl) (by rfl) zb_isinstance (by decide +kernel) (pa_cons (pv 1) (pa_cons (pe_bltn (v := .ty "list") (by rfl) zb_list (by decide +kernel) rfl) pa_nil)))) (pss_one (ps_if (PW.pt (pw_or (pt_not (pt_val (pe_callB (call_isiK' (K := K) rfl) (by rfl) zb_isinstance (by decide +kernel) (pa_cons (pv 0) (pa_cons (pe_bltn (v := .ty "list") (by rfl) zb_list (by decide +kernel) rfl) pa_nil))))) (pw_or1 (pt_cmpR op_ne (pe_callB (call_lenK (K := K) rfl) (by rfl) zb_len (by decide +kernel) (pa_cons (pv 0) pa_nil)) (pe_callB (call_lenK (K := K) rfl) (by rfl) zb_len (by decide +kernel) (pa_cons (pv 1) pa_nil)) (nomark _))))) (pss_one (ps_ret pe_bl)) pss_nil)) (pss_one (ps_if (PW.pt (pw_or (pt_not (pt_val (pe_callB (call_isiK' (K := K) rfl) (by rfl) zb_isinstance (by decide +kernel) (pa_cons (pv 0) (pa_cons (pe_bltn (v := .ty "tuple") (by rfl) zb_tuple (by decide +kernel) rfl) pa_nil))))) (pw_or1 (pt_cmpR op_ne (pe_callB (call_lenK (K := K) rfl) (by rfl) zb_len (by decide +kernel) (pa_cons (pv 0) pa_nil)) (pe_callB (call_lenK (K := K) rfl) (by rfl) zb_len (by decide +kernel) (pa_cons (pv 1) pa_nil)) (nomark _))))) (pss_one (ps_ret pe_bl)) pss_nil)))
      (pss_one (ps_ret (pe_callB (cr_allK (K := K) rfl rfl) (by rfl) zb_all (by decide +kernel) (pa_cons (pe_lc (own := [("_law_one", 2), ("_law_other", 3)]) (g := (gTup K 2 (gCons (gName 2) (gCons (gName 3) gNil)))) (by rfl) sc_Lsame.nd (pi_zipK (K := K) rfl (by rfl) zb_zip (pa_cons (pv 0) (pa_cons (pv 1) pa_nil))) (blkOk_by (own := [("_law_one", 2), ("_law_other", 3)]) (N := ["_law_found", "_law_due", "_law_one", "_law_other"]) (sc := defScope s_Lsame) (by decide +kernel)) (fun _ _ _ _ _ => (pg_tupK (K := K) rfl rfl (pgs_cons (pg_name (i := 2) sc_Lsame.nd rfl (Or.inl rfl) (Or.inr rfl)) (pgs_cons (pg_name (i := 3) sc_Lsame.nd rfl (Or.inl rfl) (Or.inr rfl)) pgs_nil)))) (fun _ _ _ _ _ => pts_nil) (fun _ _ _ _ _ => (pe_cl c__law_same_2 (hr.mono (by omega)) (by rfl) pass0 (pa_cons (pv 2) (pa_cons (pv 3) pa_nil))))) pa_nil))))))))), ?_⟩
  have hWW : ∀ (cls : Value) (dd : Option Addr) (σ σ' : St) (H : Hp), (fun (cls : Value) (dd : Option Addr) (_ : St) (H : Hp) => E cls dd H) cls dd σ H → (fun (cls : Value) (dd : Option Addr) (_ : St) (H : Hp) => E cls dd H) cls dd σ' H := fun _ _ _ _ _ z => z
  refine body3 (W := fun cls dd _ H => E cls dd H) h (fun _ _ _ _ z => z) (lift_seq (lift_ifs (lift_tst (lift_op rl_isN (lift_v 1) lift_non)) (lift_ret (lift_op rl_isN (lift_v 0) lift_non)) lift_next)
      (lift_seq (lift_ifs (lift_tB (lift_cb rl_isi (lift_cons (lift_v 1) (lift_cons (lift_ty _) lift_nil)))) (lift_ret (lift_andV (lift_cb rl_isi (lift_cons (lift_v 0) (lift_cons (lift_ty _) lift_nil))) (lift_op rl_eqS (lift_v 0) (lift_v 1)))) lift_next)
      (lift_seq (lift_ifs (lift_tB (lift_cb rl_isi (lift_cons (lift_v 1) (lift_cons (lift_ty _) lift_nil)))) (lift_ret (lift_andV (lift_cb rl_isi (lift_cons (lift_v 0) (lift_cons (lift_ty _) lift_nil))) (lift_andV (lift_notV (lift_cb rl_isi (lift_cons (lift_v 0) (lift_cons (lift_ty _) lift_nil)))) (lift_op rl_eqS (lift_v 0) (lift_v 1))))) lift_next)
      (lift_seq (lift_ifs (lift_tB (lift_cb rl_isi (lift_cons (lift_v 1) (lift_cons (lift_ty _) lift_nil)))) (lift_ret (lift_andV (lift_cb rl_isi (lift_cons (lift_v 0) (lift_cons (lift_ty _) lift_nil))) (lift_op rl_eqS (lift_v 0) (lift_v 1)))) lift_next)
      (lift_seq (lift_ifs (lift_tB (lift_cb rl_isi (lift_cons (lift_v 1) (lift_cons (lift_ty _) lift_nil)))) (lift_ifs (lift_or (lift_not (lift_tB (lift_cb rl_isi (lift_cons (lift_v 0) (lift_cons (lift_ty _) lift_nil))))) (lift_tst (lift_op rl_neS (lift_cb rl_len (lift_cons (lift_v 0) lift_nil)) (lift_cb rl_len (lift_cons (lift_v 1) lift_nil))))) (lift_ret (lift_bl _)) lift_next) (lift_ifs (lift_or (lift_not (lift_tB (lift_cb rl_isi (lift_cons (lift_v 0) (lift_cons (lift_ty _) lift_nil))))) (lift_tst (lift_op rl_neS (lift_cb rl_len (lift_cons (lift_v 0) lift_nil)) (lift_cb rl_len (lift_cons (lift_v 1) lift_nil))))) (lift_ret (lift_bl _)) lift_next))
      (lift_ret (lift_cb rl_all (lift_cons (lift_lc (vs := [2, 3]) (lift_iZ (lift_cons (lift_v 0) (lift_cons (lift_v 1) lift_nil))) (lift_gtup (lift_gcons (lift_name 2 (by decide)) (lift_gcons (lift_name 3 (by decide)) lift_gnil))) lift_yes (lift_call0 (lift_cons (lift_v 2) (lift_cons (lift_v 3) lift_nil)) (fun _ => .nil)) hWW) lift_nil)))))))) ?_
  intro ds Q3 X hl hf
  obtain ⟨⟨fo, du⟩, e2, p1, p2, hd, q⟩ := ob_iff.mp hf
  cases two_is e2
  clear hf
  clear hWW h hr
  have neI : ∀ a b : Nat, decide (V.int (a : Int) = V.int (b : Int)) = decide (a = b) := fun a b => by
    by_cases e : a = b
    · subst e; simp
    · rw [decide_eq_false e, decide_eq_false]
      intro z
      injection z with z
      omega
  cases du with
  | non => simpa [seq3, next3, ret3, retN3, ifs3, drop3, asg3, name3, tst3, and3, or3, not3, andV3, orV3, notV3, if3, v3, k3, op3, un3, nil3, cons3, call3, tup3, lst3, chain3, fn30, fn3, fnN30, fnN3, fnP30, i2, i2c, i1, isN3, notN3, eqS3, neS3, ixL3, ixT3, len3, all3, any3, abs3, max23, min23, isi3, isB3, truth3, start3, slot, flatT, scal, tyn, isNon, lenT, truT, isiB, Option.bind, take3, kb_non_bool, kb_non_int, kb_non_str, kb_non_list, kb_non_tuple, kb_bool_bool, kb_bool_int, kb_bool_str, kb_bool_list, kb_bool_tuple, kb_int_bool, kb_int_int, kb_int_str, kb_int_list, kb_int_tuple, kb_str_bool, kb_str_int, kb_str_str, kb_str_list, kb_str_tuple, kb_list_bool, kb_list_int, kb_list_str, kb_list_list, kb_list_tuple, kb_tuple_bool, kb_tuple_int, kb_tuple_str, kb_tuple_list, kb_tuple_tuple, sameT] using q
  | bl b => cases fo <;> simp [plain] at p1 <;> simpa [seq3, next3, ret3, retN3, ifs3, drop3, asg3, name3, tst3, and3, or3, not3, andV3, orV3, notV3, if3, v3, k3, op3, un3, nil3, cons3, call3, tup3, lst3, chain3, fn30, fn3, fnN30, fnN3, fnP30, i2, i2c, i1, isN3, notN3, eqS3, neS3, ixL3, ixT3, len3, all3, any3, abs3, max23, min23, isi3, isB3, truth3, start3, slot, flatT, scal, tyn, isNon, lenT, truT, isiB, Option.bind, take3, kb_non_bool, kb_non_int, kb_non_str, kb_non_list, kb_non_tuple, kb_bool_bool, kb_bool_int, kb_bool_str, kb_bool_list, kb_bool_tuple, kb_int_bool, kb_int_int, kb_int_str, kb_int_list, kb_int_tuple, kb_str_bool, kb_str_int, kb_str_str, kb_str_list, kb_str_tuple, kb_list_bool, kb_list_int, kb_list_str, kb_list_list, kb_list_tuple, kb_tuple_bool, kb_tuple_int, kb_tuple_str, kb_tuple_list, kb_tuple_tuple, sameT] using q
  | int j => cases fo <;> simp [plain] at p1 <;> simpa [seq3, next3, ret3, retN3, ifs3, drop3, asg3, name3, tst3, and3, or3, not3, andV3, orV3, notV3, if3, v3, k3, op3, un3, nil3, cons3, call3, tup3, lst3, chain3, fn30, fn3, fnN30, fnN3, fnP30, i2, i2c, i1, isN3, notN3, eqS3, neS3, ixL3, ixT3, len3, all3, any3, abs3, max23, min23, isi3, isB3, truth3, start3, slot, flatT, scal, tyn, isNon, lenT, truT, isiB, Option.bind, take3, kb_non_bool, kb_non_int, kb_non_str, kb_non_list, kb_non_tuple, kb_bool_bool, kb_bool_int, kb_bool_str, kb_bool_list, kb_bool_tuple, kb_int_bool, kb_int_int, kb_int_str, kb_int_list, kb_int_tuple, kb_str_bool, kb_str_int, kb_str_str, kb_str_list, kb_str_tuple, kb_list_bool, kb_list_int, kb_list_str, kb_list_list, kb_list_tuple, kb_tuple_bool, kb_tuple_int, kb_tuple_str, kb_tuple_list, kb_tuple_tuple, sameT] using q
  | str y => cases fo <;> simp [plain] at p1 <;> simpa [seq3, next3, ret3, retN3, ifs3, drop3, asg3, name3, tst3, and3, or3, not3, andV3, orV3, notV3, if3, v3, k3, op3, un3, nil3, cons3, call3, tup3, lst3, chain3, fn30, fn3, fnN30, fnN3, fnP30, i2, i2c, i1, isN3, notN3, eqS3, neS3, ixL3, ixT3, len3, all3, any3, abs3, max23, min23, isi3, isB3, truth3, start3, slot, flatT, scal, tyn, isNon, lenT, truT, isiB, Option.bind, take3, kb_non_bool, kb_non_int, kb_non_str, kb_non_list, kb_non_tuple, kb_bool_bool, kb_bool_int, kb_bool_str, kb_bool_list, kb_bool_tuple, kb_int_bool, kb_int_int, kb_int_str, kb_int_list, kb_int_tuple, kb_str_bool, kb_str_int, kb_str_str, kb_str_list, kb_str_tuple, kb_list_bool, kb_list_int, kb_list_str, kb_list_list, kb_list_tuple, kb_tuple_bool, kb_tuple_int, kb_tuple_str, kb_tuple_list, kb_tuple_tuple, sameT] using q
  | lst ys =>
    simp only [plain, Bool.and_eq_true, decide_eq_true_eq] at p2
    cases fo with
    | lst xs =>
      simp only [plain, Bool.and_eq_true, decide_eq_true_eq] at p1
      by_cases hl : xs.length = ys.length
      · have hc := same_comp (n := n) (σ := [Sl.val (T.lst xs), Sl.val (T.lst ys), Sl.no, Sl.no]) (X := X) (Q := fun l => ob (bls l) fun bs => Q3 (.bl (bs.all id))) xs ys [] p1.2 p2.2 (by simp only [dep] at hd; omega) (by show 0 + xs.length < 16777216; omega) hl rfl (by rw [List.nil_append, bls_map, ob_some, sameBs_all xs ys hl]; simpa [sameT] using q)
        simpa [seq3, next3, ret3, retN3, ifs3, drop3, asg3, name3, tst3, and3, or3, not3, andV3, orV3, notV3, if3, v3, k3, op3, un3, nil3, cons3, call3, tup3, lst3, chain3, fn30, fn3, fnN30, fnN3, fnP30, i2, i2c, i1, isN3, notN3, eqS3, neS3, ixL3, ixT3, len3, all3, any3, abs3, max23, min23, isi3, isB3, truth3, start3, slot, flatT, scal, tyn, isNon, lenT, truT, isiB, Option.bind, take3, kb_non_bool, kb_non_int, kb_non_str, kb_non_list, kb_non_tuple, kb_bool_bool, kb_bool_int, kb_bool_str, kb_bool_list, kb_bool_tuple, kb_int_bool, kb_int_int, kb_int_str, kb_int_list, kb_int_tuple, kb_str_bool, kb_str_int, kb_str_str, kb_str_list, kb_str_tuple, kb_list_bool, kb_list_int, kb_list_str, kb_list_list, kb_list_tuple, kb_tuple_bool, kb_tuple_int, kb_tuple_str, kb_tuple_list, kb_tuple_tuple, hl, lc3, iterZ3, zipT, noOwn, wipe3] using hc
      · have e : sameL xs ys = false := by
          cases z : sameL xs ys with
          | false => rfl
          | true => exact absurd (sameL_len xs ys z) hl
        simpa [seq3, next3, ret3, retN3, ifs3, drop3, asg3, name3, tst3, and3, or3, not3, andV3, orV3, notV3, if3, v3, k3, op3, un3, nil3, cons3, call3, tup3, lst3, chain3, fn30, fn3, fnN30, fnN3, fnP30, i2, i2c, i1, isN3, notN3, eqS3, neS3, ixL3, ixT3, len3, all3, any3, abs3, max23, min23, isi3, isB3, truth3, start3, slot, flatT, scal, tyn, isNon, lenT, truT, isiB, Option.bind, take3, kb_non_bool, kb_non_int, kb_non_str, kb_non_list, kb_non_tuple, kb_bool_bool, kb_bool_int, kb_bool_str, kb_bool_list, kb_bool_tuple, kb_int_bool, kb_int_int, kb_int_str, kb_int_list, kb_int_tuple, kb_str_bool, kb_str_int, kb_str_str, kb_str_list, kb_str_tuple, kb_list_bool, kb_list_int, kb_list_str, kb_list_list, kb_list_tuple, kb_tuple_bool, kb_tuple_int, kb_tuple_str, kb_tuple_list, kb_tuple_tuple, sameT, hl, e, Int.ofNat_inj] using q
    | _ => simp [plain] at p1 <;> simpa [seq3, next3, ret3, retN3, ifs3, drop3, asg3, name3, tst3, and3, or3, not3, andV3, orV3, notV3, if3, v3, k3, op3, un3, nil3, cons3, call3, tup3, lst3, chain3, fn30, fn3, fnN30, fnN3, fnP30, i2, i2c, i1, isN3, notN3, eqS3, neS3, ixL3, ixT3, len3, all3, any3, abs3, max23, min23, isi3, isB3, truth3, start3, slot, flatT, scal, tyn, isNon, lenT, truT, isiB, Option.bind, take3, kb_non_bool, kb_non_int, kb_non_str, kb_non_list, kb_non_tuple, kb_bool_bool, kb_bool_int, kb_bool_str, kb_bool_list, kb_bool_tuple, kb_int_bool, kb_int_int, kb_int_str, kb_int_list, kb_int_tuple, kb_str_bool, kb_str_int, kb_str_str, kb_str_list, kb_str_tuple, kb_list_bool, kb_list_int, kb_list_str, kb_list_list, kb_list_tuple, kb_tuple_bool, kb_tuple_int, kb_tuple_str, kb_tuple_list, kb_tuple_tuple, sameT] using q
  | tup ys =>
    simp only [plain, Bool.and_eq_true, decide_eq_true_eq] at p2
    cases fo with
    | tup xs =>
      simp only [plain, Bool.and_eq_true, decide_eq_true_eq] at p1
      by_cases hl : xs.length = ys.length
      · have hc := same_comp (n := n) (σ := [Sl.val (T.tup xs), Sl.val (T.tup ys), Sl.no, Sl.no]) (X := X) (Q := fun l => ob (bls l) fun bs => Q3 (.bl (bs.all id))) xs ys [] p1.2 p2.2 (by simp only [dep] at hd; omega) (by show 0 + xs.length < 16777216; omega) hl rfl (by rw [List.nil_append, bls_map, ob_some, sameBs_all xs ys hl]; simpa [sameT] using q)
        simpa [seq3, next3, ret3, retN3, ifs3, drop3, asg3, name3, tst3, and3, or3, not3, andV3, orV3, notV3, if3, v3, k3, op3, un3, nil3, cons3, call3, tup3, lst3, chain3, fn30, fn3, fnN30, fnN3, fnP30, i2, i2c, i1, isN3, notN3, eqS3, neS3, ixL3, ixT3, len3, all3, any3, abs3, max23, min23, isi3, isB3, truth3, start3, slot, flatT, scal, tyn, isNon, lenT, truT, isiB, Option.bind, take3, kb_non_bool, kb_non_int, kb_non_str, kb_non_list, kb_non_tuple, kb_bool_bool, kb_bool_int, kb_bool_str, kb_bool_list, kb_bool_tuple, kb_int_bool, kb_int_int, kb_int_str, kb_int_list, kb_int_tuple, kb_str_bool, kb_str_int, kb_str_str, kb_str_list, kb_str_tuple, kb_list_bool, kb_list_int, kb_list_str, kb_list_list, kb_list_tuple, kb_tuple_bool, kb_tuple_int, kb_tuple_str, kb_tuple_list, kb_tuple_tuple, hl, lc3, iterZ3, zipT, noOwn, wipe3] using hc
      · have e : sameL xs ys = false := by
          cases z : sameL xs ys with
          | false => rfl
          | true => exact absurd (sameL_len xs ys z) hl
        simpa [seq3, next3, ret3, retN3, ifs3, drop3, asg3, name3, tst3, and3, or3, not3, andV3, orV3, notV3, if3, v3, k3, op3, un3, nil3, cons3, call3, tup3, lst3, chain3, fn30, fn3, fnN30, fnN3, fnP30, i2, i2c, i1, isN3, notN3, eqS3, neS3, ixL3, ixT3, len3, all3, any3, abs3, max23, min23, isi3, isB3, truth3, start3, slot, flatT, scal, tyn, isNon, lenT, truT, isiB, Option.bind, take3, kb_non_bool, kb_non_int, kb_non_str, kb_non_list, kb_non_tuple, kb_bool_bool, kb_bool_int, kb_bool_str, kb_bool_list, kb_bool_tuple, kb_int_bool, kb_int_int, kb_int_str, kb_int_list, kb_int_tuple, kb_str_bool, kb_str_int, kb_str_str, kb_str_list, kb_str_tuple, kb_list_bool, kb_list_int, kb_list_str, kb_list_list, kb_list_tuple, kb_tuple_bool, kb_tuple_int, kb_tuple_str, kb_tuple_list, kb_tuple_tuple, sameT, hl, e, Int.ofNat_inj] using q
    | _ => simp [plain] at p1 <;> simpa [seq3, next3, ret3, retN3, ifs3, drop3, asg3, name3, tst3, and3, or3, not3, andV3, orV3, notV3, if3, v3, k3, op3, un3, nil3, cons3, call3, tup3, lst3, chain3, fn30, fn3, fnN30, fnN3, fnP30, i2, i2c, i1, isN3, notN3, eqS3, neS3, ixL3, ixT3, len3, all3, any3, abs3, max23, min23, isi3, isB3, truth3, start3, slot, flatT, scal, tyn, isNon, lenT, truT, isiB, Option.bind, take3, kb_non_bool, kb_non_int, kb_non_str, kb_non_list, kb_non_tuple, kb_bool_bool, kb_bool_int, kb_bool_str, kb_bool_list, kb_bool_tuple, kb_int_bool, kb_int_int, kb_int_str, kb_int_list, kb_int_tuple, kb_str_bool, kb_str_int, kb_str_str, kb_str_list, kb_str_tuple, kb_list_bool, kb_list_int, kb_list_str, kb_list_list, kb_list_tuple, kb_tuple_bool, kb_tuple_int, kb_tuple_str, kb_tuple_list, kb_tuple_tuple, sameT] using q
  | _ => simp [plain] at p2
theorem ok_Lsame {f : Addr} {fd : FuncData} (F : Fun K "_law_same" "_law_same" s_Lsame f fd) (zb_all : mg "all" = none) (zb_bool : mg "bool" = none) (zb_int : mg "int" = none) (zb_isinstance : mg "isinstance" = none) (zb_len : mg "len" = none) (zb_list : mg "list" = none) (zb_str : mg "str" = none) (zb_tuple : mg "tuple" = none) (zb_zip : mg "zip" = none) (hm : mg "_law_same" = some (.ref f)) (hb : Binds K fd ["_law_found", "_law_due"] []) :
    ∀ n, Cl P w K mg base CX0 "_law_same" n [] (sp3 K 2 (same3 n))
  | 0 => ⟨f, fd, _, [], fnOk_false (fun vs H Q E h => by obtain ⟨S, ds, _, _, _, Q3, X, h, _⟩ := h; obtain ⟨_, _, _, _, h, _⟩ := ob_iff.mp h; exact Nat.not_lt_zero _ h), hm, F.kp, hb, .nil⟩
  | n + 1 => ⟨f, fd, _, [], ok_Lsame1 F zb_all zb_bool zb_int zb_isinstance zb_len zb_list zb_str zb_tuple zb_zip (ok_Lsame F zb_all zb_bool zb_int zb_isinstance zb_len zb_list zb_str zb_tuple zb_zip hm hb n), hm, F.kp, hb, .nil⟩
end
end Law

namespace Law
open PySem L2 M3
/-! ### the law's own cells -/
abbrev MOSTi : Int := 999999999999999999999999999999
def isCellTree (t : T) : Prop := t = .non ∨ ∃ i : Int, t = .int i ∧ -MOSTi ≤ i ∧ i ≤ MOSTi
def cell3 : F3 := fun _ Q _ => ∀ t, isCellTree t → Q t
abbrev s_Lcell : Stmt := top 10
theorem sc_Lcell : FnScope ["_law_pot_here", "_law_kind", "_law_top"] ["_law_pot_here"] (defScope s_Lcell) := ⟨rfl, rfl, rfl, by decide +kernel, rfl, by decide +kernel, by decide +kernel⟩
section
variable {P : Program} {w : World} {K : PySem.W.Frag} {mg : Str → Option Value} {base : Heap}
theorem ok_Lcell {f : Addr} {fd : FuncData} (F : Fun K "_law_cell" "_law_cell" s_Lcell f fd)  (c__law_take_2 : Cl P w K mg base CX0 "_law_take" 1 [] (spP K 2 take3)) :
    FnOk P w K mg base CX0 2 f fd ["_law_pot_here"] (spP K 1 cell3) := by
  refine F.ok sc_Lcell (spP_len rfl) (fun cdv A outer s H vs Q E hr h => ?_)
  refine ⟨_, (pss_cons (ps_set (i := 1) sc_Lcell.nd rfl (Or.inl rfl) (pe_cl c__law_take_2 (hr.mono (by omega)) (by rfl) pass0 (pa_cons (pv 0) (pa_cons pe_int pa_nil))))
      (pss_cons (ps_if (pt_cmpR op_lt (pv 1) pe_int (nomark _)) (pss_one (ps_ret pe_non)) pss_nil)
      (pss_cons (ps_if (pt_cmpR op_lt (pv 1) pe_int (nomark _)) (pss_one (ps_ret (pe_ifExp (pt_cmpR op_lt (pv 1) pe_int (nomark _)) (pe_op op_sub (pe_cl c__law_take_2 (hr.mono (by omega)) (by rfl) pass0 (pa_cons (pv 0) (pa_cons pe_int pa_nil))) pe_int) (pe_op op_sub (pe_cl c__law_take_2 (hr.mono (by omega)) (by rfl) pass0 (pa_cons (pv 0) (pa_cons pe_int pa_nil))) pe_int)))) pss_nil)
      (pss_cons (ps_set (i := 2) sc_Lcell.nd rfl (Or.inl rfl) (pe_op op_sub (pe_op op_pow pe_int pe_int) pe_int))
      (pss_one (ps_ret (pe_ix (ix_listK (K := K) rfl) (pe_lst (pa_cons (pv 2) (pa_cons (pe_un un_neg (pv 2)) (pa_cons (pe_op op_add (pe_op op_pow pe_int pe_int) (pe_cl c__law_take_2 (hr.mono (by omega)) (by rfl) pass0 (pa_cons (pv 0) (pa_cons (pe_op op_pow pe_int pe_int) pa_nil)))) (pa_cons (pe_cl c__law_take_2 (hr.mono (by omega)) (by rfl) pass0 (pa_cons (pv 0) (pa_cons (pe_op op_add (pv 2) pe_int) pa_nil))) pa_nil))))) (pe_cl c__law_take_2 (hr.mono (by omega)) (by rfl) pass0 (pa_cons (pv 0) (pa_cons pe_int pa_nil))) (fun _ _ => rfl)))))))), ?_⟩
  refine bodyP (W := fun cls dd _ H => E cls dd H) h (fun _ _ _ _ z => z) (fun p cc => (lift_seq (lift_asg (lift_callP0 (lift_cons (lift_v 0) (lift_cons (lift_int _) lift_nil)) (fun _ => .nil)) (lift_name (vs := [1]) 1 (by decide)))
      (lift_seq (lift_ifs (lift_tst (lift_op rl_lt (lift_v 1) (lift_int _))) (lift_ret lift_non) lift_next)
      (lift_seq (lift_ifs (lift_tst (lift_op rl_lt (lift_v 1) (lift_int _))) (lift_ret (lift_if (lift_tst (lift_op rl_lt (lift_v 1) (lift_int _))) (lift_op rl_sub (lift_callP0 (lift_cons (lift_v 0) (lift_cons (lift_int _) lift_nil)) (fun _ => .nil)) (lift_int _)) (lift_op rl_sub (lift_callP0 (lift_cons (lift_v 0) (lift_cons (lift_int _) lift_nil)) (fun _ => .nil)) (lift_int _)))) lift_next)
      (lift_seq (lift_asg (lift_op rl_sub (lift_op rl_pow (lift_int _) (lift_int _)) (lift_int _)) (lift_name (vs := [2]) 2 (by decide)))
      (lift_ret (lift_op rl_ixL (lift_lst (lift_cons (lift_v 2) (lift_cons (lift_un rl_neg (lift_v 2)) (lift_cons (lift_op rl_add (lift_op rl_pow (lift_int _) (lift_int _)) (lift_callP0 (lift_cons (lift_v 0) (lift_cons (lift_op rl_pow (lift_int _) (lift_int _)) lift_nil)) (fun _ => .nil))) (lift_cons (lift_callP0 (lift_cons (lift_v 0) (lift_cons (lift_op rl_add (lift_v 2) (lift_int _)) lift_nil)) (fun _ => .nil)) lift_nil))))) (lift_callP0 (lift_cons (lift_v 0) (lift_cons (lift_int _) lift_nil)) (fun _ => .nil))))))))) ?_
  intro p ds Q3 X hl hf
  have e : ds = [] := by simpa using hl
  subst e
  have q : ∀ t, isCellTree t → Q3 t := hf
  clear hf h hr
  have qi : ∀ i : Int, -MOSTi ≤ i → i ≤ MOSTi → Q3 (.int i) := fun i a b => q _ (.inr ⟨i, rfl, a, b⟩)
  have qn : Q3 .non := q _ (.inl rfl)
  refine seq_by (fun σ' => ∃ r : Int, 0 ≤ r ∧ r < 16 ∧ σ' = [Sl.val (.ref p), Sl.val (.int r), Sl.no]) (fun nx hn => ?_) ?_
  · refine ⟨rfl, rfl, by decide, by decide, fun r h0 h1 => hn _ ⟨r, h0, h1, rfl⟩⟩
  rintro σ' ⟨r, h0, h1, rfl⟩
  refine seq_by (fun σ' => σ' = [Sl.val (.ref p), Sl.val (.int r), Sl.no]) (fun nx hn => ?_) ?_
  · have e := hn _ rfl
    by_cases a : r < 2
    · simpa [seq3, next3, ret3, retN3, ifs3, drop3, asg3, name3, tst3, and3, or3, not3, andV3, orV3, notV3, if3, v3, k3, op3, un3, nil3, cons3, call3, tup3, lst3, chain3, fn30, fn3, fnN30, fnN3, fnP30, i2, i2c, i1, isN3, notN3, eqS3, neS3, ixL3, ixT3, len3, all3, any3, abs3, max23, min23, isi3, isB3, truth3, start3, slot, flatT, scal, tyn, isNon, lenT, truT, isiB, Option.bind, take3, kb_non_bool, kb_non_int, kb_non_str, kb_non_list, kb_non_tuple, kb_bool_bool, kb_bool_int, kb_bool_str, kb_bool_list, kb_bool_tuple, kb_int_bool, kb_int_int, kb_int_str, kb_int_list, kb_int_tuple, kb_str_bool, kb_str_int, kb_str_str, kb_str_list, kb_str_tuple, kb_list_bool, kb_list_int, kb_list_str, kb_list_list, kb_list_tuple, kb_tuple_bool, kb_tuple_int, kb_tuple_str, kb_tuple_list, kb_tuple_tuple, a] using qn
    · simpa [seq3, next3, ret3, retN3, ifs3, drop3, asg3, name3, tst3, and3, or3, not3, andV3, orV3, notV3, if3, v3, k3, op3, un3, nil3, cons3, call3, tup3, lst3, chain3, fn30, fn3, fnN30, fnN3, fnP30, i2, i2c, i1, isN3, notN3, eqS3, neS3, ixL3, ixT3, len3, all3, any3, abs3, max23, min23, isi3, isB3, truth3, start3, slot, flatT, scal, tyn, isNon, lenT, truT, isiB, Option.bind, take3, kb_non_bool, kb_non_int, kb_non_str, kb_non_list, kb_non_tuple, kb_bool_bool, kb_bool_int, kb_bool_str, kb_bool_list, kb_bool_tuple, kb_int_bool, kb_int_int, kb_int_str, kb_int_list, kb_int_tuple, kb_str_bool, kb_str_int, kb_str_str, kb_str_list, kb_str_tuple, kb_list_bool, kb_list_int, kb_list_str, kb_list_list, kb_list_tuple, kb_tuple_bool, kb_tuple_int, kb_tuple_str, kb_tuple_list, kb_tuple_tuple, a] using e
  rintro σ' rfl
  refine seq_by (fun σ' => σ' = [Sl.val (.ref p), Sl.val (.int r), Sl.no]) (fun nx hn => ?_) ?_
  · have e := hn _ rfl
    by_cases a : r < 15
    · by_cases a3 : r < 13
      · simp [seq3, next3, ret3, retN3, ifs3, drop3, asg3, name3, tst3, and3, or3, not3, andV3, orV3, notV3, if3, v3, k3, op3, un3, nil3, cons3, call3, tup3, lst3, chain3, fn30, fn3, fnN30, fnN3, fnP30, i2, i2c, i1, isN3, notN3, eqS3, neS3, ixL3, ixT3, len3, all3, any3, abs3, max23, min23, isi3, isB3, truth3, start3, slot, flatT, scal, tyn, isNon, lenT, truT, isiB, Option.bind, take3, kb_non_bool, kb_non_int, kb_non_str, kb_non_list, kb_non_tuple, kb_bool_bool, kb_bool_int, kb_bool_str, kb_bool_list, kb_bool_tuple, kb_int_bool, kb_int_int, kb_int_str, kb_int_list, kb_int_tuple, kb_str_bool, kb_str_int, kb_str_str, kb_str_list, kb_str_tuple, kb_list_bool, kb_list_int, kb_list_str, kb_list_list, kb_list_tuple, kb_tuple_bool, kb_tuple_int, kb_tuple_str, kb_tuple_list, kb_tuple_tuple, a, a3]
        intro z z0 z1
        exact qi _ (by simp only [MOSTi]; omega) (by simp only [MOSTi]; omega)
      · simp [seq3, next3, ret3, retN3, ifs3, drop3, asg3, name3, tst3, and3, or3, not3, andV3, orV3, notV3, if3, v3, k3, op3, un3, nil3, cons3, call3, tup3, lst3, chain3, fn30, fn3, fnN30, fnN3, fnP30, i2, i2c, i1, isN3, notN3, eqS3, neS3, ixL3, ixT3, len3, all3, any3, abs3, max23, min23, isi3, isB3, truth3, start3, slot, flatT, scal, tyn, isNon, lenT, truT, isiB, Option.bind, take3, kb_non_bool, kb_non_int, kb_non_str, kb_non_list, kb_non_tuple, kb_bool_bool, kb_bool_int, kb_bool_str, kb_bool_list, kb_bool_tuple, kb_int_bool, kb_int_int, kb_int_str, kb_int_list, kb_int_tuple, kb_str_bool, kb_str_int, kb_str_str, kb_str_list, kb_str_tuple, kb_list_bool, kb_list_int, kb_list_str, kb_list_list, kb_list_tuple, kb_tuple_bool, kb_tuple_int, kb_tuple_str, kb_tuple_list, kb_tuple_tuple, a, a3]
        intro z z0 z1
        exact qi _ (by simp only [MOSTi]; omega) (by simp only [MOSTi]; omega)
    · simpa [seq3, next3, ret3, retN3, ifs3, drop3, asg3, name3, tst3, and3, or3, not3, andV3, orV3, notV3, if3, v3, k3, op3, un3, nil3, cons3, call3, tup3, lst3, chain3, fn30, fn3, fnN30, fnN3, fnP30, i2, i2c, i1, isN3, notN3, eqS3, neS3, ixL3, ixT3, len3, all3, any3, abs3, max23, min23, isi3, isB3, truth3, start3, slot, flatT, scal, tyn, isNon, lenT, truT, isiB, Option.bind, take3, kb_non_bool, kb_non_int, kb_non_str, kb_non_list, kb_non_tuple, kb_bool_bool, kb_bool_int, kb_bool_str, kb_bool_list, kb_bool_tuple, kb_int_bool, kb_int_int, kb_int_str, kb_int_list, kb_int_tuple, kb_str_bool, kb_str_int, kb_str_str, kb_str_list, kb_str_tuple, kb_list_bool, kb_list_int, kb_list_str, kb_list_list, kb_list_tuple, kb_tuple_bool, kb_tuple_int, kb_tuple_str, kb_tuple_list, kb_tuple_tuple, a] using e
  rintro σ' rfl
  refine seq_by (fun σ' => σ' = [Sl.val (.ref p), Sl.val (.int r), Sl.val (.int MOSTi)]) (fun nx hn => ?_) ?_
  · have e := hn _ rfl
    simpa [seq3, next3, ret3, retN3, ifs3, drop3, asg3, name3, tst3, and3, or3, not3, andV3, orV3, notV3, if3, v3, k3, op3, un3, nil3, cons3, call3, tup3, lst3, chain3, fn30, fn3, fnN30, fnN3, fnP30, i2, i2c, i1, isN3, notN3, eqS3, neS3, ixL3, ixT3, len3, all3, any3, abs3, max23, min23, isi3, isB3, truth3, start3, slot, flatT, scal, tyn, isNon, lenT, truT, isiB, Option.bind, take3, kb_non_bool, kb_non_int, kb_non_str, kb_non_list, kb_non_tuple, kb_bool_bool, kb_bool_int, kb_bool_str, kb_bool_list, kb_bool_tuple, kb_int_bool, kb_int_int, kb_int_str, kb_int_list, kb_int_tuple, kb_str_bool, kb_str_int, kb_str_str, kb_str_list, kb_str_tuple, kb_list_bool, kb_list_int, kb_list_str, kb_list_list, kb_list_tuple, kb_tuple_bool, kb_tuple_int, kb_tuple_str, kb_tuple_list, kb_tuple_tuple, CPow, MOSTi] using e
  rintro σ' rfl
  simp [seq3, next3, ret3, retN3, ifs3, drop3, asg3, name3, tst3, and3, or3, not3, andV3, orV3, notV3, if3, v3, k3, op3, un3, nil3, cons3, call3, tup3, lst3, chain3, fn30, fn3, fnN30, fnN3, fnP30, i2, i2c, i1, isN3, notN3, eqS3, neS3, ixL3, ixT3, len3, all3, any3, abs3, max23, min23, isi3, isB3, truth3, start3, slot, flatT, scal, tyn, isNon, lenT, truT, isiB, Option.bind, take3, kb_non_bool, kb_non_int, kb_non_str, kb_non_list, kb_non_tuple, kb_bool_bool, kb_bool_int, kb_bool_str, kb_bool_list, kb_bool_tuple, kb_int_bool, kb_int_int, kb_int_str, kb_int_list, kb_int_tuple, kb_str_bool, kb_str_int, kb_str_str, kb_str_list, kb_str_tuple, kb_list_bool, kb_list_int, kb_list_str, kb_list_list, kb_list_tuple, kb_tuple_bool, kb_tuple_int, kb_tuple_str, kb_tuple_list, kb_tuple_tuple, CPow]
  intro z z0 z1
  refine ⟨by decide, by decide, fun y y0 y1 => ⟨by decide, draw_all rfl ?_⟩⟩
  intro t ht
  simp at ht
  simp only [MOSTi] at y1
  rcases ht with rfl | rfl | rfl | rfl
  all_goals exact qi _ (by simp only [MOSTi]; omega) (by simp only [MOSTi]; omega)
end
end Law

namespace Law
open PySem L2 M3
/-! ### truths and comparisons of cells -/
def asC : T → Option (Option Int)
  | .non => some none
  | .int i => some (some i)
  | _ => none
def ofC : Option Int → T
  | none => .non
  | some i => .int i
@[simp] theorem asC_non : asC .non = some none := rfl
@[simp] theorem asC_int (i : Int) : asC (.int i) = some (some i) := rfl
@[simp] theorem asC_ofC (a : Option Int) : asC (ofC a) = some a := by cases a <;> rfl
@[simp] theorem ofC_none : ofC none = .non := rfl
@[simp] theorem ofC_some (i : Int) : ofC (some i) = .int i := rfl
theorem asC_is {x : T} {a : Option Int} (h : asC x = some a) : x = ofC a := by cases x <;> cases h <;> rfl
def c2 (g : Option Int → Option Int → Option Int) : F3 := fun ds Q _ => ob (two ds) fun p => ob (asC p.1) fun a => ob (asC p.2) fun b => Q (ofC (g a b))
def c1 (g : Option Int → Option Int) : F3 := fun ds Q _ => ob (one ds) fun p => ob (asC p) fun a => Q (ofC (g a))
def alikeC : Option Int → Option Int → Option Int
  | some a, some b => some (if a = b then 1 else 0)
  | _, _ => none
def belowC : Option Int → Option Int → Option Int
  | some a, some b => some (if a < b then 1 else 0)
  | _, _ => none
def bothC (a b : Option Int) : Option Int := if a = some 0 ∨ b = some 0 then some 0 else match a, b with | some _, some _ => some 1 | _, _ => none
def eitherC (a b : Option Int) : Option Int := if a = some 1 ∨ b = some 1 then some 1 else match a, b with | some _, some _ => some 0 | _, _ => none
def contraryC : Option Int → Option Int
  | some a => some (1 - a)
  | none => none
abbrev s_alike : Stmt := top 1
theorem sc_alike : FnScope ["one", "other"] ["one", "other"] (defScope s_alike) := ⟨rfl, rfl, rfl, by decide +kernel, rfl, by decide +kernel, by decide +kernel⟩
abbrev s_below : Stmt := top 2
theorem sc_below : FnScope ["one", "other"] ["one", "other"] (defScope s_below) := ⟨rfl, rfl, rfl, by decide +kernel, rfl, by decide +kernel, by decide +kernel⟩
abbrev s_both : Stmt := top 3
theorem sc_both : FnScope ["one", "other"] ["one", "other"] (defScope s_both) := ⟨rfl, rfl, rfl, by decide +kernel, rfl, by decide +kernel, by decide +kernel⟩
abbrev s_either : Stmt := top 4
theorem sc_either : FnScope ["one", "other"] ["one", "other"] (defScope s_either) := ⟨rfl, rfl, rfl, by decide +kernel, rfl, by decide +kernel, by decide +kernel⟩
abbrev s_contrary : Stmt := top 5
theorem sc_contrary : FnScope ["truth"] ["truth"] (defScope s_contrary) := ⟨rfl, rfl, rfl, by decide +kernel, rfl, by decide +kernel, by decide +kernel⟩
section
variable {P : Program} {w : World} {K : PySem.W.Frag} {mg : Str → Option Value} {base : Heap}
theorem ok_alike {f : Addr} {fd : FuncData} (F : Fun K "alike" "alike" s_alike f fd) (zb_int : mg "int" = none) : FnOk P w K mg base CX0 1 f fd ["one", "other"] (sp3 K 2 (c2 alikeC)) := by
  refine F.ok sc_alike (sp3_len rfl) (fun cdv A outer s H vs Q E hr h => ?_)
  refine ⟨_, (pss_one (ps_ret (pe_ifExp (PW.pt (pw_or (pt_cmpR op_isN (pv 0) pe_non (nomark _)) (pw_or1 (pt_cmpR op_isN (pv 1) pe_non (nomark _))))) pe_non (pe_callTy call_int1 (by rfl) zb_int (by decide +kernel) (pa_cons (pe_cmpR op_eq (pv 0) (pv 1) (nomark _)) pa_nil))))), ?_⟩
  refine body3 (W := fun cls dd _ H => E cls dd H) h (fun _ _ _ _ z => z) (lift_ret (lift_if (lift_or (lift_tst (lift_op rl_isN (lift_v 0) lift_non)) (lift_tst (lift_op rl_isN (lift_v 1) lift_non))) lift_non (lift_cb rl_int1 (lift_cons (lift_op rl_eqS (lift_v 0) (lift_v 1)) lift_nil)))) ?_
  intro ds Q3 X hl hf
  obtain ⟨⟨x, y⟩, e2, hf1⟩ := ob_iff.mp hf
  obtain ⟨a, ha, hf2⟩ := ob_iff.mp hf1
  obtain ⟨b, hb, q⟩ := ob_iff.mp hf2
  cases two_is e2
  cases asC_is ha
  cases asC_is hb
  clear hf hf1 hf2 e2 h hl ha hb
  cases a <;> cases b <;> simp [alikeC] at q <;> simpa [seq3, next3, ret3, retN3, ifs3, drop3, asg3, name3, tst3, and3, or3, not3, andV3, orV3, notV3, if3, v3, k3, op3, un3, nil3, cons3, call3, tup3, lst3, chain3, fn30, fn3, fnN30, fnN3, fnP30, i2, i2c, i1, isN3, notN3, eqS3, neS3, ixL3, ixT3, len3, all3, any3, abs3, max23, min23, isi3, isB3, truth3, start3, slot, flatT, scal, tyn, isNon, lenT, truT, isiB, Option.bind, take3, kb_non_bool, kb_non_int, kb_non_str, kb_non_list, kb_non_tuple, kb_bool_bool, kb_bool_int, kb_bool_str, kb_bool_list, kb_bool_tuple, kb_int_bool, kb_int_int, kb_int_str, kb_int_list, kb_int_tuple, kb_str_bool, kb_str_int, kb_str_str, kb_str_list, kb_str_tuple, kb_list_bool, kb_list_int, kb_list_str, kb_list_list, kb_list_tuple, kb_tuple_bool, kb_tuple_int, kb_tuple_str, kb_tuple_list, kb_tuple_tuple, int13, toI] using q
theorem ok_below {f : Addr} {fd : FuncData} (F : Fun K "below" "below" s_below f fd) (zb_int : mg "int" = none) : FnOk P w K mg base CX0 1 f fd ["one", "other"] (sp3 K 2 (c2 belowC)) := by
  refine F.ok sc_below (sp3_len rfl) (fun cdv A outer s H vs Q E hr h => ?_)
  refine ⟨_, (pss_one (ps_ret (pe_ifExp (PW.pt (pw_or (pt_cmpR op_isN (pv 0) pe_non (nomark _)) (pw_or1 (pt_cmpR op_isN (pv 1) pe_non (nomark _))))) pe_non (pe_callTy call_int1 (by rfl) zb_int (by decide +kernel) (pa_cons (pe_cmpR op_lt (pv 0) (pv 1) (nomark _)) pa_nil))))), ?_⟩
  refine body3 (W := fun cls dd _ H => E cls dd H) h (fun _ _ _ _ z => z) (lift_ret (lift_if (lift_or (lift_tst (lift_op rl_isN (lift_v 0) lift_non)) (lift_tst (lift_op rl_isN (lift_v 1) lift_non))) lift_non (lift_cb rl_int1 (lift_cons (lift_op rl_lt (lift_v 0) (lift_v 1)) lift_nil)))) ?_
  intro ds Q3 X hl hf
  obtain ⟨⟨x, y⟩, e2, hf1⟩ := ob_iff.mp hf
  obtain ⟨a, ha, hf2⟩ := ob_iff.mp hf1
  obtain ⟨b, hb, q⟩ := ob_iff.mp hf2
  cases two_is e2
  cases asC_is ha
  cases asC_is hb
  clear hf hf1 hf2 e2 h hl ha hb
  cases a <;> cases b <;> simp [belowC] at q <;> simpa [seq3, next3, ret3, retN3, ifs3, drop3, asg3, name3, tst3, and3, or3, not3, andV3, orV3, notV3, if3, v3, k3, op3, un3, nil3, cons3, call3, tup3, lst3, chain3, fn30, fn3, fnN30, fnN3, fnP30, i2, i2c, i1, isN3, notN3, eqS3, neS3, ixL3, ixT3, len3, all3, any3, abs3, max23, min23, isi3, isB3, truth3, start3, slot, flatT, scal, tyn, isNon, lenT, truT, isiB, Option.bind, take3, kb_non_bool, kb_non_int, kb_non_str, kb_non_list, kb_non_tuple, kb_bool_bool, kb_bool_int, kb_bool_str, kb_bool_list, kb_bool_tuple, kb_int_bool, kb_int_int, kb_int_str, kb_int_list, kb_int_tuple, kb_str_bool, kb_str_int, kb_str_str, kb_str_list, kb_str_tuple, kb_list_bool, kb_list_int, kb_list_str, kb_list_list, kb_list_tuple, kb_tuple_bool, kb_tuple_int, kb_tuple_str, kb_tuple_list, kb_tuple_tuple, int13, toI] using q
theorem ok_both {f : Addr} {fd : FuncData} (F : Fun K "both" "both" s_both f fd)  : FnOk P w K mg base CX0 1 f fd ["one", "other"] (sp3 K 2 (c2 bothC)) := by
  refine F.ok sc_both (sp3_len rfl) (fun cdv A outer s H vs Q E hr h => ?_)
  refine ⟨_, (pss_cons (ps_if (PW.pt (pw_or (pt_cmpR op_eq (pv 0) pe_int (nomark _)) (pw_or1 (pt_cmpR op_eq (pv 1) pe_int (nomark _))))) (pss_one (ps_ret pe_int)) pss_nil)
      (pss_one (ps_ret (pe_ifExp (PW.pt (pw_or (pt_cmpR op_isN (pv 0) pe_non (nomark _)) (pw_or1 (pt_cmpR op_isN (pv 1) pe_non (nomark _))))) pe_non pe_int)))), ?_⟩
  refine body3 (W := fun cls dd _ H => E cls dd H) h (fun _ _ _ _ z => z) (lift_seq (lift_ifs (lift_or (lift_tst (lift_op rl_eqS (lift_v 0) (lift_int _))) (lift_tst (lift_op rl_eqS (lift_v 1) (lift_int _)))) (lift_ret (lift_int _)) lift_next)
      (lift_ret (lift_if (lift_or (lift_tst (lift_op rl_isN (lift_v 0) lift_non)) (lift_tst (lift_op rl_isN (lift_v 1) lift_non))) lift_non (lift_int _)))) ?_
  intro ds Q3 X hl hf
  obtain ⟨⟨x, y⟩, e2, hf1⟩ := ob_iff.mp hf
  obtain ⟨a, ha, hf2⟩ := ob_iff.mp hf1
  obtain ⟨b, hb, q⟩ := ob_iff.mp hf2
  cases two_is e2
  cases asC_is ha
  cases asC_is hb
  clear hf hf1 hf2 e2 h hl ha hb
  cases a with
  | none =>
    cases b with
    | none => simp [bothC] at q; simpa [seq3, next3, ret3, retN3, ifs3, drop3, asg3, name3, tst3, and3, or3, not3, andV3, orV3, notV3, if3, v3, k3, op3, un3, nil3, cons3, call3, tup3, lst3, chain3, fn30, fn3, fnN30, fnN3, fnP30, i2, i2c, i1, isN3, notN3, eqS3, neS3, ixL3, ixT3, len3, all3, any3, abs3, max23, min23, isi3, isB3, truth3, start3, slot, flatT, scal, tyn, isNon, lenT, truT, isiB, Option.bind, take3, kb_non_bool, kb_non_int, kb_non_str, kb_non_list, kb_non_tuple, kb_bool_bool, kb_bool_int, kb_bool_str, kb_bool_list, kb_bool_tuple, kb_int_bool, kb_int_int, kb_int_str, kb_int_list, kb_int_tuple, kb_str_bool, kb_str_int, kb_str_str, kb_str_list, kb_str_tuple, kb_list_bool, kb_list_int, kb_list_str, kb_list_list, kb_list_tuple, kb_tuple_bool, kb_tuple_int, kb_tuple_str, kb_tuple_list, kb_tuple_tuple] using q
    | some b => by_cases b0 : b = 0 <;> simp [bothC, b0] at q <;> simpa [seq3, next3, ret3, retN3, ifs3, drop3, asg3, name3, tst3, and3, or3, not3, andV3, orV3, notV3, if3, v3, k3, op3, un3, nil3, cons3, call3, tup3, lst3, chain3, fn30, fn3, fnN30, fnN3, fnP30, i2, i2c, i1, isN3, notN3, eqS3, neS3, ixL3, ixT3, len3, all3, any3, abs3, max23, min23, isi3, isB3, truth3, start3, slot, flatT, scal, tyn, isNon, lenT, truT, isiB, Option.bind, take3, kb_non_bool, kb_non_int, kb_non_str, kb_non_list, kb_non_tuple, kb_bool_bool, kb_bool_int, kb_bool_str, kb_bool_list, kb_bool_tuple, kb_int_bool, kb_int_int, kb_int_str, kb_int_list, kb_int_tuple, kb_str_bool, kb_str_int, kb_str_str, kb_str_list, kb_str_tuple, kb_list_bool, kb_list_int, kb_list_str, kb_list_list, kb_list_tuple, kb_tuple_bool, kb_tuple_int, kb_tuple_str, kb_tuple_list, kb_tuple_tuple, b0] using q
  | some a =>
    cases b with
    | none => by_cases a0 : a = 0 <;> simp [bothC, a0] at q <;> simpa [seq3, next3, ret3, retN3, ifs3, drop3, asg3, name3, tst3, and3, or3, not3, andV3, orV3, notV3, if3, v3, k3, op3, un3, nil3, cons3, call3, tup3, lst3, chain3, fn30, fn3, fnN30, fnN3, fnP30, i2, i2c, i1, isN3, notN3, eqS3, neS3, ixL3, ixT3, len3, all3, any3, abs3, max23, min23, isi3, isB3, truth3, start3, slot, flatT, scal, tyn, isNon, lenT, truT, isiB, Option.bind, take3, kb_non_bool, kb_non_int, kb_non_str, kb_non_list, kb_non_tuple, kb_bool_bool, kb_bool_int, kb_bool_str, kb_bool_list, kb_bool_tuple, kb_int_bool, kb_int_int, kb_int_str, kb_int_list, kb_int_tuple, kb_str_bool, kb_str_int, kb_str_str, kb_str_list, kb_str_tuple, kb_list_bool, kb_list_int, kb_list_str, kb_list_list, kb_list_tuple, kb_tuple_bool, kb_tuple_int, kb_tuple_str, kb_tuple_list, kb_tuple_tuple, a0] using q
    | some b => by_cases a0 : a = 0 <;> by_cases b0 : b = 0 <;> simp [bothC, a0, b0] at q <;> simpa [seq3, next3, ret3, retN3, ifs3, drop3, asg3, name3, tst3, and3, or3, not3, andV3, orV3, notV3, if3, v3, k3, op3, un3, nil3, cons3, call3, tup3, lst3, chain3, fn30, fn3, fnN30, fnN3, fnP30, i2, i2c, i1, isN3, notN3, eqS3, neS3, ixL3, ixT3, len3, all3, any3, abs3, max23, min23, isi3, isB3, truth3, start3, slot, flatT, scal, tyn, isNon, lenT, truT, isiB, Option.bind, take3, kb_non_bool, kb_non_int, kb_non_str, kb_non_list, kb_non_tuple, kb_bool_bool, kb_bool_int, kb_bool_str, kb_bool_list, kb_bool_tuple, kb_int_bool, kb_int_int, kb_int_str, kb_int_list, kb_int_tuple, kb_str_bool, kb_str_int, kb_str_str, kb_str_list, kb_str_tuple, kb_list_bool, kb_list_int, kb_list_str, kb_list_list, kb_list_tuple, kb_tuple_bool, kb_tuple_int, kb_tuple_str, kb_tuple_list, kb_tuple_tuple, a0, b0] using q
theorem ok_either {f : Addr} {fd : FuncData} (F : Fun K "either" "either" s_either f fd)  : FnOk P w K mg base CX0 1 f fd ["one", "other"] (sp3 K 2 (c2 eitherC)) := by
  refine F.ok sc_either (sp3_len rfl) (fun cdv A outer s H vs Q E hr h => ?_)
  refine ⟨_, (pss_cons (ps_if (PW.pt (pw_or (pt_cmpR op_eq (pv 0) pe_int (nomark _)) (pw_or1 (pt_cmpR op_eq (pv 1) pe_int (nomark _))))) (pss_one (ps_ret pe_int)) pss_nil)
      (pss_one (ps_ret (pe_ifExp (PW.pt (pw_or (pt_cmpR op_isN (pv 0) pe_non (nomark _)) (pw_or1 (pt_cmpR op_isN (pv 1) pe_non (nomark _))))) pe_non pe_int)))), ?_⟩
  refine body3 (W := fun cls dd _ H => E cls dd H) h (fun _ _ _ _ z => z) (lift_seq (lift_ifs (lift_or (lift_tst (lift_op rl_eqS (lift_v 0) (lift_int _))) (lift_tst (lift_op rl_eqS (lift_v 1) (lift_int _)))) (lift_ret (lift_int _)) lift_next)
      (lift_ret (lift_if (lift_or (lift_tst (lift_op rl_isN (lift_v 0) lift_non)) (lift_tst (lift_op rl_isN (lift_v 1) lift_non))) lift_non (lift_int _)))) ?_
  intro ds Q3 X hl hf
  obtain ⟨⟨x, y⟩, e2, hf1⟩ := ob_iff.mp hf
  obtain ⟨a, ha, hf2⟩ := ob_iff.mp hf1
  obtain ⟨b, hb, q⟩ := ob_iff.mp hf2
  cases two_is e2
  cases asC_is ha
  cases asC_is hb
  clear hf hf1 hf2 e2 h hl ha hb
  cases a with
  | none =>
    cases b with
    | none => simp [eitherC] at q; simpa [seq3, next3, ret3, retN3, ifs3, drop3, asg3, name3, tst3, and3, or3, not3, andV3, orV3, notV3, if3, v3, k3, op3, un3, nil3, cons3, call3, tup3, lst3, chain3, fn30, fn3, fnN30, fnN3, fnP30, i2, i2c, i1, isN3, notN3, eqS3, neS3, ixL3, ixT3, len3, all3, any3, abs3, max23, min23, isi3, isB3, truth3, start3, slot, flatT, scal, tyn, isNon, lenT, truT, isiB, Option.bind, take3, kb_non_bool, kb_non_int, kb_non_str, kb_non_list, kb_non_tuple, kb_bool_bool, kb_bool_int, kb_bool_str, kb_bool_list, kb_bool_tuple, kb_int_bool, kb_int_int, kb_int_str, kb_int_list, kb_int_tuple, kb_str_bool, kb_str_int, kb_str_str, kb_str_list, kb_str_tuple, kb_list_bool, kb_list_int, kb_list_str, kb_list_list, kb_list_tuple, kb_tuple_bool, kb_tuple_int, kb_tuple_str, kb_tuple_list, kb_tuple_tuple] using q
    | some b => by_cases b0 : b = 1 <;> simp [eitherC, b0] at q <;> simpa [seq3, next3, ret3, retN3, ifs3, drop3, asg3, name3, tst3, and3, or3, not3, andV3, orV3, notV3, if3, v3, k3, op3, un3, nil3, cons3, call3, tup3, lst3, chain3, fn30, fn3, fnN30, fnN3, fnP30, i2, i2c, i1, isN3, notN3, eqS3, neS3, ixL3, ixT3, len3, all3, any3, abs3, max23, min23, isi3, isB3, truth3, start3, slot, flatT, scal, tyn, isNon, lenT, truT, isiB, Option.bind, take3, kb_non_bool, kb_non_int, kb_non_str, kb_non_list, kb_non_tuple, kb_bool_bool, kb_bool_int, kb_bool_str, kb_bool_list, kb_bool_tuple, kb_int_bool, kb_int_int, kb_int_str, kb_int_list, kb_int_tuple, kb_str_bool, kb_str_int, kb_str_str, kb_str_list, kb_str_tuple, kb_list_bool, kb_list_int, kb_list_str, kb_list_list, kb_list_tuple, kb_tuple_bool, kb_tuple_int, kb_tuple_str, kb_tuple_list, kb_tuple_tuple, b0] using q
  | some a =>
    cases b with
    | none => by_cases a0 : a = 1 <;> simp [eitherC, a0] at q <;> simpa [seq3, next3, ret3, retN3, ifs3, drop3, asg3, name3, tst3, and3, or3, not3, andV3, orV3, notV3, if3, v3, k3, op3, un3, nil3, cons3, call3, tup3, lst3, chain3, fn30, fn3, fnN30, fnN3, fnP30, i2, i2c, i1, isN3, notN3, eqS3, neS3, ixL3, ixT3, len3, all3, any3, abs3, max23, min23, isi3, isB3, truth3, start3, slot, flatT, scal, tyn, isNon, lenT, truT, isiB, Option.bind, take3, kb_non_bool, kb_non_int, kb_non_str, kb_non_list, kb_non_tuple, kb_bool_bool, kb_bool_int, kb_bool_str, kb_bool_list, kb_bool_tuple, kb_int_bool, kb_int_int, kb_int_str, kb_int_list, kb_int_tuple, kb_str_bool, kb_str_int, kb_str_str, kb_str_list, kb_str_tuple, kb_list_bool, kb_list_int, kb_list_str, kb_list_list, kb_list_tuple, kb_tuple_bool, kb_tuple_int, kb_tuple_str, kb_tuple_list, kb_tuple_tuple, a0] using q
    | some b => by_cases a0 : a = 1 <;> by_cases b0 : b = 1 <;> simp [eitherC, a0, b0] at q <;> simpa [seq3, next3, ret3, retN3, ifs3, drop3, asg3, name3, tst3, and3, or3, not3, andV3, orV3, notV3, if3, v3, k3, op3, un3, nil3, cons3, call3, tup3, lst3, chain3, fn30, fn3, fnN30, fnN3, fnP30, i2, i2c, i1, isN3, notN3, eqS3, neS3, ixL3, ixT3, len3, all3, any3, abs3, max23, min23, isi3, isB3, truth3, start3, slot, flatT, scal, tyn, isNon, lenT, truT, isiB, Option.bind, take3, kb_non_bool, kb_non_int, kb_non_str, kb_non_list, kb_non_tuple, kb_bool_bool, kb_bool_int, kb_bool_str, kb_bool_list, kb_bool_tuple, kb_int_bool, kb_int_int, kb_int_str, kb_int_list, kb_int_tuple, kb_str_bool, kb_str_int, kb_str_str, kb_str_list, kb_str_tuple, kb_list_bool, kb_list_int, kb_list_str, kb_list_list, kb_list_tuple, kb_tuple_bool, kb_tuple_int, kb_tuple_str, kb_tuple_list, kb_tuple_tuple, a0, b0] using q
theorem ok_contrary {f : Addr} {fd : FuncData} (F : Fun K "contrary" "contrary" s_contrary f fd)  : FnOk P w K mg base CX0 1 f fd ["truth"] (sp3 K 1 (c1 contraryC)) := by
  refine F.ok sc_contrary (sp3_len rfl) (fun cdv A outer s H vs Q E hr h => ?_)
  refine ⟨_, (pss_one (ps_ret (pe_ifExp (pt_cmpR op_isN (pv 0) pe_non (nomark _)) pe_non (pe_op op_sub pe_int (pv 0))))), ?_⟩
  refine body3 (W := fun cls dd _ H => E cls dd H) h (fun _ _ _ _ z => z) (lift_ret (lift_if (lift_tst (lift_op rl_isN (lift_v 0) lift_non)) lift_non (lift_op rl_sub (lift_int _) (lift_v 0)))) ?_
  intro ds Q3 X hl hf
  obtain ⟨x, e2, hf1⟩ := ob_iff.mp hf
  obtain ⟨a, ha, q⟩ := ob_iff.mp hf1
  cases one_is e2
  cases asC_is ha
  clear hf hf1 e2 h hl ha
  cases a <;> simp [contraryC] at q <;> simpa [seq3, next3, ret3, retN3, ifs3, drop3, asg3, name3, tst3, and3, or3, not3, andV3, orV3, notV3, if3, v3, k3, op3, un3, nil3, cons3, call3, tup3, lst3, chain3, fn30, fn3, fnN30, fnN3, fnP30, i2, i2c, i1, isN3, notN3, eqS3, neS3, ixL3, ixT3, len3, all3, any3, abs3, max23, min23, isi3, isB3, truth3, start3, slot, flatT, scal, tyn, isNon, lenT, truT, isiB, Option.bind, take3, kb_non_bool, kb_non_int, kb_non_str, kb_non_list, kb_non_tuple, kb_bool_bool, kb_bool_int, kb_bool_str, kb_bool_list, kb_bool_tuple, kb_int_bool, kb_int_int, kb_int_str, kb_int_list, kb_int_tuple, kb_str_bool, kb_str_int, kb_str_str, kb_str_list, kb_str_tuple, kb_list_bool, kb_list_int, kb_list_str, kb_list_list, kb_list_tuple, kb_tuple_bool, kb_tuple_int, kb_tuple_str, kb_tuple_list, kb_tuple_tuple] using q
end
end Law

namespace Law
open PySem L2 M3
abbrev s_law : Stmt := top 11
theorem sc_law : FnScope ["_law_script", "_law_pot_here", "_law_truths", "_law_one", "_law_due", "_law_other", "_law_pair", "_law_strict", "_law_wide", "_law_turn"] ["_law_script"] (defScope s_law) := ⟨rfl, rfl, rfl, by decide +kernel, rfl, by decide +kernel, by decide +kernel⟩
abbrev TR : List T := [.int 0, .int 1, .non]
def isTr (t : T) : Prop := t = .int 0 ∨ t = .int 1 ∨ t = .non
def dueT : T → T
  | .int i => .int (1 - i)
  | _ => .non
theorem TR_is : ∀ d ∈ TR, isTr d := by
  intro d hd
  simp [TR] at hd
  exact hd
section
variable {P : Program} {w : World} {K : PySem.W.Frag} {mg : Str → Option Value} {base : Heap}
theorem ok_law {f : Addr} {fd : FuncData} (F : Fun K "law" "law" s_law f fd) (zb_int : mg "int" = none) (zb_range : mg "range" = none)
    (c__law_pot_1 : Cl P w K mg base CX0 "_law_pot" 1 [] (spPot K)) (c__law_take_2 : Cl P w K mg base CX0 "_law_take" 1 [] (spP K 2 take3)) (c__law_same_2 : Cl P w K mg base CX0 "_law_same" 10 [] (sp3 K 2 (same3 10)))
    (c__law_cell_1 : Cl P w K mg base CX0 "_law_cell" 2 [] (spP K 1 cell3)) (c_alike_2 : Cl P w K mg base CX0 "alike" 1 [] (sp3 K 2 (c2 alikeC))) (c_below_2 : Cl P w K mg base CX0 "below" 1 [] (sp3 K 2 (c2 belowC)))
    (c_both_2 : Cl P w K mg base CX0 "both" 1 [] (sp3 K 2 (c2 bothC))) (c_either_2 : Cl P w K mg base CX0 "either" 1 [] (sp3 K 2 (c2 eitherC))) (c_contrary_1 : Cl P w K mg base CX0 "contrary" 1 [] (sp3 K 1 (c1 contraryC))) : FnOk P w K mg base CX0 12 f fd ["_law_script"] (spLaw K) := by
  refine F.ok sc_law (fun vs H Q E h => ?_) (fun cdv A outer s H vs Q E hr h => ?_)
  · obtain ⟨a, ns, rfl, _⟩ := h
    rfl
  obtain ⟨a, ns, rfl, hS, hQ⟩ := h
  refine ⟨_, pss_cons (ps_set (i := 1) sc_law.nd rfl (Or.inl rfl) (pe_cl c__law_pot_1 (hr.mono (by omega)) (by rfl) pass0 (pa_cons (pv 0) pa_nil))) (pss_cons (ps_set (i := 2) sc_law.nd rfl (Or.inl rfl) (pe_lst (pa_cons pe_int (pa_cons pe_int (pa_cons pe_non pa_nil)))))
      (pss_cons (ps_for PassesOwn.never (by rfl) (pi_listK (K := K) rfl (pv 2)) (pg_name (i := 3) sc_law.nd rfl (Or.inl rfl))
      (pss_cons (ps_set (i := 4) sc_law.nd rfl (Or.inl rfl) (pe_ifExp (pt_cmpR op_isN (pv 3) pe_non (nomark _)) pe_non (pe_op op_sub pe_int (pv 3))))
      (pss_cons (ps_if (pt_not (pt_val (pe_cl c__law_same_2 (hr.mono (by omega)) (by rfl) pass0 (pa_cons (pe_cl c_contrary_1 (hr.mono (by omega)) (by rfl) pass0 (pa_cons (pv 3) pa_nil)) (pa_cons (pv 4) pa_nil))))) (pss_one (ps_ret pe_bl)) pss_nil)
      (pss_one (ps_for PassesOwn.never (by rfl) (pi_listK (K := K) rfl (pv 2)) (pg_name (i := 5) sc_law.nd rfl (Or.inl rfl))
      (pss_cons (ps_set (i := 6) sc_law.nd rfl (Or.inl rfl) (pe_lst (pa_cons (pv 3) (pa_cons (pv 5) pa_nil))))
      (pss_cons (ps_set (i := 7) sc_law.nd rfl (Or.inl rfl) (pe_ifExp (pt_cmpR (op_inK (K := K) rfl) pe_int (pv 6) (by rfl)) pe_int (pe_ifExp (pt_cmpR (op_inK (K := K) rfl) pe_non (pv 6) (by rfl)) pe_non pe_int)))
      (pss_cons (ps_set (i := 8) sc_law.nd rfl (Or.inl rfl) (pe_ifExp (pt_cmpR (op_inK (K := K) rfl) pe_int (pv 6) (by rfl)) pe_int (pe_ifExp (pt_cmpR (op_inK (K := K) rfl) pe_non (pv 6) (by rfl)) pe_non pe_int)))
      (pss_cons (ps_if (pt_not (pt_val (pe_cl c__law_same_2 (hr.mono (by omega)) (by rfl) pass0 (pa_cons (pe_lst (pa_cons (pe_cl c_both_2 (hr.mono (by omega)) (by rfl) pass0 (pa_cons (pv 3) (pa_cons (pv 5) pa_nil))) (pa_cons (pe_cl c_either_2 (hr.mono (by omega)) (by rfl) pass0 (pa_cons (pv 3) (pa_cons (pv 5) pa_nil))) pa_nil))) (pa_cons (pe_lst (pa_cons (pv 7) (pa_cons (pv 8) pa_nil))) pa_nil))))) (pss_one (ps_ret pe_bl)) pss_nil)
      (pss_one (ps_if (pt_cmpR op_ne (pe_cl c_contrary_1 (hr.mono (by omega)) (by rfl) pass0 (pa_cons (pe_cl c_both_2 (hr.mono (by omega)) (by rfl) pass0 (pa_cons (pv 3) (pa_cons (pv 5) pa_nil))) pa_nil)) (pe_cl c_either_2 (hr.mono (by omega)) (by rfl) pass0 (pa_cons (pe_cl c_contrary_1 (hr.mono (by omega)) (by rfl) pass0 (pa_cons (pv 3) pa_nil)) (pa_cons (pe_cl c_contrary_1 (hr.mono (by omega)) (by rfl) pass0 (pa_cons (pv 5) pa_nil)) pa_nil))) (nomark _)) (pss_one (ps_ret pe_bl)) pss_nil)))))))))))
      (pss_cons (ps_for PassesOwn.never (by rfl) (pi_range1 (by rfl) zb_range (pa_cons pe_int pa_nil)) (pg_name (i := 9) sc_law.nd rfl (Or.inl rfl))
      (pss_cons (ps_set (i := 3) sc_law.nd rfl (Or.inl rfl) (pe_cl c__law_cell_1 (hr.mono (by omega)) (by rfl) pass0 (pa_cons (pv 1) pa_nil)))
      (pss_cons (ps_set (i := 5) sc_law.nd rfl (Or.inl rfl) (pe_ifExp (pt_cmpR op_eq (pe_cl c__law_take_2 (hr.mono (by omega)) (by rfl) pass0 (pa_cons (pv 1) (pa_cons pe_int pa_nil))) pe_int (nomark _)) (pv 3) (pe_cl c__law_cell_1 (hr.mono (by omega)) (by rfl) pass0 (pa_cons (pv 1) pa_nil))))
      (pss_cons (ps_set (i := 4) sc_law.nd rfl (Or.inl rfl) (pe_lst (pa_cons pe_non (pa_cons pe_non (pa_cons pe_non pa_nil)))))
      (pss_cons (ps_if (PW.pt (pw_and (pt_cmpR op_notN (pv 3) pe_non (nomark _)) (pw_and1 (pt_cmpR op_notN (pv 5) pe_non (nomark _))))) (pss_one (ps_set (i := 4) sc_law.nd rfl (Or.inl rfl) (pe_lst (pa_cons (pe_callTy call_int1 (by rfl) zb_int (by decide +kernel) (pa_cons (pe_cmpR op_eq (pv 3) (pv 5) (nomark _)) pa_nil)) (pa_cons (pe_callTy call_int1 (by rfl) zb_int (by decide +kernel) (pa_cons (pe_cmpR op_lt (pv 3) (pv 5) (nomark _)) pa_nil)) (pa_cons (pe_callTy call_int1 (by rfl) zb_int (by decide +kernel) (pa_cons (pe_cmpR op_lt (pv 5) (pv 3) (nomark _)) pa_nil)) pa_nil)))))) pss_nil)
      (pss_one (ps_if (pt_not (pt_val (pe_cl c__law_same_2 (hr.mono (by omega)) (by rfl) pass0 (pa_cons (pe_lst (pa_cons (pe_cl c_alike_2 (hr.mono (by omega)) (by rfl) pass0 (pa_cons (pv 3) (pa_cons (pv 5) pa_nil))) (pa_cons (pe_cl c_below_2 (hr.mono (by omega)) (by rfl) pass0 (pa_cons (pv 3) (pa_cons (pv 5) pa_nil))) (pa_cons (pe_cl c_below_2 (hr.mono (by omega)) (by rfl) pass0 (pa_cons (pv 5) (pa_cons (pv 3) pa_nil))) pa_nil)))) (pa_cons (pv 4) pa_nil))))) (pss_one (ps_ret pe_bl)) pss_nil)))))))
      (pss_one (ps_ret pe_bl))))), ?_⟩
  refine ⟨_, rfl, a, ns, rfl, hS, fun p cc H1 hp0 hc0 hp _ => ?_⟩
  refine law_rest (W := fun _ _ _ _ => False) 8 (lift_seq (lift_asg (lift_lst (lift_cons (lift_int _) (lift_cons (lift_int _) (lift_cons lift_non lift_nil)))) (lift_name (vs := [2]) 2 (by decide)))
      (lift_seq (lift_for (vs := [3]) (lift_iL (lift_v 2)) (lift_name 3 (by decide))
      (lift_seq (lift_asg (lift_if (lift_tst (lift_op rl_isN (lift_v 3) lift_non)) lift_non (lift_op rl_sub (lift_int _) (lift_v 3))) (lift_name (vs := [4]) 4 (by decide)))
      (lift_seq (lift_ifs (lift_not (lift_tB (lift_call0 (lift_cons (lift_call0 (lift_cons (lift_v 3) lift_nil) (fun _ => .nil)) (lift_cons (lift_v 4) lift_nil)) (fun _ => .nil)))) (lift_ret (lift_bl _)) lift_next)
      (lift_for (vs := [5]) (lift_iL (lift_v 2)) (lift_name 5 (by decide))
      (lift_seq (lift_asg (lift_lst (lift_cons (lift_v 3) (lift_cons (lift_v 5) lift_nil))) (lift_name (vs := [6]) 6 (by decide)))
      (lift_seq (lift_asg (lift_if (lift_tst (lift_op (rl_in false) (lift_int _) (lift_v 6))) (lift_int _) (lift_if (lift_tst (lift_op (rl_in false) lift_non (lift_v 6))) lift_non (lift_int _))) (lift_name (vs := [7]) 7 (by decide)))
      (lift_seq (lift_asg (lift_if (lift_tst (lift_op (rl_in false) (lift_int _) (lift_v 6))) (lift_int _) (lift_if (lift_tst (lift_op (rl_in false) lift_non (lift_v 6))) lift_non (lift_int _))) (lift_name (vs := [8]) 8 (by decide)))
      (lift_seq (lift_ifs (lift_not (lift_tB (lift_call0 (lift_cons (lift_lst (lift_cons (lift_call0 (lift_cons (lift_v 3) (lift_cons (lift_v 5) lift_nil)) (fun _ => .nil)) (lift_cons (lift_call0 (lift_cons (lift_v 3) (lift_cons (lift_v 5) lift_nil)) (fun _ => .nil)) lift_nil))) (lift_cons (lift_lst (lift_cons (lift_v 7) (lift_cons (lift_v 8) lift_nil))) lift_nil)) (fun _ => .nil)))) (lift_ret (lift_bl _)) lift_next)
      (lift_ifs (lift_tst (lift_op rl_neS (lift_call0 (lift_cons (lift_call0 (lift_cons (lift_v 3) (lift_cons (lift_v 5) lift_nil)) (fun _ => .nil)) lift_nil) (fun _ => .nil)) (lift_call0 (lift_cons (lift_call0 (lift_cons (lift_v 3) lift_nil) (fun _ => .nil)) (lift_cons (lift_call0 (lift_cons (lift_v 5) lift_nil) (fun _ => .nil)) lift_nil)) (fun _ => .nil)))) (lift_ret (lift_bl _)) lift_next)))))))))
      (lift_seq (lift_for (vs := [9]) (lift_iR (lift_cons (lift_int _) lift_nil)) (lift_name 9 (by decide))
      (lift_seq (lift_asg (lift_callP0 (lift_cons (lift_v 1) lift_nil) (fun _ => .nil)) (lift_name (vs := [3]) 3 (by decide)))
      (lift_seq (lift_asg (lift_if (lift_tst (lift_op rl_eqS (lift_callP0 (lift_cons (lift_v 1) (lift_cons (lift_int _) lift_nil)) (fun _ => .nil)) (lift_int _))) (lift_v 3) (lift_callP0 (lift_cons (lift_v 1) lift_nil) (fun _ => .nil))) (lift_name (vs := [5]) 5 (by decide)))
      (lift_seq (lift_asg (lift_lst (lift_cons lift_non (lift_cons lift_non (lift_cons lift_non lift_nil)))) (lift_name (vs := [4]) 4 (by decide)))
      (lift_seq (lift_ifs (lift_and (lift_tst (lift_op rl_notN (lift_v 3) lift_non)) (lift_tst (lift_op rl_notN (lift_v 5) lift_non))) (lift_asg (lift_lst (lift_cons (lift_cb rl_int1 (lift_cons (lift_op rl_eqS (lift_v 3) (lift_v 5)) lift_nil)) (lift_cons (lift_cb rl_int1 (lift_cons (lift_op rl_lt (lift_v 3) (lift_v 5)) lift_nil)) (lift_cons (lift_cb rl_int1 (lift_cons (lift_op rl_lt (lift_v 5) (lift_v 3)) lift_nil)) lift_nil)))) (lift_name (vs := [4]) 4 (by decide))) lift_next)
      (lift_ifs (lift_not (lift_tB (lift_call0 (lift_cons (lift_lst (lift_cons (lift_call0 (lift_cons (lift_v 3) (lift_cons (lift_v 5) lift_nil)) (fun _ => .nil)) (lift_cons (lift_call0 (lift_cons (lift_v 3) (lift_cons (lift_v 5) lift_nil)) (fun _ => .nil)) (lift_cons (lift_call0 (lift_cons (lift_v 5) (lift_cons (lift_v 3) lift_nil)) (fun _ => .nil)) lift_nil)))) (lift_cons (lift_v 4) lift_nil)) (fun _ => .nil)))) (lift_ret (lift_bl _)) lift_next))))))
      (lift_ret (lift_bl _))))) hp hQ ?_
  clear hr hQ hp hS hp0 hc0
  refine seq_by (fun σ' => σ' = [Sl.no, Sl.val (.ref p), Sl.val (.lst TR), Sl.no, Sl.no, Sl.no, Sl.no, Sl.no, Sl.no, Sl.no]) (fun nx hn => ?_) ?_
  · exact ⟨by show 3 ≤ sizeLine; decide, hn _ rfl⟩
  rintro σ' rfl
  refine seq_by (fun σ' => ∃ a b c d e f, σ' = [Sl.no, Sl.val (.ref p), Sl.val (.lst TR), a, b, c, d, e, f, Sl.no]) (fun nx hn => ?_) ?_
  · refine for_v (xs := TR) rfl ?_
    refine loop_name (fun ds σ => (∀ d ∈ ds, isTr d) ∧ ∃ a b c d e f, σ = [Sl.no, Sl.val (.ref p), Sl.val (.lst TR), a, b, c, d, e, f, Sl.no]) _ _ ⟨TR_is, _, _, _, _, _, _, rfl⟩ (fun σ h => hn σ h.2) ?_
    rintro x r σ ⟨hx, a, b, c, d, e, f, rfl⟩ nx2 hn2
    have hx0 := hx x (List.mem_cons_self ..)
    replace hn2 := fun σ2 h => hn2 σ2 ⟨fun d hd => hx d (List.mem_cons_of_mem _ hd), h⟩
    refine seq_by (fun σ' => σ' = [Sl.no, Sl.val (.ref p), Sl.val (.lst TR), Sl.val x, Sl.val (dueT x), c, d, e, f, Sl.no]) (fun nx hn => ?_) ?_
    · have e := hn _ rfl
      rcases hx0 with rfl | rfl | rfl <;> simpa [seq3, next3, ret3, retN3, ifs3, drop3, asg3, name3, tst3, and3, or3, not3, andV3, orV3, notV3, if3, v3, k3, op3, un3, nil3, cons3, call3, tup3, lst3, chain3, fn30, fn3, fnN30, fnN3, fnP30, i2, i2c, i1, isN3, notN3, eqS3, neS3, ixL3, ixT3, len3, all3, any3, abs3, max23, min23, isi3, isB3, truth3, start3, slot, flatT, scal, tyn, isNon, lenT, truT, isiB, Option.bind, take3, kb_non_bool, kb_non_int, kb_non_str, kb_non_list, kb_non_tuple, kb_bool_bool, kb_bool_int, kb_bool_str, kb_bool_list, kb_bool_tuple, kb_int_bool, kb_int_int, kb_int_str, kb_int_list, kb_int_tuple, kb_str_bool, kb_str_int, kb_str_str, kb_str_list, kb_str_tuple, kb_list_bool, kb_list_int, kb_list_str, kb_list_list, kb_list_tuple, kb_tuple_bool, kb_tuple_int, kb_tuple_str, kb_tuple_list, kb_tuple_tuple, dueT] using e
    rintro σ' rfl
    refine seq_by (fun σ' => σ' = [Sl.no, Sl.val (.ref p), Sl.val (.lst TR), Sl.val x, Sl.val (dueT x), c, d, e, f, Sl.no]) (fun nx hn => ?_) ?_
    · have e := hn _ rfl
      rcases hx0 with rfl | rfl | rfl <;> simpa [seq3, next3, ret3, retN3, ifs3, drop3, asg3, name3, tst3, and3, or3, not3, andV3, orV3, notV3, if3, v3, k3, op3, un3, nil3, cons3, call3, tup3, lst3, chain3, fn30, fn3, fnN30, fnN3, fnP30, i2, i2c, i1, isN3, notN3, eqS3, neS3, ixL3, ixT3, len3, all3, any3, abs3, max23, min23, isi3, isB3, truth3, start3, slot, flatT, scal, tyn, isNon, lenT, truT, isiB, Option.bind, take3, kb_non_bool, kb_non_int, kb_non_str, kb_non_list, kb_non_tuple, kb_bool_bool, kb_bool_int, kb_bool_str, kb_bool_list, kb_bool_tuple, kb_int_bool, kb_int_int, kb_int_str, kb_int_list, kb_int_tuple, kb_str_bool, kb_str_int, kb_str_str, kb_str_list, kb_str_tuple, kb_list_bool, kb_list_int, kb_list_str, kb_list_list, kb_list_tuple, kb_tuple_bool, kb_tuple_int, kb_tuple_str, kb_tuple_list, kb_tuple_tuple, dueT, c1, contraryC, same3] using e
    rintro σ' rfl
    refine for_v (xs := TR) rfl ?_
    refine loop_name (fun ds σ => (∀ d ∈ ds, isTr d) ∧ ∃ c d e f, σ = [Sl.no, Sl.val (.ref p), Sl.val (.lst TR), Sl.val x, Sl.val (dueT x), c, d, e, f, Sl.no]) _ _ ⟨TR_is, _, _, _, _, rfl⟩ (fun σ h => ?_) ?_
    · obtain ⟨_, c, d, e, f, rfl⟩ := h
      exact hn2 _ ⟨_, _, _, _, _, _, rfl⟩
    rintro y r2 σ ⟨hy, c, d, e, f, rfl⟩ nx3 hn3
    have hy0 := hy y (List.mem_cons_self ..)
    replace hn3 := fun σ2 h => hn3 σ2 ⟨fun d hd => hy d (List.mem_cons_of_mem _ hd), h⟩
    obtain ⟨xa, ex⟩ : ∃ xa, asC x = some xa := by rcases hx0 with rfl | rfl | rfl <;> exact ⟨_, rfl⟩
    obtain ⟨ya, ey⟩ : ∃ ya, asC y = some ya := by rcases hy0 with rfl | rfl | rfl <;> exact ⟨_, rfl⟩
    refine seq_by (fun σ' => σ' = [Sl.no, Sl.val (.ref p), Sl.val (.lst TR), Sl.val x, Sl.val (dueT x), Sl.val y, Sl.val (.lst [x, y]), e, f, Sl.no]) (fun nx hn => ?_) ?_
    · exact ⟨by show 2 ≤ sizeLine; decide, hn _ rfl⟩
    rintro σ' rfl
    refine seq_by (fun σ' => σ' = [Sl.no, Sl.val (.ref p), Sl.val (.lst TR), Sl.val x, Sl.val (dueT x), Sl.val y, Sl.val (.lst [x, y]), Sl.val (ofC (bothC xa ya)), f, Sl.no]) (fun nx hn => ?_) ?_
    · have e := hn _ rfl
      rcases hx0 with rfl | rfl | rfl <;> rcases hy0 with rfl | rfl | rfl <;> cases ex <;> cases ey <;> simpa [seq3, next3, ret3, retN3, ifs3, drop3, asg3, name3, tst3, and3, or3, not3, andV3, orV3, notV3, if3, v3, k3, op3, un3, nil3, cons3, call3, tup3, lst3, chain3, fn30, fn3, fnN30, fnN3, fnP30, i2, i2c, i1, isN3, notN3, eqS3, neS3, ixL3, ixT3, len3, all3, any3, abs3, max23, min23, isi3, isB3, truth3, start3, slot, flatT, scal, tyn, isNon, lenT, truT, isiB, Option.bind, take3, kb_non_bool, kb_non_int, kb_non_str, kb_non_list, kb_non_tuple, kb_bool_bool, kb_bool_int, kb_bool_str, kb_bool_list, kb_bool_tuple, kb_int_bool, kb_int_int, kb_int_str, kb_int_list, kb_int_tuple, kb_str_bool, kb_str_int, kb_str_str, kb_str_list, kb_str_tuple, kb_list_bool, kb_list_int, kb_list_str, kb_list_list, kb_list_tuple, kb_tuple_bool, kb_tuple_int, kb_tuple_str, kb_tuple_list, kb_tuple_tuple, in3, items, flats, inV, eqV, bothC] using e
    rintro σ' rfl
    refine seq_by (fun σ' => σ' = [Sl.no, Sl.val (.ref p), Sl.val (.lst TR), Sl.val x, Sl.val (dueT x), Sl.val y, Sl.val (.lst [x, y]), Sl.val (ofC (bothC xa ya)), Sl.val (ofC (eitherC xa ya)), Sl.no]) (fun nx hn => ?_) ?_
    · have e := hn _ rfl
      rcases hx0 with rfl | rfl | rfl <;> rcases hy0 with rfl | rfl | rfl <;> cases ex <;> cases ey <;> simpa [seq3, next3, ret3, retN3, ifs3, drop3, asg3, name3, tst3, and3, or3, not3, andV3, orV3, notV3, if3, v3, k3, op3, un3, nil3, cons3, call3, tup3, lst3, chain3, fn30, fn3, fnN30, fnN3, fnP30, i2, i2c, i1, isN3, notN3, eqS3, neS3, ixL3, ixT3, len3, all3, any3, abs3, max23, min23, isi3, isB3, truth3, start3, slot, flatT, scal, tyn, isNon, lenT, truT, isiB, Option.bind, take3, kb_non_bool, kb_non_int, kb_non_str, kb_non_list, kb_non_tuple, kb_bool_bool, kb_bool_int, kb_bool_str, kb_bool_list, kb_bool_tuple, kb_int_bool, kb_int_int, kb_int_str, kb_int_list, kb_int_tuple, kb_str_bool, kb_str_int, kb_str_str, kb_str_list, kb_str_tuple, kb_list_bool, kb_list_int, kb_list_str, kb_list_list, kb_list_tuple, kb_tuple_bool, kb_tuple_int, kb_tuple_str, kb_tuple_list, kb_tuple_tuple, in3, items, flats, inV, eqV, eitherC] using e
    rintro σ' rfl
    refine seq_by (fun σ' => σ' = [Sl.no, Sl.val (.ref p), Sl.val (.lst TR), Sl.val x, Sl.val (dueT x), Sl.val y, Sl.val (.lst [x, y]), Sl.val (ofC (bothC xa ya)), Sl.val (ofC (eitherC xa ya)), Sl.no]) (fun nx hn => ?_) ?_
    · have e := hn _ rfl
      have sl : 2 ≤ sizeLine := by decide
      rcases hx0 with rfl | rfl | rfl <;> rcases hy0 with rfl | rfl | rfl <;> cases ex <;> cases ey <;> simpa [seq3, next3, ret3, retN3, ifs3, drop3, asg3, name3, tst3, and3, or3, not3, andV3, orV3, notV3, if3, v3, k3, op3, un3, nil3, cons3, call3, tup3, lst3, chain3, fn30, fn3, fnN30, fnN3, fnP30, i2, i2c, i1, isN3, notN3, eqS3, neS3, ixL3, ixT3, len3, all3, any3, abs3, max23, min23, isi3, isB3, truth3, start3, slot, flatT, scal, tyn, isNon, lenT, truT, isiB, Option.bind, take3, kb_non_bool, kb_non_int, kb_non_str, kb_non_list, kb_non_tuple, kb_bool_bool, kb_bool_int, kb_bool_str, kb_bool_list, kb_bool_tuple, kb_int_bool, kb_int_int, kb_int_str, kb_int_list, kb_int_tuple, kb_str_bool, kb_str_int, kb_str_str, kb_str_list, kb_str_tuple, kb_list_bool, kb_list_int, kb_list_str, kb_list_list, kb_list_tuple, kb_tuple_bool, kb_tuple_int, kb_tuple_str, kb_tuple_list, kb_tuple_tuple, c2, bothC, eitherC, same3, sl] using e
    rintro σ' rfl
    have e := hn3 [Sl.no, Sl.val (.ref p), Sl.val (.lst TR), Sl.val x, Sl.val (dueT x), Sl.val y, Sl.val (.lst [x, y]), Sl.val (ofC (bothC xa ya)), Sl.val (ofC (eitherC xa ya)), Sl.no] ⟨_, _, _, _, rfl⟩
    rcases hx0 with rfl | rfl | rfl <;> rcases hy0 with rfl | rfl | rfl <;> cases ex <;> cases ey <;> simpa [seq3, next3, ret3, retN3, ifs3, drop3, asg3, name3, tst3, and3, or3, not3, andV3, orV3, notV3, if3, v3, k3, op3, un3, nil3, cons3, call3, tup3, lst3, chain3, fn30, fn3, fnN30, fnN3, fnP30, i2, i2c, i1, isN3, notN3, eqS3, neS3, ixL3, ixT3, len3, all3, any3, abs3, max23, min23, isi3, isB3, truth3, start3, slot, flatT, scal, tyn, isNon, lenT, truT, isiB, Option.bind, take3, kb_non_bool, kb_non_int, kb_non_str, kb_non_list, kb_non_tuple, kb_bool_bool, kb_bool_int, kb_bool_str, kb_bool_list, kb_bool_tuple, kb_int_bool, kb_int_int, kb_int_str, kb_int_list, kb_int_tuple, kb_str_bool, kb_str_int, kb_str_str, kb_str_list, kb_str_tuple, kb_list_bool, kb_list_int, kb_list_str, kb_list_list, kb_list_tuple, kb_tuple_bool, kb_tuple_int, kb_tuple_str, kb_tuple_list, kb_tuple_tuple, c2, c1, bothC, eitherC, contraryC] using e
  rintro σ' ⟨a, b, c, d, e, f, rfl⟩
  refine seq_by (fun σ' => ∃ a b c d e f g, σ' = [Sl.no, Sl.val (.ref p), Sl.val (.lst TR), a, b, c, d, e, f, g]) (fun nx hn => ?_) ?_
  · refine ⟨by decide, by decide, ?_⟩
    refine loop_name (fun _ σ => ∃ a b c d e f g, σ = [Sl.no, Sl.val (.ref p), Sl.val (.lst TR), a, b, c, d, e, f, g]) _ _ ⟨_, _, _, _, _, _, _, rfl⟩ hn ?_
    rintro x r σ ⟨a, b, c, d, e, f, g, rfl⟩ nx2 hn2
    have ce : ∀ t, isCellTree t → ∃ a, t = ofC a := fun t h => by
      rcases h with rfl | ⟨i, rfl, _⟩
      · exact ⟨none, rfl⟩
      · exact ⟨some i, rfl⟩
    refine seq_by (fun σ' => ∃ u, σ' = [Sl.no, Sl.val (.ref p), Sl.val (.lst TR), Sl.val (ofC u), b, c, d, e, f, Sl.val x]) (fun nx hn => ?_) ?_
    · refine ⟨rfl, rfl, fun t ht => ?_⟩
      obtain ⟨u, rfl⟩ := ce t ht
      exact hn _ ⟨u, rfl⟩
    rintro σ' ⟨u, rfl⟩
    refine seq_by (fun σ' => ∃ v, σ' = [Sl.no, Sl.val (.ref p), Sl.val (.lst TR), Sl.val (ofC u), b, Sl.val (ofC v), d, e, f, Sl.val x]) (fun nx hn => ?_) ?_
    · simp [seq3, next3, ret3, retN3, ifs3, drop3, asg3, name3, tst3, and3, or3, not3, andV3, orV3, notV3, if3, v3, k3, op3, un3, nil3, cons3, call3, tup3, lst3, chain3, fn30, fn3, fnN30, fnN3, fnP30, i2, i2c, i1, isN3, notN3, eqS3, neS3, ixL3, ixT3, len3, all3, any3, abs3, max23, min23, isi3, isB3, truth3, start3, slot, flatT, scal, tyn, isNon, lenT, truT, isiB, Option.bind, take3, kb_non_bool, kb_non_int, kb_non_str, kb_non_list, kb_non_tuple, kb_bool_bool, kb_bool_int, kb_bool_str, kb_bool_list, kb_bool_tuple, kb_int_bool, kb_int_int, kb_int_str, kb_int_list, kb_int_tuple, kb_str_bool, kb_str_int, kb_str_str, kb_str_list, kb_str_tuple, kb_list_bool, kb_list_int, kb_list_str, kb_list_list, kb_list_tuple, kb_tuple_bool, kb_tuple_int, kb_tuple_str, kb_tuple_list, kb_tuple_tuple, cell3]
      intro z z0 z1
      by_cases a0 : z = 0
      · simpa [a0] using hn _ ⟨u, rfl⟩
      · simp [a0]
        intro t ht
        obtain ⟨v, rfl⟩ := ce t ht
        exact hn _ ⟨v, rfl⟩
    rintro σ' ⟨v, rfl⟩
    refine seq_by (fun σ' => σ' = [Sl.no, Sl.val (.ref p), Sl.val (.lst TR), Sl.val (ofC u), Sl.val (.lst [.non, .non, .non]), Sl.val (ofC v), d, e, f, Sl.val x]) (fun nx hn => ?_) ?_
    · exact ⟨by show 3 ≤ sizeLine; decide, hn _ rfl⟩
    rintro σ' rfl
    have sl : 3 ≤ sizeLine := by decide
    refine seq_by (fun σ' => σ' = [Sl.no, Sl.val (.ref p), Sl.val (.lst TR), Sl.val (ofC u), Sl.val (.lst [ofC (alikeC u v), ofC (belowC u v), ofC (belowC v u)]), Sl.val (ofC v), d, e, f, Sl.val x]) (fun nx hn => ?_) ?_
    · have e := hn _ rfl
      cases u <;> cases v <;> simpa [seq3, next3, ret3, retN3, ifs3, drop3, asg3, name3, tst3, and3, or3, not3, andV3, orV3, notV3, if3, v3, k3, op3, un3, nil3, cons3, call3, tup3, lst3, chain3, fn30, fn3, fnN30, fnN3, fnP30, i2, i2c, i1, isN3, notN3, eqS3, neS3, ixL3, ixT3, len3, all3, any3, abs3, max23, min23, isi3, isB3, truth3, start3, slot, flatT, scal, tyn, isNon, lenT, truT, isiB, Option.bind, take3, kb_non_bool, kb_non_int, kb_non_str, kb_non_list, kb_non_tuple, kb_bool_bool, kb_bool_int, kb_bool_str, kb_bool_list, kb_bool_tuple, kb_int_bool, kb_int_int, kb_int_str, kb_int_list, kb_int_tuple, kb_str_bool, kb_str_int, kb_str_str, kb_str_list, kb_str_tuple, kb_list_bool, kb_list_int, kb_list_str, kb_list_list, kb_list_tuple, kb_tuple_bool, kb_tuple_int, kb_tuple_str, kb_tuple_list, kb_tuple_tuple, alikeC, belowC, int13, toI, sl] using e
    rintro σ' rfl
    have e := hn2 [Sl.no, Sl.val (.ref p), Sl.val (.lst TR), Sl.val (ofC u), Sl.val (.lst [ofC (alikeC u v), ofC (belowC u v), ofC (belowC v u)]), Sl.val (ofC v), d, e, f, Sl.val x] ⟨_, _, _, _, _, _, _, rfl⟩
    cases u <;> cases v <;> simpa [seq3, next3, ret3, retN3, ifs3, drop3, asg3, name3, tst3, and3, or3, not3, andV3, orV3, notV3, if3, v3, k3, op3, un3, nil3, cons3, call3, tup3, lst3, chain3, fn30, fn3, fnN30, fnN3, fnP30, i2, i2c, i1, isN3, notN3, eqS3, neS3, ixL3, ixT3, len3, all3, any3, abs3, max23, min23, isi3, isB3, truth3, start3, slot, flatT, scal, tyn, isNon, lenT, truT, isiB, Option.bind, take3, kb_non_bool, kb_non_int, kb_non_str, kb_non_list, kb_non_tuple, kb_bool_bool, kb_bool_int, kb_bool_str, kb_bool_list, kb_bool_tuple, kb_int_bool, kb_int_int, kb_int_str, kb_int_list, kb_int_tuple, kb_str_bool, kb_str_int, kb_str_str, kb_str_list, kb_str_tuple, kb_list_bool, kb_list_int, kb_list_str, kb_list_list, kb_list_tuple, kb_tuple_bool, kb_tuple_int, kb_tuple_str, kb_tuple_list, kb_tuple_tuple, c2, alikeC, belowC, same3, sl] using e
  rintro σ' ⟨a, b, c, d, e, f, g, rfl⟩
  exact rfl
end
end Law

namespace Law
open PySem L2 M3
theorem all_mk {l : PySem.W.OpenLaw} {w : World} {K : PySem.W.Frag} {h : Heap} {mg : Str → Option Value} {fa : Addr} (X : K.In h) (G : h.Ns mainGlobals mg) (hfa : mg "law" = some (.ref fa))
    {f0 : Addr} {od0 an0 : Option Addr} {sl0 : Array (Option Value)} {oc0 kV0 dc0 pm0 cd0 ct0 : Value} {f1 : Addr} {od1 an1 : Option Addr} {sl1 : Array (Option Value)} {oc1 kV1 dc1 pm1 cd1 ct1 : Value} {f2 : Addr} {od2 an2 : Option Addr} {sl2 : Array (Option Value)} {oc2 kV2 dc2 pm2 cd2 ct2 : Value} {f3 : Addr} {od3 an3 : Option Addr} {sl3 : Array (Option Value)} {oc3 kV3 dc3 pm3 cd3 ct3 : Value} {f4 : Addr} {od4 an4 : Option Addr} {sl4 : Array (Option Value)} {oc4 kV4 dc4 pm4 cd4 ct4 : Value} {f5 : Addr} {od5 an5 : Option Addr} {sl5 : Array (Option Value)} {oc5 kV5 dc5 pm5 cd5 ct5 : Value} {f6 : Addr} {od6 an6 : Option Addr} {sl6 : Array (Option Value)} {oc6 kV6 dc6 pm6 cd6 ct6 : Value} {f7 : Addr} {od7 an7 : Option Addr} {sl7 : Array (Option Value)} {oc7 kV7 dc7 pm7 cd7 ct7 : Value} {f8 : Addr} {od8 an8 : Option Addr} {sl8 : Array (Option Value)} {oc8 kV8 dc8 pm8 cd8 ct8 : Value} {f9 : Addr} {od9 an9 : Option Addr} {sl9 : Array (Option Value)} {oc9 kV9 dc9 pm9 cd9 ct9 : Value}
    (a0 : PySem.W.nsIn K mainGlobals "alike" = some (some (.ref f0)))
    (l0 : K.lookup f0 = some ⟨oc0, od0, .func (PySem.W.fnOf "alike" "alike" (defArgs s_alike) (defBody s_alike) (defScope s_alike) .none kV0 dc0 pm0 an0 cd0 ct0), sl0⟩)
    (c0 : PySem.W.codeIn K cd0 "alike" = true)
    (k0 : PySem.W.keepIn K (.ref f0) = true)
    (a1 : PySem.W.nsIn K mainGlobals "below" = some (some (.ref f1)))
    (l1 : K.lookup f1 = some ⟨oc1, od1, .func (PySem.W.fnOf "below" "below" (defArgs s_below) (defBody s_below) (defScope s_below) .none kV1 dc1 pm1 an1 cd1 ct1), sl1⟩)
    (c1 : PySem.W.codeIn K cd1 "below" = true)
    (k1 : PySem.W.keepIn K (.ref f1) = true)
    (a2 : PySem.W.nsIn K mainGlobals "both" = some (some (.ref f2)))
    (l2 : K.lookup f2 = some ⟨oc2, od2, .func (PySem.W.fnOf "both" "both" (defArgs s_both) (defBody s_both) (defScope s_both) .none kV2 dc2 pm2 an2 cd2 ct2), sl2⟩)
    (c2 : PySem.W.codeIn K cd2 "both" = true)
    (k2 : PySem.W.keepIn K (.ref f2) = true)
    (a3 : PySem.W.nsIn K mainGlobals "either" = some (some (.ref f3)))
    (l3 : K.lookup f3 = some ⟨oc3, od3, .func (PySem.W.fnOf "either" "either" (defArgs s_either) (defBody s_either) (defScope s_either) .none kV3 dc3 pm3 an3 cd3 ct3), sl3⟩)
    (c3 : PySem.W.codeIn K cd3 "either" = true)
    (k3 : PySem.W.keepIn K (.ref f3) = true)
    (a4 : PySem.W.nsIn K mainGlobals "contrary" = some (some (.ref f4)))
    (l4 : K.lookup f4 = some ⟨oc4, od4, .func (PySem.W.fnOf "contrary" "contrary" (defArgs s_contrary) (defBody s_contrary) (defScope s_contrary) .none kV4 dc4 pm4 an4 cd4 ct4), sl4⟩)
    (c4 : PySem.W.codeIn K cd4 "contrary" = true)
    (k4 : PySem.W.keepIn K (.ref f4) = true)
    (a5 : PySem.W.nsIn K mainGlobals "_law_pot" = some (some (.ref f5)))
    (l5 : K.lookup f5 = some ⟨oc5, od5, .func (PySem.W.fnOf "_law_pot" "_law_pot" (defArgs s_Lpot) (defBody s_Lpot) (defScope s_Lpot) .none kV5 dc5 pm5 an5 cd5 ct5), sl5⟩)
    (c5 : PySem.W.codeIn K cd5 "_law_pot" = true)
    (k5 : PySem.W.keepIn K (.ref f5) = true)
    (a6 : PySem.W.nsIn K mainGlobals "_law_take" = some (some (.ref f6)))
    (l6 : K.lookup f6 = some ⟨oc6, od6, .func (PySem.W.fnOf "_law_take" "_law_take" (defArgs s_Ltake) (defBody s_Ltake) (defScope s_Ltake) .none kV6 dc6 pm6 an6 cd6 ct6), sl6⟩)
    (c6 : PySem.W.codeIn K cd6 "_law_take" = true)
    (k6 : PySem.W.keepIn K (.ref f6) = true)
    (a7 : PySem.W.nsIn K mainGlobals "_law_same" = some (some (.ref f7)))
    (l7 : K.lookup f7 = some ⟨oc7, od7, .func (PySem.W.fnOf "_law_same" "_law_same" (defArgs s_Lsame) (defBody s_Lsame) (defScope s_Lsame) .none kV7 dc7 pm7 an7 cd7 ct7), sl7⟩)
    (c7 : PySem.W.codeIn K cd7 "_law_same" = true)
    (k7 : PySem.W.keepIn K (.ref f7) = true)
    (a8 : PySem.W.nsIn K mainGlobals "_law_cell" = some (some (.ref f8)))
    (l8 : K.lookup f8 = some ⟨oc8, od8, .func (PySem.W.fnOf "_law_cell" "_law_cell" (defArgs s_Lcell) (defBody s_Lcell) (defScope s_Lcell) .none kV8 dc8 pm8 an8 cd8 ct8), sl8⟩)
    (c8 : PySem.W.codeIn K cd8 "_law_cell" = true)
    (k8 : PySem.W.keepIn K (.ref f8) = true)
    (a9 : PySem.W.nsIn K mainGlobals "law" = some (some (.ref f9)))
    (l9 : K.lookup f9 = some ⟨oc9, od9, .func (PySem.W.fnOf "law" "law" (defArgs s_law) (defBody s_law) (defScope s_law) .none kV9 dc9 pm9 an9 cd9 ct9), sl9⟩)
    (c9 : PySem.W.codeIn K cd9 "law" = true)
    (k9 : PySem.W.keepIn K (.ref f9) = true)
    (z_abs : PySem.W.nsIn K mainGlobals "abs" = some none)
    (z_all : PySem.W.nsIn K mainGlobals "all" = some none)
    (z_bool : PySem.W.nsIn K mainGlobals "bool" = some none)
    (z_int : PySem.W.nsIn K mainGlobals "int" = some none)
    (z_isinstance : PySem.W.nsIn K mainGlobals "isinstance" = some none)
    (z_len : PySem.W.nsIn K mainGlobals "len" = some none)
    (z_list : PySem.W.nsIn K mainGlobals "list" = some none)
    (z_range : PySem.W.nsIn K mainGlobals "range" = some none)
    (z_str : PySem.W.nsIn K mainGlobals "str" = some none)
    (z_tuple : PySem.W.nsIn K mainGlobals "tuple" = some none)
    (z_zip : PySem.W.nsIn K mainGlobals "zip" = some none) :
    ∃ fd : FuncData, (∀ (s : Shared) (v : Value), BindsTo s fd ⟨[v], []⟩ [("_law_script", v)]) ∧ ∀ base : Heap, K.In base → base.Ns mainGlobals mg → FnOk l.prog w K mg base CX0 12 fa fd ["_law_script"] (spLaw K) := by
  have e := hfa.symm.trans (PySem.W.mg_of X G a9)
  cases e
  have m0 := PySem.W.mg_of X G a0
  have F_alike := fun_mk (st := s_alike) l0 c0 k0
  have m1 := PySem.W.mg_of X G a1
  have F_below := fun_mk (st := s_below) l1 c1 k1
  have m2 := PySem.W.mg_of X G a2
  have F_both := fun_mk (st := s_both) l2 c2 k2
  have m3 := PySem.W.mg_of X G a3
  have F_either := fun_mk (st := s_either) l3 c3 k3
  have m4 := PySem.W.mg_of X G a4
  have F_contrary := fun_mk (st := s_contrary) l4 c4 k4
  have m5 := PySem.W.mg_of X G a5
  have F__law_pot := fun_mk (st := s_Lpot) l5 c5 k5
  have m6 := PySem.W.mg_of X G a6
  have F__law_take := fun_mk (st := s_Ltake) l6 c6 k6
  have m7 := PySem.W.mg_of X G a7
  have F__law_same := fun_mk (st := s_Lsame) l7 c7 k7
  have m8 := PySem.W.mg_of X G a8
  have F__law_cell := fun_mk (st := s_Lcell) l8 c8 k8
  have m9 := PySem.W.mg_of X G a9
  have F_law := fun_mk (st := s_law) l9 c9 k9
  have zb_abs := PySem.W.mg_none_of X G z_abs
  have zb_all := PySem.W.mg_none_of X G z_all
  have zb_bool := PySem.W.mg_none_of X G z_bool
  have zb_int := PySem.W.mg_none_of X G z_int
  have zb_isinstance := PySem.W.mg_none_of X G z_isinstance
  have zb_len := PySem.W.mg_none_of X G z_len
  have zb_list := PySem.W.mg_none_of X G z_list
  have zb_range := PySem.W.mg_none_of X G z_range
  have zb_str := PySem.W.mg_none_of X G z_str
  have zb_tuple := PySem.W.mg_none_of X G z_tuple
  have zb_zip := PySem.W.mg_none_of X G z_zip
  refine ⟨PySem.W.fnOf "law" "law" (defArgs s_law) (defBody s_law) (defScope s_law) .none kV9 dc9 pm9 an9 cd9 ct9, fun s v => .of_eq rfl, fun base _ _ => ?_⟩
  have b0 := F_alike.binds (ps := ["one", "other"]) fun _ _ _ _ _ _ us hl => match us, hl with | [_, _], _ => rfl
  have b1 := F_below.binds (ps := ["one", "other"]) fun _ _ _ _ _ _ us hl => match us, hl with | [_, _], _ => rfl
  have b2 := F_both.binds (ps := ["one", "other"]) fun _ _ _ _ _ _ us hl => match us, hl with | [_, _], _ => rfl
  have b3 := F_either.binds (ps := ["one", "other"]) fun _ _ _ _ _ _ us hl => match us, hl with | [_, _], _ => rfl
  have b4 := F_contrary.binds (ps := ["truth"]) fun _ _ _ _ _ _ us hl => match us, hl with | [_], _ => rfl
  have b5 := F__law_pot.binds (ps := ["_law_script"]) fun _ _ _ _ _ _ us hl => match us, hl with | [_], _ => rfl
  have b6 := F__law_take.binds (ps := ["_law_pot_here", "_law_many"]) fun _ _ _ _ _ _ us hl => match us, hl with | [_, _], _ => rfl
  have b7 := F__law_same.binds (ps := ["_law_found", "_law_due"]) fun _ _ _ _ _ _ us hl => match us, hl with | [_, _], _ => rfl
  have b8 := F__law_cell.binds (ps := ["_law_pot_here"]) fun _ _ _ _ _ _ us hl => match us, hl with | [_], _ => rfl
  have b9 := F_law.binds (ps := ["_law_script"]) fun _ _ _ _ _ _ us hl => match us, hl with | [_], _ => rfl
  have T1 : Cl l.prog w K mg base CX0 "_law_take" 1 [] (spP K 2 take3) := ⟨f6, _, _, [], (ok_Ltake F__law_take zb_len).imp take_imp, m6, k6, b6, .nil⟩
  exact ok_law F_law zb_int zb_range ⟨f5, _, _, [], ok_Lpot F__law_pot zb_abs, m5, k5, b5, .nil⟩ T1 (ok_Lsame F__law_same zb_all zb_bool zb_int zb_isinstance zb_len zb_list zb_str zb_tuple zb_zip m7 b7 10)
    ⟨f8, _, _, [], ok_Lcell F__law_cell T1, m8, k8, b8, .nil⟩ ⟨f0, _, _, [], ok_alike F_alike zb_int, m0, k0, b0, .nil⟩ ⟨f1, _, _, [], ok_below F_below zb_int, m1, k1, b1, .nil⟩
    ⟨f2, _, _, [], ok_both F_both, m2, k2, b2, .nil⟩ ⟨f3, _, _, [], ok_either F_either, m3, k3, b3, .nil⟩ ⟨f4, _, _, [], ok_contrary F_contrary, m4, k4, b4, .nil⟩
theorem walk {l : PySem.W.OpenLaw} {q : Program} {loose : List Str} {XP : (Str → Option Value) → Heap → Prop} {YP : World → Heap → Prop} {d : DefRec} {K : Params → PySem.W.Frag} (hn : l.most = some 63) (hdf : d.params.defaults = [])
    (hY : ∀ (w : World) (h : Heap), YP w h → (K w.params).In h)
    (F : ∀ (w : World) (mg : Str → Option Value) (fa : Addr) (h : Heap), (K w.params).In h → h.Ns mainGlobals mg → mg d.name = some (.ref fa) →
      ∃ fd : FuncData, (∀ (s : Shared) (u : Value), BindsTo s fd ⟨[u], []⟩ [("_law_script", u)]) ∧ ∀ base : Heap, (K w.params).In base → base.Ns mainGlobals mg → FnOk l.prog w (K w.params) mg base CX0 12 fa fd ["_law_script"] (spLaw (K w.params))) :
    PySem.W.WalkO q loose XP YP l.row.toRowW d [] (fun f vs => PySem.call f vs) :=
  L2.walk_of (n := 63) (k := 12) (x := "_law_script") (CX := fun _ => CX0) (sp := fun w => spLaw (K w.params)) hn (by decide) hdf ⟨rfl, by decide, by decide⟩ hY F (fun _ _ a ns hl _ hS => ⟨a, ns, rfl, hS, fun _ => rfl⟩) fun _ _ _ _ _ z => z
end Law
open PySem PySem.W PyProof.Rows
set_option maxRecDepth 100000 in
set_option maxHeartbeats 0 in
theorem PySem.Challenge.cw_onepour_k03_truths_of_three_kinds_holds : PySem.Challenge.rw_onepour_k03_truths_of_three_kinds.Holds := by
  w_on; o_law; k_head; (case hw => w_witness2)
  k_fill
  refine Law.walk (l := PySem.Challenge.rw_onepour_k03_truths_of_three_kinds) rfl rfl (fun w h Y => PySem.W.kIn_of Y) ?F
  case F =>
    intro w mg fa h KX G hmg
    refine' Law.all_mk KX G hmg ?a0 ?l0 ?c0 ?k0 ?a1 ?l1 ?c1 ?k1 ?a2 ?l2 ?c2 ?k2 ?a3 ?l3 ?c3 ?k3 ?a4 ?l4 ?c4 ?k4 ?a5 ?l5 ?c5 ?k5 ?a6 ?l6 ?c6 ?k6 ?a7 ?l7 ?c7 ?k7 ?a8 ?l8 ?c8 ?k8 ?a9 ?l9 ?c9 ?k9 ?z_abs ?z_all ?z_bool ?z_int ?z_isinstance ?z_len ?z_list ?z_range ?z_str ?z_tuple ?z_zip
    (case a0 => k_is)
    (case l0 => k_is)
    (case c0 => k_is)
    (case k0 => k_is)
    (case a1 => k_is)
    (case l1 => k_is)
    (case c1 => k_is)
    (case k1 => k_is)
    (case a2 => k_is)
    (case l2 => k_is)
    (case c2 => k_is)
    (case k2 => k_is)
    (case a3 => k_is)
    (case l3 => k_is)
    (case c3 => k_is)
    (case k3 => k_is)
    (case a4 => k_is)
    (case l4 => k_is)
    (case c4 => k_is)
    (case k4 => k_is)
    (case a5 => k_is)
    (case l5 => k_is)
    (case c5 => k_is)
    (case k5 => k_is)
    (case a6 => k_is)
    (case l6 => k_is)
    (case c6 => k_is)
    (case k6 => k_is)
    (case a7 => k_is)
    (case l7 => k_is)
    (case c7 => k_is)
    (case k7 => k_is)
    (case a8 => k_is)
    (case l8 => k_is)
    (case c8 => k_is)
    (case k8 => k_is)
    (case a9 => k_is)
    (case l9 => k_is)
    (case c9 => k_is)
    (case k9 => k_is)
    (case z_abs => k_is)
    (case z_all => k_is)
    (case z_bool => k_is)
    (case z_int => k_is)
    (case z_isinstance => k_is)
    (case z_len => k_is)
    (case z_list => k_is)
    (case z_range => k_is)
    (case z_str => k_is)
    (case z_tuple => k_is)
    (case z_zip => k_is)
#print axioms PySem.Challenge.cw_onepour_k03_truths_of_three_kinds_holds
