import PyProof.Rows.All
import Wide.All
import OpenK.AllK
import Wide.FinOn
import HandS.Base
import HandS.Call
import HandS.List
import HandS.Words
import HandS.Exc
import HandS.ExcOwn
import HandS.ExcIs
import HandS.Wide
import HandS.IsInst
import HandS.Style
import HandS.Comp
import HandS.Ends
import HandS.Text
import HandS.Dict
import HandS.TupAny
import HandS.TupMul
import PyProof.StrOps2
import HandS.Iter
import HandS.Zip
import HandS.Sort
import HandS.More
import HandS.Small
import HandS.WordsDict
import KE.KDictPairs
import HandS.Deep
import HandS.SortInts
import HandS.SetFor
import HandS.Strs
import HandS.Conv
import KE.DataMinMax
import HandS.SortKw
import KE.GoesEnum
import KE.GoesZip
import HandS.Finally
import HandS.ListItems
import PyProof.ReprRoads
import PyProof.ReprLen
import PyProof.FitsInt
import PyProof.Rows.StrBoot
import KE.KEqNest
import HandS.TryOnly
import KE.KDictZip
import PySem.Challenge.RW_wishboard_k22_turned_once
set_option Elab.async false
set_option linter.all false
set_option maxRecDepth 100000
set_option maxHeartbeats 4000000
/-! Z1: data as trees over the abstract heap; what is not owned is never changed. -/
namespace Z
open PySem PySem.Spec PyProof.Rows L2

abbrev St := L2.St
/-- a value as data: tuples, lists, dicts as trees; ref: an object by its address -/
inductive D where
  | non | bl (b : Bool) | int (i : Int) | str (x : Str) | ty (n : String) | ref (a : Addr)
  | tup (xs : List D) | lst (xs : List D) | rol (xs : List D) | dic (ks : List Key) (vs : List D) | exc (C : Addr)
  /-- a tuple of which it is known that it has no dict of its own -/
  | ptu (xs : List D)
  /-- a dict that is never changed: one may walk over it -/
  | fdi (ks : List Key) (vs : List D)

/-- an error of the class at C, as it lies at a -/
def ExD (C a : Addr) : HO := .ext fun h => ∃ (oe : Obj) (vs : Array Value), h.get? a = some oe ∧ (oe.cls = .ref C ∧ oe.dict = none) ∧ oe.data = .fields vs
mutual
inductive Rep (K : PySem.W.Frag) (G : Hp) : V → D → Prop
  | non : Rep K G .non .non
  | bl (b : Bool) : Rep K G (.bl b) (.bl b)
  | int (i : Int) : Rep K G (.int i) (.int i)
  | str (x : Str) : Rep K G (.str x) (.str x)
  | ty (n : String) : Rep K G (.ty n) (.ty n)
  | ref (a : Addr) : Rep K G (.ref a) (.ref a)
  | tup {a : Addr} {vs : List V} {ds : List D} : SqT K G a vs → Reps K G vs ds → Rep K G (.ref a) (.tup ds)
  | lst {a : Addr} {vs : List V} {ds : List D} : G a = some (.lst vs) → Reps K G vs ds → Rep K G (.ref a) (.lst ds)
  | rol {a : Addr} {vs : List V} {ds : List D} : SqL K G a vs → Reps K G vs ds → Rep K G (.ref a) (.rol ds)
  | dic {a : Addr} {ks : List Key} {vs : List V} {ds : List D} : Rd G a (.dK (ks.zip vs)) → ks.length = vs.length → Reps K G vs ds → Rep K G (.ref a) (.dic ks ds)
  | exc {a C : Addr} : G a = some (ExD C a) → Rep K G (.ref a) (.exc C)
  | ptu {a : Addr} {vs : List V} {ds : List D} {o : Obj} : G a = some (.frz o (.tup vs)) → o.dict = none → Reps K G vs ds → Rep K G (.ref a) (.ptu ds)
  | fdi {a : Addr} {ks : List Key} {vs : List V} {ds : List D} {o : Obj} : G a = some (.frz o (.dK (ks.zip vs))) → ks.length = vs.length → Reps K G vs ds → Rep K G (.ref a) (.fdi ks ds)
inductive Reps (K : PySem.W.Frag) (G : Hp) : List V → List D → Prop
  | nil : Reps K G [] []
  | cons {v : V} {vs : List V} {d : D} {ds : List D} : Rep K G v d → Reps K G vs ds → Reps K G (v :: vs) (d :: ds)
end

/-- all that stands in G stands in G' -/
abbrev Ex (G G' : Hp) : Prop := ∀ a o, G a = some o → G' a = some o
theorem Ex.rd {G G' : Hp} (e : Ex G G') {a : Addr} {u : HO} (h : Rd G a u) : Rd G' a u := by
  rcases h with h | ⟨o, h⟩
  · exact .inl (e _ _ h)
  · exact .inr ⟨o, e _ _ h⟩
theorem Ex.l {K : PySem.W.Frag} {G G' : Hp} (e : Ex G G') {a : Addr} {xs : List V} (h : SqL K G a xs) : SqL K G' a xs := h.elim (fun z => .inl (e.rd z)) .inr
theorem Ex.t {K : PySem.W.Frag} {G G' : Hp} (e : Ex G G') {a : Addr} {xs : List V} (h : SqT K G a xs) : SqT K G' a xs := h.elim (fun z => .inl (e.rd z)) .inr
mutual
theorem Rep.mono {K : PySem.W.Frag} {G G' : Hp} (e : Ex G G') : ∀ {d : D} {v : V}, Rep K G v d → Rep K G' v d
  | _, _, .non => .non
  | _, _, .bl b => .bl b
  | _, _, .int b => .int b
  | _, _, .str b => .str b
  | _, _, .ty b => .ty b
  | _, _, .ref b => .ref b
  | _, _, .tup h r => .tup (e.t h) (Reps.mono e r)
  | _, _, .lst h r => .lst (e _ _ h) (Reps.mono e r)
  | _, _, .rol h r => .rol (e.l h) (Reps.mono e r)
  | _, _, .dic h l r => .dic (e.rd h) l (Reps.mono e r)
  | _, _, .fdi h l r => .fdi (e _ _ h) l (Reps.mono e r)
  | _, _, .exc h => .exc (e _ _ h)
  | _, _, .ptu h h0 r => .ptu (e _ _ h) h0 (Reps.mono e r)
theorem Reps.mono {K : PySem.W.Frag} {G G' : Hp} (e : Ex G G') : ∀ {ds : List D} {vs : List V}, Reps K G vs ds → Reps K G' vs ds
  | _, _, .nil => .nil
  | _, _, .cons r t => .cons (Rep.mono e r) (Reps.mono e t)
end
section
variable {K : PySem.W.Frag} {G : Hp}
theorem Reps.length : ∀ {vs : List V} {ds : List D}, Reps K G vs ds → vs.length = ds.length
  | _, _, .nil => rfl
  | _, _, .cons _ t => by rw [List.length_cons, List.length_cons, Reps.length t]
theorem Reps.append : ∀ {vs ws : List V} {ds es : List D}, Reps K G vs ds → Reps K G ws es → Reps K G (vs ++ ws) (ds ++ es)
  | _, _, _, _, .nil, s => s
  | _, _, _, _, .cons r t, s => .cons r (Reps.append t s)
theorem Reps.get : ∀ {vs : List V} {ds : List D} {i : Nat} {d : D}, Reps K G vs ds → ds[i]? = some d → ∃ v, vs[i]? = some v ∧ Rep K G v d
  | _, _, _, _, .nil, e => by simp at e
  | _, _, 0, _, .cons r _, e => by simp at e; subst e; exact ⟨_, rfl, r⟩
  | _, _, i + 1, d, .cons _ t, e => by
    obtain ⟨u, h1, h2⟩ := Reps.get (i := i) (d := d) t (by simpa using e)
    exact ⟨u, by simpa using h1, h2⟩
theorem Reps.get' : ∀ {vs : List V} {ds : List D} {i : Nat} {v : V}, Reps K G vs ds → vs[i]? = some v → ∃ d, ds[i]? = some d ∧ Rep K G v d
  | _, _, _, _, .nil, e => by simp at e
  | _, _, 0, _, .cons r _, e => by simp at e; subst e; exact ⟨_, rfl, r⟩
  | _, _, i + 1, d, .cons _ t, e => by
    obtain ⟨u, h1, h2⟩ := Reps.get' (i := i) (v := d) t (by simpa using e)
    exact ⟨u, by simpa using h1, h2⟩
theorem Reps.set {v : V} {d : D} (r : Rep K G v d) : ∀ {vs : List V} {ds : List D} (i : Nat), Reps K G vs ds → Reps K G (vs.set i v) (ds.set i d)
  | _, _, _, .nil => .nil
  | _, _, 0, .cons _ t => .cons r t
  | _, _, i + 1, .cons q t => .cons q (Reps.set r i t)
theorem Reps.take : ∀ {vs : List V} {ds : List D} (n : Nat), Reps K G vs ds → Reps K G (vs.take n) (ds.take n)
  | _, _, 0, _ => .nil
  | _, _, _ + 1, .nil => .nil
  | _, _, n + 1, .cons r t => .cons r (Reps.take n t)
theorem Reps.drop : ∀ {vs : List V} {ds : List D} (n : Nat), Reps K G vs ds → Reps K G (vs.drop n) (ds.drop n)
  | _, _, 0, r => r
  | _, _, _ + 1, .nil => .nil
  | _, _, n + 1, .cons _ t => Reps.drop n t
theorem Reps.ints : ∀ {vs : List V} {ns : List Int}, Reps K G vs (ns.map D.int) → vs = ns.map V.int
  | [], [], _ => rfl
  | _ :: _, _ :: _, .cons (.int _) t => by rw [List.map_cons, Reps.ints t]
theorem Reps.of_ints : ∀ (ns : List Int), Reps K G (ns.map V.int) (ns.map D.int)
  | [] => .nil
  | n :: r => .cons (.int n) (Reps.of_ints r)
theorem Reps.strs : ∀ {vs : List V} {ns : List Str}, Reps K G vs (ns.map D.str) → vs = ns.map V.str
  | [], [], _ => rfl
  | _ :: _, _ :: _, .cons (.str _) t => by rw [List.map_cons, Reps.strs t]
theorem Reps.of_strs : ∀ (ns : List Str), Reps K G (ns.map V.str) (ns.map D.str)
  | [] => .nil
  | n :: r => .cons (.str n) (Reps.of_strs r)
theorem Reps.bls : ∀ {vs : List V} {ns : List Bool}, Reps K G vs (ns.map D.bl) → vs = ns.map V.bl
  | [], [], _ => rfl
  | _ :: _, _ :: _, .cons (.bl _) t => by rw [List.map_cons, Reps.bls t]
end

/-- what is owned: lists, dicts that may be changed -/
inductive C where
  | lst (ds : List D) | dic (ks : List Key) (vs : List D)
abbrev M := Addr → Option C
def upM (m : M) (a : Addr) (c : C) : M := fun b => if b = a then some c else m b
def noM : M := fun _ => none
def dropM (m : M) (a : Addr) : M := fun b => if b = a then none else m b
theorem upM_same {m : M} {a : Addr} {c : C} : upM m a c a = some c := if_pos rfl
theorem upM_ne {m : M} {a b : Addr} {c : C} (h : b ≠ a) : upM m a c b = m b := if_neg h
theorem upM_upM {m : M} {a : Addr} {c c' : C} : upM (upM m a c) a c' = upM m a c' := by
  funext b; unfold upM; split <;> rfl
theorem upM_comm {m : M} {a b : Addr} {c c' : C} (h : a ≠ b) : upM (upM m a c) b c' = upM (upM m b c') a c := by
  funext x; unfold upM
  by_cases h1 : x = a
  · by_cases h2 : x = b
    · exact absurd (h1.symm.trans h2) h
    · rw [if_neg h2, if_pos h1, if_pos h1]
  · by_cases h2 : x = b
    · rw [if_pos h2, if_neg h1, if_pos h2]
    · rw [if_neg h2, if_neg h1, if_neg h1, if_neg h2]
theorem ne_ofM {m : M} {a b : Addr} {c : C} (h : m a = some c) (h' : m b = none) : a ≠ b := fun e => by
  subst e; rw [h] at h'; cases h'
/-- the heap without what is owned -/
def hid (m : M) (H : Hp) : Hp := fun a => if m a = none then H a else none
theorem hid_some {m : M} {H : Hp} {a : Addr} {o : HO} (h : hid m H a = some o) : m a = none ∧ H a = some o := by
  unfold hid at h
  by_cases e : m a = none
  · rw [if_pos e] at h; exact ⟨e, h⟩
  · rw [if_neg e] at h; cases h
theorem hid_of {m : M} {H : Hp} {a : Addr} {o : HO} (e : m a = none) (h : H a = some o) : hid m H a = some o := by
  unfold hid; rw [if_pos e]; exact h
theorem hid_ex {m : M} {H : Hp} : Ex (hid m H) H := fun _ _ h => (hid_some h).2
theorem hid_no {H : Hp} : hid noM H = H := by funext a; unfold hid noM; rw [if_pos rfl]
def CellOk (K : PySem.W.Frag) (H G : Hp) (a : Addr) : C → Prop
  | .lst ds => ∃ vs, H a = some (.lst vs) ∧ Reps K G vs ds
  | .dic ks ds => ∃ vs, H a = some (.dK (ks.zip vs)) ∧ ks.length = vs.length ∧ Reps K G vs ds
def MemOk (K : PySem.W.Frag) (m : M) (H : Hp) : Prop := ∀ a c, m a = some c → CellOk K H (hid m H) a c
theorem CellOk.mono {K : PySem.W.Frag} {H H' G G' : Hp} {a : Addr} {c : C} (h : CellOk K H G a c) (e : H' a = H a) (x : Ex G G') : CellOk K H' G' a c := by
  cases c with
  | lst ds => obtain ⟨vs, h1, h2⟩ := h; exact ⟨vs, e.trans h1, h2.mono x⟩
  | dic ks ds => obtain ⟨vs, h1, h2, h3⟩ := h; exact ⟨vs, e.trans h1, h2, h3.mono x⟩
theorem MemOk.no {K : PySem.W.Frag} {H : Hp} : MemOk K noM H := fun _ _ h => nomatch h
theorem MemOk.fresh {K : PySem.W.Frag} {m : M} {H : Hp} (h : MemOk K m H) {p : Addr} (hp : H p = none) : m p = none := by
  cases e : m p with
  | none => rfl
  | some c =>
    have := h p c e
    cases c with
    | lst ds => obtain ⟨vs, h1, _⟩ := this; rw [hp] at h1; cases h1
    | dic ks ds => obtain ⟨vs, h1, _⟩ := this; rw [hp] at h1; cases h1

/-- from (m, H) to (m', H'): what is not owned stays, and is not owned behind -/
structure Step (K : PySem.W.Frag) (m : M) (H : Hp) (m' : M) (H' : Hp) : Prop where
  keep : ∀ a o, H a = some o → m a = none → H' a = some o ∧ m' a = none
  mem : MemOk K m' H'
theorem Step.ex {K : PySem.W.Frag} {m m' : M} {H H' : Hp} (s : Step K m H m' H') : Ex (hid m H) (hid m' H') := fun a o h =>
  let ⟨h1, h2⟩ := hid_some h
  let ⟨h3, h4⟩ := s.keep a o h2 h1
  hid_of h4 h3
theorem Step.refl {K : PySem.W.Frag} {m : M} {H : Hp} (h : MemOk K m H) : Step K m H m H := ⟨fun _ _ a b => ⟨a, b⟩, h⟩
theorem Step.trans {K : PySem.W.Frag} {m m1 m2 : M} {H H1 H2 : Hp} (a : Step K m H m1 H1) (b : Step K m1 H1 m2 H2) : Step K m H m2 H2 :=
  ⟨fun x o h1 h2 => let ⟨h3, h4⟩ := a.keep x o h1 h2; b.keep x o h3 h4, b.mem⟩
/-- a new object, not owned -/
theorem Step.new {K : PySem.W.Frag} {m : M} {H : Hp} {p : Addr} {o : HO} (h : MemOk K m H) (hp : H p = none) : Step K m H m (upd H p o) := by
  have e : Ex (hid m H) (hid m (upd H p o)) := fun a u z => by
    obtain ⟨z1, z2⟩ := hid_some z
    exact hid_of z1 (by rw [upd_ne (ne_of_none z2 hp)]; exact z2)
  refine ⟨fun a u h1 h2 => ⟨by rw [upd_ne (ne_of_none h1 hp)]; exact h1, h2⟩, fun a c hc => (h a c hc).mono ?_ e⟩
  have hm := h.fresh hp
  rw [upd_ne (ne_ofM hc hm)]
theorem Step.new_at {K : PySem.W.Frag} {m : M} {H : Hp} {p : Addr} {o : HO} (h : MemOk K m H) (hp : H p = none) : hid m (upd H p o) p = some o := hid_of (h.fresh hp) upd_same
/-- a new object, owned -/
theorem Step.newM {K : PySem.W.Frag} {m : M} {H : Hp} {p : Addr} {o : HO} {c : C} (h : MemOk K m H) (hp : H p = none) (hc : CellOk K (upd H p o) (hid m H) p c) : Step K m H (upM m p c) (upd H p o) := by
  have hm := h.fresh hp
  have e : Ex (hid m H) (hid (upM m p c) (upd H p o)) := fun a u z => by
    obtain ⟨z1, z2⟩ := hid_some z
    exact hid_of (by rw [upM_ne (ne_of_none z2 hp)]; exact z1) (by rw [upd_ne (ne_of_none z2 hp)]; exact z2)
  refine ⟨fun a u h1 h2 => ⟨by rw [upd_ne (ne_of_none h1 hp)]; exact h1, by rw [upM_ne (ne_of_none h1 hp)]; exact h2⟩, fun a c' hc' => ?_⟩
  by_cases ha : a = p
  · subst ha
    rw [upM_same] at hc'; cases hc'
    exact hc.mono rfl e
  · rw [upM_ne ha] at hc'
    exact (h a c' hc').mono (by rw [upd_ne ha]) e
/-- an owned object changes -/
theorem Step.upM {K : PySem.W.Frag} {m : M} {H : Hp} {p : Addr} {o : HO} {c0 c : C} (h : MemOk K m H) (hm : m p = some c0) (hc : CellOk K (upd H p o) (hid m H) p c) : Step K m H (upM m p c) (upd H p o) := by
  have e : Ex (hid m H) (hid (Z.upM m p c) (upd H p o)) := fun a u z => by
    obtain ⟨z1, z2⟩ := hid_some z
    have ne : a ≠ p := fun q => by subst q; rw [hm] at z1; cases z1
    exact hid_of (by rw [upM_ne ne]; exact z1) (by rw [upd_ne ne]; exact z2)
  refine ⟨fun a u h1 h2 => ?_, fun a c' hc' => ?_⟩
  · have ne : a ≠ p := fun q => by subst q; rw [hm] at h2; cases h2
    exact ⟨by rw [upd_ne ne]; exact h1, by rw [upM_ne ne]; exact h2⟩
  · by_cases ha : a = p
    · subst ha
      rw [upM_same] at hc'; cases hc'
      exact hc.mono rfl e
    · rw [upM_ne ha] at hc'
      exact (h a c' hc').mono (by rw [upd_ne ha]) e
/-- an owned object is given up -/
theorem Step.dropM {K : PySem.W.Frag} {m : M} {H : Hp} {p : Addr} (h : MemOk K m H) : Step K m H (dropM m p) H := by
  have e : Ex (hid m H) (hid (Z.dropM m p) H) := fun a u z => by
    obtain ⟨z1, z2⟩ := hid_some z
    refine hid_of ?_ z2
    unfold Z.dropM
    by_cases q : a = p
    · rw [if_pos q]
    · rw [if_neg q]; exact z1
  refine ⟨fun a u h1 h2 => ⟨h1, ?_⟩, fun a c hc => ?_⟩
  · unfold Z.dropM
    by_cases q : a = p
    · rw [if_pos q]
    · rw [if_neg q]; exact h2
  · unfold Z.dropM at hc
    by_cases q : a = p
    · rw [if_pos q] at hc; cases hc
    · rw [if_neg q] at hc
      exact (h a c hc).mono rfl e
/-- less is owned -/
theorem Step.sub {K : PySem.W.Frag} {m m' : M} {H : Hp} (h : MemOk K m H) (hs : ∀ a c, m' a = some c → m a = some c) : Step K m H m' H := by
  have no : ∀ a, m a = none → m' a = none := fun a ha => by
    cases e : m' a with
    | none => rfl
    | some c => rw [hs a c e] at ha; cases ha
  have e : Ex (hid m H) (hid m' H) := fun a u z => by
    obtain ⟨z1, z2⟩ := hid_some z
    exact hid_of (no a z1) z2
  exact ⟨fun a u h1 h2 => ⟨h1, no a h2⟩, fun a c hc => (h a c (hs a c hc)).mono rfl e⟩

/-! ### slots -/
abbrev Sl := List (Option D)
/-- what must stand; what is wished where an error flies: its class, the slots, what is owned -/
structure Bx where
  kp : Hp
  ex : Value → Sl → M → Prop
abbrev Bx.no : Bx := ⟨fun _ => none, fun _ _ _ => False⟩
structure SlotOk (K : PySem.W.Frag) (ω : Bx) (g : Sl) (σ : St) (G : Hp) : Prop where
  tie : Ex ω.kp G
  len : g.length = σ.length
  val : ∀ (i : Nat) (d : D), g[i]? = some (some d) → ∃ v, σ[i]? = some (some v) ∧ Rep K G v d
theorem SlotOk.mono {K : PySem.W.Frag} {ω : Bx} {g : Sl} {σ : St} {G G' : Hp} (s : SlotOk K ω g σ G) (e : Ex G G') : SlotOk K ω g σ G' :=
  ⟨fun a o h => e a o (s.tie a o h), s.len, fun i d h => let ⟨v, h1, h2⟩ := s.val i d h; ⟨v, h1, h2.mono e⟩⟩
theorem SlotOk.set {K : PySem.W.Frag} {ω : Bx} {g : Sl} {σ : St} {G : Hp} (s : SlotOk K ω g σ G) {i : Nat} {v : V} {d : D} (r : Rep K G v d) : SlotOk K ω (g.set i (some d)) (σ.set i (some v)) G := by
  refine ⟨s.tie, by rw [List.length_set, List.length_set]; exact s.len, fun j e h => ?_⟩
  by_cases hj : i = j
  · subst hj
    by_cases hl : i < g.length
    · rw [List.getElem?_set_self hl] at h
      cases h
      exact ⟨v, by rw [List.getElem?_set_self (by rw [← s.len]; exact hl)], r⟩
    · rw [List.getElem?_eq_none (by rw [List.length_set]; omega)] at h; cases h
  · rw [List.getElem?_set_ne hj] at h
    obtain ⟨w, h1, h2⟩ := s.val j e h
    exact ⟨w, by rw [List.getElem?_set_ne hj]; exact h1, h2⟩
/-- less is known of the slots, or the same otherwise -/
theorem SlotOk.start {K : PySem.W.Frag} {ω : Bx} {G : Hp} {vs : List V} {ds : List D} (N : List Str) (k : Ex ω.kp G) (r : Reps K G vs ds) : SlotOk K ω (ds.map some ++ List.replicate (N.length - ds.length) none) (start N vs) G := by
  have hl := r.length
  unfold L2.start
  refine ⟨k, by simp only [List.length_append, List.length_map, List.length_replicate]; omega, fun i d h => ?_⟩
  by_cases hi : i < ds.length
  · rw [List.getElem?_append_left (by simpa using hi), List.getElem?_map] at h
    cases e : ds[i]? with
    | none => rw [e] at h; cases h
    | some d' =>
      rw [e] at h; cases h
      obtain ⟨v, h1, h2⟩ := r.get e
      exact ⟨v, by rw [List.getElem?_append_left (by rw [List.length_map]; omega), List.getElem?_map, h1] <;> rfl, h2⟩
  · rw [List.getElem?_append_right (by rw [List.length_map]; omega), List.getElem?_replicate] at h
    split at h <;> cases h

/-! ### the judgements -/
abbrev Kd := D → M → Prop
abbrev TE2 := Sl → M → Kd → Prop
abbrev TT2 := Sl → M → (Bool → M → Prop) → Prop
abbrev TA2 := Sl → M → (List D → M → Prop) → Prop
structure Ends2 where
  nx : Sl → M → Prop
  rt : Kd
  bk : Sl → M → Prop := fun _ _ => False
  ct : Sl → M → Prop := fun _ _ => False
abbrev TS2 := Ends2 → Sl → M → Prop
/-- the end of an expression, seen from (m, H) -/
def P2 (K : PySem.W.Frag) (m : M) (H : Hp) (Q : Kd) : VK := fun v H' => ∃ d m', Step K m H m' H' ∧ Rep K (hid m' H') v d ∧ Q d m'
def P2T (K : PySem.W.Frag) (m : M) (H : Hp) (Q : Bool → M → Prop) : Bool → Hp → Prop := fun b H' => ∃ m', Step K m H m' H' ∧ Q b m'
def P2A (K : PySem.W.Frag) (m : M) (H : Hp) (Q : List D → M → Prop) : List V → Hp → Prop := fun vs H' => ∃ ds m', Step K m H m' H' ∧ Reps K (hid m' H') vs ds ∧ Q ds m'
def P2S (K : PySem.W.Frag) (ω : Bx) (m : M) (H : Hp) (Q : Sl → M → Prop) : St → Hp → Prop := fun σ' H' => ∃ g' m', Step K m H m' H' ∧ SlotOk K ω g' σ' (hid m' H') ∧ Q g' m'
def cE (K : PySem.W.Frag) (ω : Bx) (m : M) (H : Hp) (E : Ends2) : Ends := ⟨P2S K ω m H E.nx, P2 K m H E.rt, P2S K ω m H E.bk, P2S K ω m H E.ct⟩

section
variable {K : PySem.W.Frag} {ω : Bx} {m m1 : M} {H H1 : Hp}
theorem P2.go (s : Step K m H m1 H1) {Q : Kd} {v : V} {H' : Hp} (h : P2 K m1 H1 Q v H') : P2 K m H Q v H' := let ⟨d, m', a, b, c⟩ := h; ⟨d, m', s.trans a, b, c⟩
theorem P2T.go (s : Step K m H m1 H1) {Q : Bool → M → Prop} {v : Bool} {H' : Hp} (h : P2T K m1 H1 Q v H') : P2T K m H Q v H' := let ⟨m', a, c⟩ := h; ⟨m', s.trans a, c⟩
theorem P2A.go (s : Step K m H m1 H1) {Q : List D → M → Prop} {v : List V} {H' : Hp} (h : P2A K m1 H1 Q v H') : P2A K m H Q v H' := let ⟨d, m', a, b, c⟩ := h; ⟨d, m', s.trans a, b, c⟩
theorem P2S.go (s : Step K m H m1 H1) {Q : Sl → M → Prop} {v : St} {H' : Hp} (h : P2S K ω m1 H1 Q v H') : P2S K ω m H Q v H' := let ⟨d, m', a, b, c⟩ := h; ⟨d, m', s.trans a, b, c⟩
theorem P2.same (hm : MemOk K m H) {Q : Kd} {v : V} {d : D} (r : Rep K (hid m H) v d) (q : Q d m) : P2 K m H Q v H := ⟨d, m, .refl hm, r, q⟩
theorem P2.new (hm : MemOk K m H) {Q : Kd} {p : Addr} {o : HO} {d : D} (hp : H p = none) (r : Rep K (hid m (upd H p o)) (.ref p) d) (q : Q d m) : P2 K m H Q (.ref p) (upd H p o) := ⟨d, m, .new hm hp, r, q⟩
end

def semE (X : Cx) (e : Expr) : TE := fun σ H Q => ∀ pins s, Inv X pins σ H s → wpAny (model X.prog X.w) X.A (eval e X.env) (EP X pins σ Q) X.xe s
def semT (X : Cx) (e : Expr) : TT := fun σ H Q => ∀ pins s, Inv X pins σ H s → wpAny (model X.prog X.w) X.A (isTrue e X.env (eval e X.env)) (TP X pins σ Q) X.xe s
def semA (X : Cx) (es : List Expr) : TA := fun σ H Q => ∀ (pos : Pos) pins s, Inv X pins σ H s → wpAny (model X.prog X.w) X.A (spliced (backTo pos (starEach es X.env))) (AP X pins σ Q) X.xe s
def semS (X : Cx) (st : Stmt) : TS := fun D σ H => ∀ pins s, Inv X pins σ H s → wpAny (model X.prog X.w) X.A (exec st X.env) (SP X pins D) X.xe s
def semSs (X : Cx) (st : List Stmt) : TS := fun D σ H => ∀ pins s, Inv X pins σ H s → wpAny (model X.prog X.w) X.A (execs st X.env) (SP X pins D) X.xe s
section
variable {X : Cx} {ω : Bx} {e : Expr} {es : List Expr} {st : Stmt} {sts : List Stmt} {σ : St} {H : Hp}
theorem pe_sem : PE X e (semE X e) := ⟨fun pins s σ H Q I h => h pins s I⟩
theorem pt_sem : PT X e (semT X e) := ⟨fun pins s σ H Q I h => h pins s I⟩
theorem pa_sem : PA X es (semA X es) := ⟨fun pos pins s σ H Q I h => h pos pins s I⟩
theorem ps_sem : PS X st (semS X st) := ⟨fun pins s σ H Q I h => h pins s I⟩
theorem pss_sem : PSs X sts (semSs X sts) := ⟨fun pins s σ H Q I h => h pins s I⟩
theorem semE.mono {Q Q' : VK} (h : semE X e σ H Q) (k : ∀ v H', Q v H' → Q' v H') : semE X e σ H Q' := fun pins s I => thn (h pins s I) fun _ _ ⟨v, H', a, b, c⟩ => ⟨v, H', a, b, k _ _ c⟩
theorem semT.mono {Q Q' : Bool → Hp → Prop} (h : semT X e σ H Q) (k : ∀ v H', Q v H' → Q' v H') : semT X e σ H Q' := fun pins s I => thn (h pins s I) fun _ _ ⟨H', a, c⟩ => ⟨H', a, k _ _ c⟩
theorem semA.mono {Q Q' : List V → Hp → Prop} (h : semA X es σ H Q) (k : ∀ v H', Q v H' → Q' v H') : semA X es σ H Q' := fun pos pins s I => thn (h pos pins s I) fun _ _ ⟨v, H', a, b, c⟩ => ⟨v, H', a, b, k _ _ c⟩
theorem SP.mono {pins : List (Addr × Obj)} {D D' : Ends} (h1 : ∀ a b, D.nx a b → D'.nx a b) (h2 : ∀ a b, D.rt a b → D'.rt a b) (h3 : ∀ a b, D.bk a b → D'.bk a b) (h4 : ∀ a b, D.ct a b → D'.ct a b) {f : Flow} {s : Shared} (h : SP X pins D f s) : SP X pins D' f s := by
  cases f with
  | next => obtain ⟨a, b, c, d⟩ := h; exact ⟨a, b, c, h1 _ _ d⟩
  | brk => obtain ⟨a, b, c, d⟩ := h; exact ⟨a, b, c, h3 _ _ d⟩
  | cont => obtain ⟨a, b, c, d⟩ := h; exact ⟨a, b, c, h4 _ _ d⟩
  | ret u => obtain ⟨a, b, c, d, e, g⟩ := h; exact ⟨a, b, c, d, e, h2 _ _ g⟩
theorem semS.mono {D D' : Ends} (h : semS X st D σ H) (h1 : ∀ a b, D.nx a b → D'.nx a b) (h2 : ∀ a b, D.rt a b → D'.rt a b) (h3 : ∀ a b, D.bk a b → D'.bk a b) (h4 : ∀ a b, D.ct a b → D'.ct a b) : semS X st D' σ H := fun pins s I => thn (h pins s I) fun _ _ q => SP.mono h1 h2 h3 h4 q
theorem semSs.mono {D D' : Ends} (h : semSs X sts D σ H) (h1 : ∀ a b, D.nx a b → D'.nx a b) (h2 : ∀ a b, D.rt a b → D'.rt a b) (h3 : ∀ a b, D.bk a b → D'.bk a b) (h4 : ∀ a b, D.ct a b → D'.ct a b) : semSs X sts D' σ H := fun pins s I => thn (h pins s I) fun _ _ q => SP.mono h1 h2 h3 h4 q
end

structure PE2 (X : Cx) (ω : Bx) (e : Expr) (t : TE2) : Prop where
  sem : ∀ {σ : St} {H : Hp} {g : Sl} {m : M} {Q : Kd}, SlotOk X.K ω g σ (hid m H) → MemOk X.K m H → t g m Q → semE X e σ H (P2 X.K m H Q)
structure PT2 (X : Cx) (ω : Bx) (e : Expr) (t : TT2) : Prop where
  sem : ∀ {σ : St} {H : Hp} {g : Sl} {m : M} {Q : Bool → M → Prop}, SlotOk X.K ω g σ (hid m H) → MemOk X.K m H → t g m Q → semT X e σ H (P2T X.K m H Q)
structure PA2 (X : Cx) (ω : Bx) (es : List Expr) (t : TA2) : Prop where
  sem : ∀ {σ : St} {H : Hp} {g : Sl} {m : M} {Q : List D → M → Prop}, SlotOk X.K ω g σ (hid m H) → MemOk X.K m H → t g m Q → semA X es σ H (P2A X.K m H Q)
structure PS2 (X : Cx) (ω : Bx) (st : Stmt) (t : TS2) : Prop where
  sem : ∀ {σ : St} {H : Hp} {g : Sl} {m : M} {E : Ends2}, SlotOk X.K ω g σ (hid m H) → MemOk X.K m H → t E g m → semS X st (cE X.K ω m H E) σ H
structure PSs2 (X : Cx) (ω : Bx) (st : List Stmt) (t : TS2) : Prop where
  sem : ∀ {σ : St} {H : Hp} {g : Sl} {m : M} {E : Ends2}, SlotOk X.K ω g σ (hid m H) → MemOk X.K m H → t E g m → semSs X st (cE X.K ω m H E) σ H
theorem _root_.L2.PE.to2 {X : Cx} {ω : Bx} {e : Expr} {t : TE} {t2 : TE2} (h : PE X e t) (c : ∀ (σ : St) (H : Hp) (g : Sl) (m : M) (Q : Kd), SlotOk X.K ω g σ (hid m H) → MemOk X.K m H → t2 g m Q → t σ H (P2 X.K m H Q)) : PE2 X ω e t2 :=
  ⟨fun S hm q pins s I => h.run pins s _ _ _ I (c _ _ _ _ _ S hm q)⟩
theorem _root_.L2.PT.to2 {X : Cx} {ω : Bx} {e : Expr} {t : TT} {t2 : TT2} (h : PT X e t) (c : ∀ (σ : St) (H : Hp) (g : Sl) (m : M) (Q : Bool → M → Prop), SlotOk X.K ω g σ (hid m H) → MemOk X.K m H → t2 g m Q → t σ H (P2T X.K m H Q)) : PT2 X ω e t2 :=
  ⟨fun S hm q pins s I => h.run pins s _ _ _ I (c _ _ _ _ _ S hm q)⟩
theorem _root_.L2.PA.to2 {X : Cx} {ω : Bx} {e : List Expr} {t : TA} {t2 : TA2} (h : PA X e t) (c : ∀ (σ : St) (H : Hp) (g : Sl) (m : M) (Q : List D → M → Prop), SlotOk X.K ω g σ (hid m H) → MemOk X.K m H → t2 g m Q → t σ H (P2A X.K m H Q)) : PA2 X ω e t2 :=
  ⟨fun S hm q pos pins s I => h.run pos pins s _ _ _ I (c _ _ _ _ _ S hm q)⟩
theorem _root_.L2.PS.to2 {X : Cx} {ω : Bx} {e : Stmt} {t : TS} {t2 : TS2} (h : PS X e t) (c : ∀ (σ : St) (H : Hp) (g : Sl) (m : M) (E : Ends2), SlotOk X.K ω g σ (hid m H) → MemOk X.K m H → t2 E g m → t (cE X.K ω m H E) σ H) : PS2 X ω e t2 :=
  ⟨fun S hm q pins s I => h.run pins s _ _ _ I (c _ _ _ _ _ S hm q)⟩
theorem _root_.L2.PSs.to2 {X : Cx} {ω : Bx} {e : List Stmt} {t : TS} {t2 : TS2} (h : PSs X e t) (c : ∀ (σ : St) (H : Hp) (g : Sl) (m : M) (E : Ends2), SlotOk X.K ω g σ (hid m H) → MemOk X.K m H → t2 E g m → t (cE X.K ω m H E) σ H) : PSs2 X ω e t2 :=
  ⟨fun S hm q pins s I => h.run pins s _ _ _ I (c _ _ _ _ _ S hm q)⟩
end Z

/-! Z2: expressions over data. -/
namespace Z
/-- a stop point: nothing is unfolded beyond it -/
structure Box (p : Prop) : Prop where
  mk :: (out : p)
open PySem PySem.Spec PyProof.Rows L2

/-! ### an owned object read as a value -/
def res (m : M) (x : D) : D := match x with
  | .ref p => match m p with
    | some (.lst ds) => .lst ds
    | some (.dic ks vs) => .dic ks vs
    | none => .ref p
  | .ptu ds => .tup ds
  | .fdi ks vs => .dic ks vs
  | x => x
section
variable {K : PySem.W.Frag} {m : M} {H : Hp} {v : V} {d : D}
/-- the items of a list -/
def lsD : D → Option (List D) | .lst ds => some ds | .rol ds => some ds | _ => none
theorem lstT {ds : List D} (r : Rep K (hid m H) v d) (hm : MemOk K m H) (e : res m d = .lst ds) : ∃ a vs, v = .ref a ∧ H a = some (.lst vs) ∧ Reps K (hid m H) vs ds := by
  cases r with
  | lst h1 h2 => cases e; exact ⟨_, _, rfl, hid_ex _ _ h1, h2⟩
  | ref a =>
    unfold res at e
    cases q : m a with
    | none => simp only [q] at e; cases e
    | some c =>
      cases c with
      | lst es =>
        simp only [q] at e; cases e
        obtain ⟨vs, h1, h2⟩ := hm a _ q
        exact ⟨a, vs, rfl, h1, h2⟩
      | dic ks es => simp only [q] at e; cases e
  | _ => cases e
theorem lstOf {ds : List D} (r : Rep K (hid m H) v d) (hm : MemOk K m H) (e : lsD (res m d) = some ds) : ∃ a vs, v = .ref a ∧ SqL K H a vs ∧ Reps K (hid m H) vs ds := by
  cases r with
  | lst h1 h2 => cases e; exact ⟨_, _, rfl, SqL.of (hid_ex _ _ h1), h2⟩
  | rol h1 h2 => cases e; exact ⟨_, _, rfl, hid_ex.l h1, h2⟩
  | ref a =>
    unfold res at e
    cases q : m a with
    | none => simp only [q] at e; cases e
    | some c =>
      cases c with
      | lst es =>
        simp only [q] at e; cases e
        obtain ⟨vs, h1, h2⟩ := hm a _ q
        exact ⟨a, vs, rfl, SqL.of h1, h2⟩
      | dic ks es => simp only [q] at e; cases e
  | _ => cases e
theorem tupOf {ds : List D} (r : Rep K (hid m H) v d) (e : res m d = .tup ds) : ∃ a vs, v = .ref a ∧ SqT K H a vs ∧ Reps K (hid m H) vs ds := by
  cases r with
  | tup h1 h2 => cases e; exact ⟨_, _, rfl, hid_ex.t h1, h2⟩
  | ptu h1 h0 h2 => cases e; exact ⟨_, _, rfl, .inl (.inr ⟨_, hid_ex _ _ h1⟩), h2⟩
  | ref a =>
    unfold res at e
    cases q : m a with
    | none => simp only [q] at e; cases e
    | some c => cases c <;> (simp only [q] at e; cases e)
  | _ => cases e
theorem dicOf {ks : List Key} {ds : List D} (r : Rep K (hid m H) v d) (hm : MemOk K m H) (e : res m d = .dic ks ds) : ∃ a vs, v = .ref a ∧ Rd H a (.dK (ks.zip vs)) ∧ ks.length = vs.length ∧ Reps K (hid m H) vs ds := by
  cases r with
  | dic h1 h0 h2 => cases e; exact ⟨_, _, rfl, Ex.rd hid_ex h1, h0, h2⟩
  | fdi h1 h0 h2 => cases e; exact ⟨_, _, rfl, .inr ⟨_, hid_ex _ _ h1⟩, h0, h2⟩
  | ref a =>
    unfold res at e
    cases q : m a with
    | none => simp only [q] at e; cases e
    | some c =>
      cases c with
      | lst es => simp only [q] at e; cases e
      | dic ks es =>
        simp only [q] at e; cases e
        obtain ⟨vs, h1, h0, h2⟩ := hm a _ q
        exact ⟨a, vs, rfl, .inl h1, h0, h2⟩
  | _ => cases e
theorem repRes (r : Rep K (hid m H) v d) (hm : MemOk K m H) : Rep K H v (res m d) := by
  cases r with
  | ref a =>
    cases q : m a with
    | none => simp only [res, q]; exact .ref a
    | some c =>
      cases c with
      | lst es =>
        simp only [res, q]
        obtain ⟨vs, h1, h2⟩ := hm a _ q
        exact .lst h1 (h2.mono hid_ex)
      | dic ks es =>
        simp only [res, q]
        obtain ⟨vs, h1, h0, h2⟩ := hm a _ q
        exact .dic (.inl h1) h0 (h2.mono hid_ex)
  | non => exact .non
  | bl b => exact .bl b
  | int b => exact .int b
  | str b => exact .str b
  | ty b => exact .ty b
  | tup h1 h2 => exact .tup (hid_ex.t h1) (h2.mono hid_ex)
  | lst h1 h2 => exact .lst (hid_ex _ _ h1) (h2.mono hid_ex)
  | rol h1 h2 => exact .rol (hid_ex.l h1) (h2.mono hid_ex)
  | dic h1 h0 h2 => exact .dic (Ex.rd hid_ex h1) h0 (h2.mono hid_ex)
  | fdi h1 h0 h2 => exact .dic (.inr ⟨_, hid_ex _ _ h1⟩) h0 (h2.mono hid_ex)
  | exc h => exact .exc (hid_ex _ _ h)
  | ptu h1 h0 h2 => exact .tup (.inl (.inr ⟨_, hid_ex _ _ h1⟩)) (h2.mono hid_ex)
end

/-! ### == of data -/
mutual
def py : D → PyData
  | .non => .none | .bl b => .bool b | .int i => .int i | .str x => .str x
  | .tup xs => .tuple (pys xs) | .ptu xs => .tuple (pys xs) | .lst xs => .list (pys xs) | .rol xs => .list (pys xs)
  | .ty _ => .none | .ref _ => .none | .dic _ _ => .none | .fdi _ _ => .none | .exc _ => .none
def pys : List D → List PyData
  | [] => []
  | x :: r => py x :: pys r
end
mutual
/-- data of at most that depth, without objects -/
def okD : Nat → D → Bool
  | _, .non => true | _, .bl _ => true | _, .int _ => true
  | _, .str x => x.cps.all (· < 0x110000)
  | 0, .tup _ => false | n + 1, .tup xs => okDs n xs
  | 0, .ptu _ => false | n + 1, .ptu xs => okDs n xs
  | 0, .lst _ => false | n + 1, .lst xs => okDs n xs
  | 0, .rol _ => false | n + 1, .rol xs => okDs n xs
  | _, .ty _ => false | _, .ref _ => false | _, .dic _ _ => false | _, .fdi _ _ => false | _, .exc _ => false
def okDs : Nat → List D → Bool
  | _, [] => true
  | n, x :: r => okD n x && okDs n r
end
def eqD (x y : D) : Bool := PyData.eqv (py x) (py y)
theorem okDs_of {n : Nat} : ∀ {ds : List D}, (∀ d ∈ ds, okD n d = true) → okDs n ds = true
  | [], _ => by simp only [okDs]
  | x :: r, h => by simp only [okDs, h x List.mem_cons_self, okDs_of fun d hd => h d (List.mem_cons_of_mem _ hd), Bool.and_self]
theorem okDs_iff {n : Nat} : ∀ {ds : List D}, okDs n ds = true ↔ ∀ d ∈ ds, okD n d = true
  | [] => by simp only [okDs]; exact ⟨fun _ d h => by simp at h, fun _ => trivial⟩
  | x :: r => by
    simp only [okDs, Bool.and_eq_true, okDs_iff (ds := r), List.mem_cons]
    exact ⟨fun ⟨a, b⟩ d h => h.elim (fun e => e ▸ a) (b d), fun h => ⟨h x (.inl rfl), fun d hd => h d (.inr hd)⟩⟩
mutual
theorem okD_lay : ∀ (n : Nat) (d : D), okD n d = true → (py d).canLay0 = true ∧ (py d).depth ≤ n
  | n, .non, _ => by simp [py, PyData.canLay0, PyData.depth]
  | n, .bl _, _ => by simp [py, PyData.canLay0, PyData.depth]
  | n, .int _, _ => by simp [py, PyData.canLay0, PyData.depth]
  | n, .str x, h => by
    have h' : x.cps.all (· < 0x110000) = true := by simpa only [okD] using h
    refine ⟨?_, by simp [py, PyData.depth]⟩
    simp only [py, PyData.canLay0]
    exact h'
  | 0, .ptu xs, h => by simp [okD] at h
  | n + 1, .ptu xs, h => by
    have ⟨a, b⟩ := okDs_lay n xs (by simpa only [okD] using h)
    simp only [py, PyData.canLay0, PyData.depth]
    exact ⟨a, by omega⟩
  | 0, .tup xs, h => by simp [okD] at h
  | n + 1, .tup xs, h => by
    have ⟨a, b⟩ := okDs_lay n xs (by simpa only [okD] using h)
    simp only [py, PyData.canLay0, PyData.depth]
    exact ⟨a, by omega⟩
  | 0, .lst xs, h => by simp [okD] at h
  | n + 1, .lst xs, h => by
    have ⟨a, b⟩ := okDs_lay n xs (by simpa only [okD] using h)
    simp only [py, PyData.canLay0, PyData.depth]
    exact ⟨a, by omega⟩
  | 0, .rol xs, h => by simp [okD] at h
  | n + 1, .rol xs, h => by
    have ⟨a, b⟩ := okDs_lay n xs (by simpa only [okD] using h)
    simp only [py, PyData.canLay0, PyData.depth]
    exact ⟨a, by omega⟩
  | n, .ty _, h => by simp [okD] at h
  | n, .ref _, h => by simp [okD] at h
  | n, .dic _ _, h => by simp [okD] at h
  | n, .fdi _ _, h => by simp [okD] at h
  | n, .exc _, h => by simp [okD] at h
theorem okDs_lay : ∀ (n : Nat) (ds : List D), okDs n ds = true → PyData.canLayAll0 (pys ds) = true ∧ PyData.depthAll (pys ds) ≤ n
  | n, [], _ => by simp [pys, PyData.canLayAll0, PyData.depthAll]
  | n, x :: r, h => by
    simp only [okDs, Bool.and_eq_true] at h
    have ⟨a, b⟩ := okD_lay n x h.1
    have ⟨c, d⟩ := okDs_lay n r h.2
    simp only [pys, PyData.canLayAll0, PyData.depthAll, a, c]
    exact ⟨rfl, by omega⟩
end
theorem okD_shaped {n : Nat} {d : D} (h : okD n d = true) (hn : n ≤ 64) : SeqAt.shaped (py d) = true := by
  have ⟨a, b⟩ := okD_lay n d h
  unfold SeqAt.shaped
  rw [a, Bool.true_and]
  exact decide_eq_true (by omega)
mutual
theorem Rep.dp {K : PySem.W.Frag} {G : Hp} {n : Nat} : ∀ {d : D} {v : V}, Rep K G v d → okD n d = true → Dp K G v (py d)
  | _, _, .non, _ => by simp only [py]; exact .non
  | _, _, .bl b, _ => by simp only [py]; exact .bl b
  | _, _, .int b, _ => by simp only [py]; exact .int b
  | _, _, .str b, _ => by simp only [py]; exact .str b
  | _, _, .ty b, h => by simp [okD] at h
  | _, _, .ref b, h => by simp [okD] at h
  | _, _, .tup h1 r, h => by
    simp only [py]
    cases n with
    | zero => simp [okD] at h
    | succ n => exact .tup h1 (Reps.dp r (n := n) (by simpa only [okD] using h))
  | _, _, .lst h1 r, h => by
    simp only [py]
    cases n with
    | zero => simp [okD] at h
    | succ n => exact .lst (SqL.of h1) (Reps.dp r (n := n) (by simpa only [okD] using h))
  | _, _, .rol h1 r, h => by
    simp only [py]
    cases n with
    | zero => simp [okD] at h
    | succ n => exact .lst h1 (Reps.dp r (n := n) (by simpa only [okD] using h))
  | _, _, .dic _ _ _, h => by simp [okD] at h
  | _, _, .fdi _ _ _, h => by simp [okD] at h
  | _, _, .exc _, h => by simp [okD] at h
  | _, _, .ptu h1 _ r, h => by
    simp only [py]
    cases n with
    | zero => simp [okD] at h
    | succ n => exact .tup (.inl (.inr ⟨_, h1⟩)) (Reps.dp r (n := n) (by simpa only [okD] using h))
theorem Reps.dp {K : PySem.W.Frag} {G : Hp} {n : Nat} : ∀ {ds : List D} {vs : List V}, Reps K G vs ds → okDs n ds = true → DpAll K G vs (pys ds)
  | _, _, .nil, _ => by simp only [pys]; exact .nil
  | _, _, .cons r t, h => by
    simp only [okDs, Bool.and_eq_true] at h
    simp only [pys]
    exact .cons (Rep.dp r h.1) (Reps.dp t h.2)
end

/-! ### types -/
inductive Ty where | non | bl | int | str | tup | lst | dic
  deriving DecidableEq
def Ty.name : Ty → String | .non => "NoneType" | .bl => "bool" | .int => "int" | .str => "str" | .tup => "tuple" | .lst => "list" | .dic => "dict"
def isT (t T : Ty) : Bool := decide (t = T) || (decide (t = .bl) && decide (T = .int))
theorem kit_isT {K : PySem.W.Frag} (t T : Ty) (h : T ≠ .non) : PySem.W.kitOne K (.type t.name) (.type T.name) = some (isT t T) := by
  refine kit_ty ?_
  cases t <;> cases T <;> first | exact absurd rfl h | decide +kernel
def tyD (m : M) (d : D) : Option Ty := match res m d with
  | .non => some .non | .bl _ => some .bl | .int _ => some .int | .str _ => some .str | .tup _ => some .tup | .lst _ => some .lst | .rol _ => some .lst | .dic _ _ => some .dic
  | .ty _ => none | .ref _ => none | .exc _ => none | .ptu _ => none | .fdi _ _ => none
theorem tyX_of {K : PySem.W.Frag} {H : Hp} {v : V} {d : D} (r : Rep K H v d) {t : Ty} (e : tyD noM d = some t) : TyX K H v (.type t.name) := by
  unfold tyD at e
  cases r with
  | non => cases e; exact .base .non
  | bl b => cases e; exact .base (.bl b)
  | int b => cases e; exact .base (.int b)
  | str b => cases e; exact .base (.str b)
  | ty b => cases e
  | ref b => cases e
  | tup h1 h2 =>
    cases e
    rcases h1 with (h | ⟨o, h⟩) | ⟨o, its, n, h, hc, _⟩
    · exact .base (.tup h)
    · exact .fTuple h
    · exact .kTuple h hc
  | lst h1 h2 =>
    cases e
    exact .base (.lst h1)
  | rol h1 h2 =>
    cases e
    rcases h1 with (h | ⟨o, h⟩) | ⟨o, its, n, h, hc, _⟩
    · exact .base (.lst h)
    · exact .base (.frz h)
    · exact .kList h hc
  | dic h1 h0 h2 =>
    cases e
    rcases h1 with h1 | ⟨o, h1⟩
    · exact .base (.dK h1)
    · exact .fDict h1
  | fdi h1 h0 h2 => cases e; exact .fDict h1
  | exc h => cases e
  | ptu h1 h0 h2 => cases e; exact .fTuple h1
theorem tyD_res {m : M} {d : D} {t : Ty} (e : tyD m d = some t) : tyD noM (res m d) = some t := by
  have q : res noM (res m d) = res m d := by
    unfold res
    cases d with
    | ref p =>
      dsimp only
      cases h : m p with
      | none => rfl
      | some c => cases c <;> rfl
    | _ => rfl
  unfold tyD at e ⊢
  rw [q]; exact e

/-! ### names, constants -/
def tVar2 (i : Nat) : TE2 := fun g m Q => ∃ d, g[i]? = some (some d) ∧ Q d m
def tC2 (d : D) : TE2 := fun _ m Q => Q d m
section
variable {X : Cx} {ω : Bx} {pos : Pos}
theorem q_var {i : Nat} {x : Str} (hN : X.N[i]? = some x) (hv : Vis X.env.scope x) (hd : (x == ("__debug__" : Str)) = false := by decide) (hcd : (x == ("__classdict__" : Str)) = false := by decide) : PE2 X ω (.Name x pos) (tVar2 i) :=
  (pe_var hN hv hd hcd).to2 fun σ H g m Q S hm ⟨d, h1, q⟩ => let ⟨v, h2, r⟩ := S.val i d h1; ⟨v, h2, .same hm r q⟩
theorem pv2 (i : Nat) {x : Str} (hN : X.N[i]? = some x := by rfl) (hv : Vis X.env.scope x := by first | exact Or.inl rfl | exact Or.inr (Or.inl rfl) | exact Or.inr (Or.inr rfl)) (hd : (x == ("__debug__" : Str)) = false := by decide)
    (hcd : (x == ("__classdict__" : Str)) = false := by decide) : PE2 X ω (.Name x pos) (tVar2 i) := q_var hN hv hd hcd
theorem q_int {i j} : PE2 X ω (.Constant (.int i) j pos) (tC2 (.int i)) := pe_int.to2 fun σ H g m Q S hm q => .same hm (.int i) q
theorem q_bl {b j} : PE2 X ω (.Constant (.bool b) j pos) (tC2 (.bl b)) := pe_bl.to2 fun σ H g m Q S hm q => .same hm (.bl b) q
theorem q_non {j} : PE2 X ω (.Constant .none j pos) (tC2 .non) := pe_non.to2 fun σ H g m Q S hm q => .same hm .non q
theorem q_str {x j} : PE2 X ω (.Constant (.str x) j pos) (tC2 (.str x)) := pe_str.to2 fun σ H g m Q S hm q => .same hm (.str x) q
/-- a module's constant -/
theorem q_glob {x : Str} {v : V} {u : Value} {d : D} (hg : Gl X x) (hm : X.mg x = some u) (r : RelV v u) (hr : ∀ G, Rep X.K G v d) (hd : (x == ("__debug__" : Str)) = false := by decide) : PE2 X ω (.Name x pos) (tC2 d) :=
  (pe_glob hg hm r hd).to2 fun σ H g m Q S hm q => .same hm (hr _) q
theorem q_bltn {x : Str} {v : V} {u : Value} {d : D} (hg : Gl X x) (hm : X.mg x = none) (hv : bootBuiltins x = some u) (r : RelV v u) (hr : ∀ G, Rep X.K G v d) (hn : x ≠ "__name__" := by decide) (hd : (x == ("__debug__" : Str)) = false := by decide) : PE2 X ω (.Name x pos) (tC2 d) :=
  (pe_bltn hg hm hv r hn hd).to2 fun σ H g m Q S hm q => .same hm (hr _) q

/-! ### arguments, displays -/
def tNil2 : TA2 := fun _ m Q => Q [] m
def tCons2 (ta : TE2) (tr : TA2) : TA2 := fun g m Q => ta g m fun x m1 => tr g m1 fun xs m2 => Q (x :: xs) m2
theorem qa_nil : PA2 X ω [] tNil2 := pa_nil.to2 fun σ H g m Q S hm q => ⟨[], m, .refl hm, .nil, q⟩
theorem qa_cons {e : Expr} {es : List Expr} {te : TE2} {t : TA2} (ha : PE2 X ω e te) (hr : PA2 X ω es t) (hs : starEach (e :: es) X.env = (false, eval e X.env) :: starEach es X.env := by rfl) : PA2 X ω (e :: es) (tCons2 te t) :=
  (pa_cons pe_sem pa_sem hs).to2 fun σ H g m Q S hm q =>
    (ha.sem S hm q).mono fun x H1 ⟨d, m1, s1, r1, q1⟩ => (hr.sem (S.mono s1.ex) s1.mem q1).mono fun xs H2 ⟨ds, m2, s2, r2, q2⟩ => ⟨d :: ds, m2, s1.trans s2, .cons (r1.mono s2.ex) r2, q2⟩
/-- a written row is short: read off the row itself -/
def shL : Nat → List D → Prop → Prop
  | _, [], P => P
  | 0, _ :: _, _ => False
  | n + 1, _ :: r, P => shL n r P
theorem shL.out : ∀ {n : Nat} {ds : List D} {P : Prop}, shL n ds P → ds.length ≤ n ∧ P
  | n, [], _, h => ⟨Nat.zero_le _, by cases n <;> exact h⟩
  | 0, _ :: _, _, h => h.elim
  | n + 1, _ :: r, _, h => ⟨Nat.succ_le_succ (shL.out (n := n) (ds := r) h).1, (shL.out (n := n) (ds := r) h).2⟩
theorem shL.size {n : Nat} {ds : List D} {P : Prop} (h : shL n ds P) (hn : n ≤ 16777216 := by decide) : ds.length ≤ sizeLine := Nat.le_trans h.out.1 hn
def tTup2 (t : TA2) : TE2 := fun g m Q => t g m fun ds m1 => shL 200 ds (Q (.tup ds) m1)
def tLst2 (t : TA2) : TE2 := fun g m Q => t g m fun ds m1 => shL 200 ds (Q (.lst ds) m1)
/-- a new list that is owned -/
def tLstM (t : TA2) : TE2 := fun g m Q => t g m fun ds m1 => shL 200 ds (∀ p, m1 p = none → Q (.ref p) (upM m1 p (.lst ds)))
theorem q_tup {es : List Expr} {t : TA2} {x1} (h : PA2 X ω es t) : PE2 X ω (.Tuple es x1 pos) (tTup2 t) :=
  (pe_tup (x1 := x1) pa_sem).to2 fun σ H g m Q S hm q =>
    (h.sem S hm q).mono fun xs H1 ⟨ds, m1, s1, r1, z⟩ => have q1 := z.out.2; ⟨by rw [r1.length]; exact z.size, fun p hp => P2.go s1 (.new s1.mem hp (.tup (SqT.of (Step.new_at s1.mem hp)) (r1.mono (Step.new s1.mem hp).ex)) q1)⟩
theorem q_lst {es : List Expr} {t : TA2} (h : PA2 X ω es t) : PE2 X ω (.List es pos) (tLst2 t) :=
  (pe_lst pa_sem).to2 fun σ H g m Q S hm q =>
    (h.sem S hm q).mono fun xs H1 ⟨ds, m1, s1, r1, z⟩ => have q1 := z.out.2; ⟨by rw [r1.length]; exact z.size, fun p hp => P2.go s1 (.new s1.mem hp (.lst (Step.new_at s1.mem hp) (r1.mono (Step.new s1.mem hp).ex)) q1)⟩
theorem q_lstM {es : List Expr} {t : TA2} (h : PA2 X ω es t) : PE2 X ω (.List es pos) (tLstM t) :=
  (pe_lst pa_sem).to2 fun σ H g m Q S hm q =>
    (h.sem S hm q).mono fun xs H1 ⟨ds, m1, s1, r1, z⟩ => have q1 := z.out.2; ⟨by rw [r1.length]; exact z.size, fun p hp => P2.go s1 ⟨.ref p, _, Step.newM (c := .lst ds) s1.mem hp ⟨xs, upd_same, r1⟩, .ref p, q1 p (s1.mem.fresh hp)⟩⟩
end

/-! ### operators -/
abbrev R22 := D → D → M → Kd → Prop
def Cv2 (K : PySem.W.Frag) (r : R2) (r2 : R22) : Prop := ∀ (H : Hp) (m : M) (dx dy : D) (x y : V) (Q : Kd) (Q' : VK), MemOk K m H → Rep K (hid m H) x dx → Rep K (hid m H) y dy → r2 dx dy m Q → (∀ v H', P2 K m H Q v H' → Q' v H') → r x y H Q'
def tOp2 (r : R22) (ta tb : TE2) : TE2 := fun g m Q => ta g m fun x m1 => tb g m1 fun y m2 => r x y m2 Q
section
variable {X : Cx} {ω : Bx} {a b : Expr} {ta tb : TE2} {pos : Pos} {r : R2} {r2 : R22}
theorem op_cov (ha : PE2 X ω a ta) (hb : PE2 X ω b tb) (hc : Cv2 X.K r r2) {σ : St} {H : Hp} {g : Sl} {m : M} {Q : Kd} (S : SlotOk X.K ω g σ (hid m H)) (hm : MemOk X.K m H) (q : tOp2 r2 ta tb g m Q) : tOp r (semE X a) (semE X b) σ H (P2 X.K m H Q) :=
  (ha.sem S hm q).mono fun x H1 ⟨dx, m1, s1, r1, q1⟩ => (hb.sem (S.mono s1.ex) s1.mem q1).mono fun y H2 ⟨dy, m2, s2, r2', q2⟩ =>
    hc H2 m2 dx dy x y Q _ s2.mem (r1.mono s2.ex) r2' q2 fun v H' h => P2.go (s1.trans s2) h
theorem q_op {op : Operator} (ho : OpR X (binaryOp op) r) (hc : Cv2 X.K r r2) (ha : PE2 X ω a ta) (hb : PE2 X ω b tb) : PE2 X ω (.BinOp a op b pos) (tOp2 r2 ta tb) :=
  (pe_op ho pe_sem pe_sem).to2 fun σ H g m Q S hm q => op_cov ha hb hc S hm q
theorem q_cmp {op : CmpOp} (ho : OpR X (compareOp op) r) (hc : Cv2 X.K r r2) (ha : PE2 X ω a ta) (hb : PE2 X ω b tb) (hm : behindInMarks op b = false) : PE2 X ω (.Compare a [op] [b] pos) (tOp2 r2 ta tb) :=
  (pe_cmpR ho pe_sem pe_sem hm).to2 fun σ H g m Q S hm q => op_cov ha hb hc S hm q
/-- a value that is a bool, as a test -/
def tT2 (t : TE2) : TT2 := fun g m Q => t g m fun x m1 => ∃ k, x = .bl k ∧ Q k m1
theorem qt_cmp {op : CmpOp} (ho : OpR X (compareOp op) r) (hc : Cv2 X.K r r2) (ha : PE2 X ω a ta) (hb : PE2 X ω b tb) (hm : behindInMarks op b = false) : PT2 X ω (.Compare a [op] [b] pos) (tT2 (tOp2 r2 ta tb)) :=
  (pt_cmpR ho pe_sem pe_sem hm).to2 fun σ H g m Q S hm q =>
    (ha.sem S hm q).mono fun x H1 ⟨dx, m1, s1, r1, q1⟩ => (hb.sem (S.mono s1.ex) s1.mem q1).mono fun y H2 ⟨dy, m2, s2, r2', q2⟩ =>
      hc H2 m2 dx dy x y _ _ s2.mem (r1.mono s2.ex) r2' q2 fun v H' ⟨d, m', s', rv, k, e, q'⟩ => by
        subst e
        cases rv
        exact ⟨k, rfl, m', (s1.trans s2).trans s', q'⟩
theorem qt_val {e : Expr} {t : TE2} (h : PE2 X ω e t) (he : ∀ whole, isTrue e X.env whole = (do let v ← whole; standAt e.pos; holding [v] (truthy v)) := by intro _; rfl) : PT2 X ω e (tT2 t) :=
  (pt_val pe_sem he).to2 fun σ H g m Q S hm q => (h.sem S hm q).mono fun v H1 ⟨d, m1, s1, r1, k, e, q1⟩ => by
    subst e
    cases r1
    exact ⟨k, rfl, m1, s1, q1⟩
def tUn2 (r : D → M → Kd → Prop) (ta : TE2) : TE2 := fun g m Q => ta g m fun x m1 => r x m1 Q
def i1 (g : Int → D) : D → M → Kd → Prop := fun x m Q => ∃ i, x = .int i ∧ Q (g i) m
theorem q_un {op : UnaryOp} {f : Int → Int} (ho : UnR X (unaryOp op) (rU fun i => .int (f i))) (ha : PE2 X ω a ta) : PE2 X ω (.UnaryOp op a pos) (tUn2 (i1 fun i => .int (f i)) ta) :=
  (pe_un ho pe_sem).to2 fun σ H g m Q S hm q => (ha.sem S hm q).mono fun v H1 ⟨d, m1, s1, r1, i, e, q1⟩ => by
    subst e
    cases r1
    exact ⟨i, rfl, P2.go s1 (.same s1.mem (.int _) q1)⟩
theorem q_neg (ha : PE2 X ω a ta) : PE2 X ω (.UnaryOp .USub a pos) (tUn2 (i1 fun i => .int (-i)) ta) := q_un un_neg ha

/-! ### ints -/
def i2 (g : Int → Int → D) : R22 := fun x y m Q => ∃ i j, x = .int i ∧ y = .int j ∧ Q (g i j) m
def i2C (C : Int → Int → Prop) (g : Int → Int → D) : R22 := fun x y m Q => ∃ i j, x = .int i ∧ y = .int j ∧ C i j ∧ Q (g i j) m
variable {K : PySem.W.Frag}
theorem cv_i2 {f : Int → Int → Int} : Cv2 K (rI0 fun i j => .int (f i j)) (i2 fun i j => .int (f i j)) := fun H m dx dy x y Q Q' hm rx ry ⟨i, j, e1, e2, q⟩ k => by
  subst e1; subst e2; cases rx; cases ry
  exact ⟨i, j, rfl, rfl, k _ _ (.same hm (.int _) q)⟩
theorem cv_i2b {f : Int → Int → Bool} : Cv2 K (rI0 fun i j => .bl (f i j)) (i2 fun i j => .bl (f i j)) := fun H m dx dy x y Q Q' hm rx ry ⟨i, j, e1, e2, q⟩ k => by
  subst e1; subst e2; cases rx; cases ry
  exact ⟨i, j, rfl, rfl, k _ _ (.same hm (.bl _) q)⟩
theorem cv_i2C {C : Int → Int → Prop} {f : Int → Int → Int} : Cv2 K (rI C fun i j => .int (f i j)) (i2C C fun i j => .int (f i j)) := fun H m dx dy x y Q Q' hm rx ry ⟨i, j, e1, e2, hc, q⟩ k => by
  subst e1; subst e2; cases rx; cases ry
  exact ⟨i, j, rfl, rfl, hc, k _ _ (.same hm (.int _) q)⟩
abbrev oAdd : R22 := i2 fun i j => .int (i + j)
abbrev oSub : R22 := i2 fun i j => .int (i - j)
abbrev oLt : R22 := i2 fun i j => .bl (decide (i < j))
abbrev oLe : R22 := i2 fun i j => .bl (decide (i ≤ j))
abbrev oGt : R22 := i2 fun i j => .bl (decide (j < i))
abbrev oGe : R22 := i2 fun i j => .bl (decide (j ≤ i))
/-- a product whose size has a bound: one factor small, or both together -/
def COk (i j : Int) : Prop := CMul i j ∨ CMulW i j
abbrev oMul : R22 := i2C COk fun i j => .int (i * j)
abbrev oDiv : R22 := i2C CDivW fun i j => .int (i / j)
abbrev oMod : R22 := i2C (fun _ j => 0 < j) fun i j => .int (i % j)
abbrev oPow : R22 := i2C CPow fun i j => .int (i ^ j.toNat)
theorem op_mulA : OpR X (binaryOp .Mult) (rI COk fun i j => .int (i * j)) := opI fun _ _ _ _ _ _ _ hc q => mul_int q (hc.elim CMul.ok CMulW.ok)
theorem q_add (ha : PE2 X ω a ta) (hb : PE2 X ω b tb) : PE2 X ω (.BinOp a .Add b pos) (tOp2 oAdd ta tb) := q_op op_add cv_i2 ha hb
theorem q_sub (ha : PE2 X ω a ta) (hb : PE2 X ω b tb) : PE2 X ω (.BinOp a .Sub b pos) (tOp2 oSub ta tb) := q_op op_sub cv_i2 ha hb
theorem q_mul (ha : PE2 X ω a ta) (hb : PE2 X ω b tb) : PE2 X ω (.BinOp a .Mult b pos) (tOp2 oMul ta tb) := q_op op_mulA cv_i2C ha hb
theorem q_div (ha : PE2 X ω a ta) (hb : PE2 X ω b tb) : PE2 X ω (.BinOp a .FloorDiv b pos) (tOp2 oDiv ta tb) := q_op op_fdivW cv_i2C ha hb
theorem q_mod (ha : PE2 X ω a ta) (hb : PE2 X ω b tb) : PE2 X ω (.BinOp a .Mod b pos) (tOp2 oMod ta tb) := q_op op_mod cv_i2C ha hb
theorem q_pow (ha : PE2 X ω a ta) (hb : PE2 X ω b tb) : PE2 X ω (.BinOp a .Pow b pos) (tOp2 oPow ta tb) := q_op op_pow cv_i2C ha hb
theorem q_lt (ha : PE2 X ω a ta) (hb : PE2 X ω b tb) : PE2 X ω (.Compare a [.Lt] [b] pos) (tOp2 oLt ta tb) := q_cmp op_lt cv_i2b ha hb (nomark _)
theorem q_le (ha : PE2 X ω a ta) (hb : PE2 X ω b tb) : PE2 X ω (.Compare a [.LtE] [b] pos) (tOp2 oLe ta tb) := q_cmp op_le cv_i2b ha hb (nomark _)
theorem q_gt (ha : PE2 X ω a ta) (hb : PE2 X ω b tb) : PE2 X ω (.Compare a [.Gt] [b] pos) (tOp2 oGt ta tb) := q_cmp op_gt cv_i2b ha hb (nomark _)
theorem q_ge (ha : PE2 X ω a ta) (hb : PE2 X ω b tb) : PE2 X ω (.Compare a [.GtE] [b] pos) (tOp2 oGe ta tb) := q_cmp op_ge cv_i2b ha hb (nomark _)
theorem qt_lt (ha : PE2 X ω a ta) (hb : PE2 X ω b tb) : PT2 X ω (.Compare a [.Lt] [b] pos) (tT2 (tOp2 oLt ta tb)) := qt_cmp op_lt cv_i2b ha hb (nomark _)
theorem qt_le (ha : PE2 X ω a ta) (hb : PE2 X ω b tb) : PT2 X ω (.Compare a [.LtE] [b] pos) (tT2 (tOp2 oLe ta tb)) := qt_cmp op_le cv_i2b ha hb (nomark _)
theorem qt_gt (ha : PE2 X ω a ta) (hb : PE2 X ω b tb) : PT2 X ω (.Compare a [.Gt] [b] pos) (tT2 (tOp2 oGt ta tb)) := qt_cmp op_gt cv_i2b ha hb (nomark _)
theorem qt_ge (ha : PE2 X ω a ta) (hb : PE2 X ω b tb) : PT2 X ω (.Compare a [.GtE] [b] pos) (tT2 (tOp2 oGe ta tb)) := qt_cmp op_ge cv_i2b ha hb (nomark _)

/-! ### ==, is -/
@[irreducible] def oEq : R22 := fun x y m Q => Box <| okD 60 (res m x) = true ∧ okD 60 (res m y) = true ∧ Q (.bl (eqD (res m x) (res m y))) m
@[irreducible] def oNe : R22 := fun x y m Q => Box <| okD 60 (res m x) = true ∧ okD 60 (res m y) = true ∧ Q (.bl (!eqD (res m x) (res m y))) m
theorem cv_eq : Cv2 K (rEqD K) oEq := fun H m dx dy x y Q Q' hm rx ry h k => by
  unfold oEq at h; replace h := h.out
  obtain ⟨h1, h2, q⟩ := h
  exact ⟨_, _, (repRes rx hm).dp h1, (repRes ry hm).dp h2, okD_shaped h1 (by decide), okD_shaped h2 (by decide), k _ _ (.same hm (.bl _) q)⟩
theorem cv_ne : Cv2 K (rNeD K) oNe := fun H m dx dy x y Q Q' hm rx ry h k => by
  unfold oNe at h; replace h := h.out
  obtain ⟨h1, h2, q⟩ := h
  exact ⟨_, _, (repRes rx hm).dp h1, (repRes ry hm).dp h2, okD_shaped h1 (by decide), okD_shaped h2 (by decide), k _ _ (.same hm (.bl _) q)⟩
theorem q_eq {k : Nat} (hr : Room k X.A) (ha : PE2 X ω a ta) (hb : PE2 X ω b tb) : PE2 X ω (.Compare a [.Eq] [b] pos) (tOp2 oEq ta tb) := q_cmp (op_eqD hr.units) cv_eq ha hb (nomark _)
theorem q_ne {k : Nat} (hr : Room k X.A) (ha : PE2 X ω a ta) (hb : PE2 X ω b tb) : PE2 X ω (.Compare a [.NotEq] [b] pos) (tOp2 oNe ta tb) := q_cmp (op_neD hr.units) cv_ne ha hb (nomark _)
theorem qt_eq {k : Nat} (hr : Room k X.A) (ha : PE2 X ω a ta) (hb : PE2 X ω b tb) : PT2 X ω (.Compare a [.Eq] [b] pos) (tT2 (tOp2 oEq ta tb)) := qt_cmp (op_eqD hr.units) cv_eq ha hb (nomark _)
theorem qt_ne {k : Nat} (hr : Room k X.A) (ha : PE2 X ω a ta) (hb : PE2 X ω b tb) : PT2 X ω (.Compare a [.NotEq] [b] pos) (tT2 (tOp2 oNe ta tb)) := qt_cmp (op_neD hr.units) cv_ne ha hb (nomark _)
def isNon : D → Bool | .non => true | _ => false
theorem isNon_rep {G : Hp} {x : V} {d : D} (r : Rep K G x d) : decide (x = .non) = isNon d := by
  cases r <;> first | rfl | simp [isNon]
def oIsN : R22 := fun x y m Q => y = .non ∧ Q (.bl (isNon x)) m
def oNotN : R22 := fun x y m Q => y = .non ∧ Q (.bl (!isNon x)) m
theorem cv_isN : Cv2 K (fun x y H Q => y = .non ∧ Q (.bl (decide (x = .non))) H) oIsN := fun H m dx dy x y Q Q' hm rx ry ⟨e, q⟩ k => by
  subst e; cases ry
  exact ⟨rfl, by rw [isNon_rep rx]; exact k _ _ (.same hm (.bl _) q)⟩
theorem cv_notN : Cv2 K (fun x y H Q => y = .non ∧ Q (.bl (!decide (x = .non))) H) oNotN := fun H m dx dy x y Q Q' hm rx ry ⟨e, q⟩ k => by
  subst e; cases ry
  exact ⟨rfl, by rw [isNon_rep rx]; exact k _ _ (.same hm (.bl _) q)⟩
theorem q_isN (ha : PE2 X ω a ta) (hb : PE2 X ω b tb) : PE2 X ω (.Compare a [.Is] [b] pos) (tOp2 oIsN ta tb) := q_cmp op_isN cv_isN ha hb (nomark _)
theorem q_notN (ha : PE2 X ω a ta) (hb : PE2 X ω b tb) : PE2 X ω (.Compare a [.IsNot] [b] pos) (tOp2 oNotN ta tb) := q_cmp op_notN cv_notN ha hb (nomark _)
theorem qt_isN (ha : PE2 X ω a ta) (hb : PE2 X ω b tb) : PT2 X ω (.Compare a [.Is] [b] pos) (tT2 (tOp2 oIsN ta tb)) := qt_cmp op_isN cv_isN ha hb (nomark _)
theorem qt_notN (ha : PE2 X ω a ta) (hb : PE2 X ω b tb) : PT2 X ω (.Compare a [.IsNot] [b] pos) (tT2 (tOp2 oNotN ta tb)) := qt_cmp op_notN cv_notN ha hb (nomark _)
def oIsB : R22 := fun x y m Q => ∃ i j, x = .bl i ∧ y = .bl j ∧ Q (.bl (decide (i = j))) m
def oNotB : R22 := fun x y m Q => ∃ i j, x = .bl i ∧ y = .bl j ∧ Q (.bl (!decide (i = j))) m
theorem cv_isB : Cv2 K rIsB oIsB := fun H m dx dy x y Q Q' hm rx ry ⟨i, j, e1, e2, q⟩ k => by
  subst e1; subst e2; cases rx; cases ry
  exact ⟨i, j, rfl, rfl, k _ _ (.same hm (.bl _) q)⟩
theorem cv_notB : Cv2 K rNotB oNotB := fun H m dx dy x y Q Q' hm rx ry ⟨i, j, e1, e2, q⟩ k => by
  subst e1; subst e2; cases rx; cases ry
  exact ⟨i, j, rfl, rfl, k _ _ (.same hm (.bl _) q)⟩
theorem q_isB (ha : PE2 X ω a ta) (hb : PE2 X ω b tb) : PE2 X ω (.Compare a [.Is] [b] pos) (tOp2 oIsB ta tb) := q_cmp op_isBl cv_isB ha hb (nomark _)
theorem q_notB (ha : PE2 X ω a ta) (hb : PE2 X ω b tb) : PE2 X ω (.Compare a [.IsNot] [b] pos) (tOp2 oNotB ta tb) := q_cmp op_notBl cv_notB ha hb (nomark _)
theorem qt_isB (ha : PE2 X ω a ta) (hb : PE2 X ω b tb) : PT2 X ω (.Compare a [.Is] [b] pos) (tT2 (tOp2 oIsB ta tb)) := qt_cmp op_isBl cv_isB ha hb (nomark _)
theorem qt_notB (ha : PE2 X ω a ta) (hb : PE2 X ω b tb) : PT2 X ω (.Compare a [.IsNot] [b] pos) (tT2 (tOp2 oNotB ta tb)) := qt_cmp op_notBl cv_notB ha hb (nomark _)
end

/-! ### and, or, not, if -/
section
variable {X : Cx} {ω : Bx} {a b c : Expr} {rest : List Expr} {t u : TT2} {ta tb : TE2} {pos : Pos}
def tAnd2 (t u : TT2) : TT2 := fun g m Q => t g m fun c m1 => if c = true then u g m1 Q else Q false m1
def tOr2 (t u : TT2) : TT2 := fun g m Q => t g m fun c m1 => if c = true then Q true m1 else u g m1 Q
def tNot2 (t : TT2) : TT2 := fun g m Q => t g m fun c m1 => Q (!c) m1
/-- tests whatever their whole is -/
structure PW2 (X : Cx) (ω : Bx) (e : Expr) (t : TT2) : Prop where
  sem : ∀ {σ : St} {H : Hp} {g : Sl} {m : M} {Q : Bool → M → Prop}, SlotOk X.K ω g σ (hid m H) → MemOk X.K m H → t g m Q → ∀ (wh : Sem Value) pins s, Inv X pins σ H s → wpAny (model X.prog X.w) X.A (isTrue e X.env wh) (TP X pins σ (P2T X.K m H Q)) X.xe s
def semW (X : Cx) (e : Expr) : TT := fun σ H Q => ∀ (wh : Sem Value) pins s, Inv X pins σ H s → wpAny (model X.prog X.w) X.A (isTrue e X.env wh) (TP X pins σ Q) X.xe s
theorem pw_sem {e : Expr} : PW X e (semW X e) := ⟨fun wh pins s σ H Q I h => h wh pins s I⟩
theorem _root_.L2.PW.to2 {e : Expr} {t : TT} {t2 : TT2} (h : PW X e t) (c : ∀ (σ : St) (H : Hp) (g : Sl) (m : M) (Q : Bool → M → Prop), SlotOk X.K ω g σ (hid m H) → MemOk X.K m H → t2 g m Q → t σ H (P2T X.K m H Q)) : PW2 X ω e t2 :=
  ⟨fun S hm q wh pins s I => h.run wh pins s _ _ _ I (c _ _ _ _ _ S hm q)⟩
theorem semW.mono {e : Expr} {σ : St} {H : Hp} {Q Q' : Bool → Hp → Prop} (h : semW X e σ H Q) (k : ∀ v H', Q v H' → Q' v H') : semW X e σ H Q' := fun wh pins s I => thn (h wh pins s I) fun _ _ ⟨H', a, c⟩ => ⟨H', a, k _ _ c⟩
theorem PW2.pt {e : Expr} {t : TT2} (h : PW2 X ω e t) : PT2 X ω e t := ⟨fun S hm q pins s I => h.sem S hm q _ pins s I⟩
theorem qw_and1 (ha : PT2 X ω a t) : PW2 X ω (.BoolOp .And [a] pos) t := (pw_and1 pt_sem).to2 fun σ H g m Q S hm q => ha.sem S hm q
theorem qw_or1 (ha : PT2 X ω a t) : PW2 X ω (.BoolOp .Or [a] pos) t := (pw_or1 pt_sem).to2 fun σ H g m Q S hm q => ha.sem S hm q
theorem qw_and (ha : PT2 X ω a t) (hb : PW2 X ω (.BoolOp .And (b :: rest) pos) u) : PW2 X ω (.BoolOp .And (a :: b :: rest) pos) (tAnd2 t u) :=
  (pw_and pt_sem pw_sem).to2 fun σ H g m Q S hm q => (ha.sem S hm q).mono fun k H1 ⟨m1, s1, q1⟩ => by
    cases k with
    | true => rw [if_pos rfl] at q1 ⊢; exact semW.mono (hb.sem (S.mono s1.ex) s1.mem q1) fun _ _ h => P2T.go s1 h
    | false => rw [if_neg Bool.false_ne_true] at q1 ⊢; exact ⟨m1, s1, q1⟩
theorem qw_or (ha : PT2 X ω a t) (hb : PW2 X ω (.BoolOp .Or (b :: rest) pos) u) : PW2 X ω (.BoolOp .Or (a :: b :: rest) pos) (tOr2 t u) :=
  (pw_or pt_sem pw_sem).to2 fun σ H g m Q S hm q => (ha.sem S hm q).mono fun k H1 ⟨m1, s1, q1⟩ => by
    cases k with
    | false => rw [if_neg Bool.false_ne_true] at q1 ⊢; exact semW.mono (hb.sem (S.mono s1.ex) s1.mem q1) fun _ _ h => P2T.go s1 h
    | true => rw [if_pos rfl] at q1 ⊢; exact ⟨m1, s1, q1⟩
theorem qt_not (ha : PT2 X ω a t) : PT2 X ω (.UnaryOp .Not a pos) (tNot2 t) := (pt_not pt_sem).to2 fun σ H g m Q S hm q => (ha.sem S hm q).mono fun k H1 ⟨m1, s1, q1⟩ => ⟨m1, s1, q1⟩
def tAndV2 (ta tb : TE2) : TE2 := fun g m Q => ta g m fun x m1 => ∃ c, x = .bl c ∧ if c = true then tb g m1 Q else Q (.bl false) m1
def tOrV2 (ta tb : TE2) : TE2 := fun g m Q => ta g m fun x m1 => ∃ c, x = .bl c ∧ if c = true then Q (.bl true) m1 else tb g m1 Q
def tNotV2 (ta : TE2) : TE2 := fun g m Q => ta g m fun x m1 => ∃ c, x = .bl c ∧ Q (.bl (!c)) m1
theorem q_one {op} (h : PE2 X ω a ta) : PE2 X ω (.BoolOp op [a] pos) ta := (pe_one pe_sem).to2 fun σ H g m Q S hm q => h.sem S hm q
theorem q_and (ha : PE2 X ω a ta) (hb : PE2 X ω (.BoolOp .And (b :: rest) pos) tb) : PE2 X ω (.BoolOp .And (a :: b :: rest) pos) (tAndV2 ta tb) :=
  (pe_and pe_sem pe_sem).to2 fun σ H g m Q S hm q => (ha.sem S hm q).mono fun x H1 ⟨d, m1, s1, r1, c, e, q1⟩ => by
    subst e; cases r1
    refine ⟨c, rfl, ?_⟩
    cases c with
    | true => rw [if_pos rfl] at q1 ⊢; exact (hb.sem (S.mono s1.ex) s1.mem q1).mono fun _ _ h => P2.go s1 h
    | false => rw [if_neg Bool.false_ne_true] at q1 ⊢; exact P2.go s1 (.same s1.mem (.bl _) q1)
theorem q_or (ha : PE2 X ω a ta) (hb : PE2 X ω (.BoolOp .Or (b :: rest) pos) tb) : PE2 X ω (.BoolOp .Or (a :: b :: rest) pos) (tOrV2 ta tb) :=
  (pe_or pe_sem pe_sem).to2 fun σ H g m Q S hm q => (ha.sem S hm q).mono fun x H1 ⟨d, m1, s1, r1, c, e, q1⟩ => by
    subst e; cases r1
    refine ⟨c, rfl, ?_⟩
    cases c with
    | false => rw [if_neg Bool.false_ne_true] at q1 ⊢; exact (hb.sem (S.mono s1.ex) s1.mem q1).mono fun _ _ h => P2.go s1 h
    | true => rw [if_pos rfl] at q1 ⊢; exact P2.go s1 (.same s1.mem (.bl _) q1)
theorem q_not (ha : PE2 X ω a ta) : PE2 X ω (.UnaryOp .Not a pos) (tNotV2 ta) :=
  (pe_not pe_sem).to2 fun σ H g m Q S hm q => (ha.sem S hm q).mono fun x H1 ⟨d, m1, s1, r1, c, e, q1⟩ => by
    subst e; cases r1
    exact ⟨c, rfl, P2.go s1 (.same s1.mem (.bl _) q1)⟩
def tIf2 (t : TT2) (ta tb : TE2) : TE2 := fun g m Q => t g m fun c m1 => if c = true then ta g m1 Q else tb g m1 Q
theorem q_ifExp (hc : PT2 X ω c t) (ha : PE2 X ω a ta) (hb : PE2 X ω b tb) : PE2 X ω (.IfExp c a b pos) (tIf2 t ta tb) :=
  (pe_ifExp pt_sem pe_sem pe_sem).to2 fun σ H g m Q S hm q => (hc.sem S hm q).mono fun k H1 ⟨m1, s1, q1⟩ => by
    cases k with
    | true => rw [if_pos rfl] at q1 ⊢; exact (ha.sem (S.mono s1.ex) s1.mem q1).mono fun _ _ h => P2.go s1 h
    | false => rw [if_neg Bool.false_ne_true] at q1 ⊢; exact (hb.sem (S.mono s1.ex) s1.mem q1).mono fun _ _ h => P2.go s1 h
end

/-! ### subscripts, slices -/
section
variable {X : Cx} {ω : Bx} {a b : Expr} {ta tb : TE2} {pos : Pos} {K : PySem.W.Frag}
theorem atI_map {α β : Type} (f : α → β) (xs : List α) (i : Int) : atI (xs.map f) i = (atI xs i).map f := by
  unfold atI
  rw [List.length_map]
  cases ixN xs.length i with
  | none => rfl
  | some j => simp
theorem Reps.atI {G : Hp} {vs : List V} {ds : List D} (r : Reps K G vs ds) {i : Int} {d : D} (h : L2.atI ds i = some d) : ∃ v, L2.atI vs i = some v ∧ Rep K G v d := by
  unfold L2.atI at h ⊢
  rw [r.length]
  cases e : ixN ds.length i with
  | none => rw [e] at h; cases h
  | some j => rw [e] at h; exact r.get h
/-- xs[i]: of a list, a tuple -/
def oIxL : R22 := fun x y m Q => ∃ ds i d, lsD (res m x) = some ds ∧ y = .int i ∧ atI ds i = some d ∧ Q d m
def oIxT : R22 := fun x y m Q => ∃ ds i d, res m x = .tup ds ∧ y = .int i ∧ atI ds i = some d ∧ Q d m
def oIxS : R22 := fun x y m Q => ∃ z i c, x = .str z ∧ y = .int i ∧ z.length ≤ sizeLine ∧ atI z.cps.toList i = some c ∧ Q (.str ⟨#[c]⟩) m
theorem cv_ixL : Cv2 K (rIxL K) oIxL := fun H m dx dy x y Q Q' hm rx ry ⟨ds, i, d, e1, e2, hd, q⟩ k => by
  subst e2; cases ry
  obtain ⟨a, vs, rfl, hs, hr⟩ := lstOf rx hm e1
  obtain ⟨v, hv, rv⟩ := hr.atI hd
  exact ⟨a, vs, i, v, rfl, rfl, hs, hv, k _ _ (.same hm rv q)⟩
theorem cv_ixT : Cv2 K (rIxT K) oIxT := fun H m dx dy x y Q Q' hm rx ry ⟨ds, i, d, e1, e2, hd, q⟩ k => by
  subst e2; cases ry
  obtain ⟨a, vs, rfl, hs, hr⟩ := tupOf rx e1
  obtain ⟨v, hv, rv⟩ := hr.atI hd
  exact ⟨a, vs, i, v, rfl, rfl, hs, hv, k _ _ (.same hm rv q)⟩
theorem cv_ixS : Cv2 K rIxS oIxS := fun H m dx dy x y Q Q' hm rx ry ⟨z, i, c, e1, e2, hz, hd, q⟩ k => by
  subst e1; subst e2; cases rx; cases ry
  exact ⟨z, i, c, rfl, rfl, hz, hd, k _ _ (.same hm (.str _) q)⟩
theorem q_ix {r : R2} {r2 : R22} (hr : IxR X r) (hc : Cv2 X.K r r2) (ha : PE2 X ω a ta) (hb : PE2 X ω b tb) (hs : PlainIx b) : PE2 X ω (.Subscript a b pos) (tOp2 r2 ta tb) :=
  (pe_ix hr pe_sem pe_sem hs).to2 fun σ H g m Q S hm q => op_cov ha hb hc S hm q
theorem q_ixL (ha : PE2 X ω a ta) (hb : PE2 X ω b tb) (hs : PlainIx b) : PE2 X ω (.Subscript a b pos) (tOp2 oIxL ta tb) := q_ix ix_list cv_ixL ha hb hs
theorem q_ixT (ha : PE2 X ω a ta) (hb : PE2 X ω b tb) (hs : PlainIx b) : PE2 X ω (.Subscript a b pos) (tOp2 oIxT ta tb) := q_ix ix_tup cv_ixT ha hb hs
theorem q_ixS (ha : PE2 X ω a ta) (hb : PE2 X ω b tb) (hs : PlainIx b) : PE2 X ω (.Subscript a b pos) (tOp2 oIxS ta tb) := q_ix ix_str cv_ixS ha hb hs
end

/-! ### calls of built-ins -/
abbrev RC2 := List D → M → Kd → Prop
def CvC (K : PySem.W.Frag) (r : List V → Hp → VK → Prop) (r2 : RC2) : Prop := ∀ (H : Hp) (m : M) (ds : List D) (vs : List V) (Q : Kd) (Q' : VK), MemOk K m H → Reps K (hid m H) vs ds → r2 ds m Q → (∀ v H', P2 K m H Q v H' → Q' v H') → r vs H Q'
def tCB2 (r : RC2) (t : TA2) : TE2 := fun g m Q => t g m fun ds m1 => r ds m1 Q
section
variable {X : Cx} {ω : Bx} {x : Str} {p pos : Pos} {e : Expr} {es : List Expr} {t : TA2} {id T : String} {r : List V → Hp → VK → Prop} {r2 : RC2}
theorem q_callB (hc : CallR X (.builtin id) r) (hv2 : CvC X.K r r2) (hg : Gl X x) (hm : X.mg x = none) (hv : bootBuiltins x = some (.builtin id)) (ha : PA2 X ω (e :: es) t) (hn : x ≠ "__name__" := by decide) (hdb : (x == ("__debug__" : Str)) = false := by decide)
    (he : starEach (e :: es) X.env = (false, eval e X.env) :: starEach es X.env := by rfl) (hpl : (backTo pos (starEach es X.env)).any (·.1) = false := by rfl) : PE2 X ω (.Call (.Name x p) (e :: es) [] pos) (tCB2 r2 t) :=
  (pe_callB hc hg hm hv pa_sem hn hdb he hpl).to2 fun σ H g m Q S hm q => (ha.sem S hm q).mono fun vs H1 ⟨ds, m1, s1, r1, q1⟩ => hv2 H1 m1 ds vs Q _ s1.mem r1 q1 fun v H' h => P2.go s1 h
theorem q_callTy (hc : CallR X (.type T) r) (hv2 : CvC X.K r r2) (hg : Gl X x) (hm : X.mg x = none) (hv : bootBuiltins x = some (.type T)) (ha : PA2 X ω (e :: es) t) (hn : x ≠ "__name__" := by decide) (hdb : (x == ("__debug__" : Str)) = false := by decide)
    (he : starEach (e :: es) X.env = (false, eval e X.env) :: starEach es X.env := by rfl) (hpl : (backTo pos (starEach es X.env)).any (·.1) = false := by rfl) : PE2 X ω (.Call (.Name x p) (e :: es) [] pos) (tCB2 r2 t) :=
  (pe_callTy hc hg hm hv pa_sem hn hdb he hpl).to2 fun σ H g m Q S hm q => (ha.sem S hm q).mono fun vs H1 ⟨ds, m1, s1, r1, q1⟩ => hv2 H1 m1 ds vs Q _ s1.mem r1 q1 fun v H' h => P2.go s1 h
end
section
variable {K : PySem.W.Frag}
def cAbs : RC2 := fun xs m Q => ∃ i, xs = [.int i] ∧ Q (.int (if i < 0 then -i else i)) m
theorem cc_abs : CvC K (fun xs H Q => ∃ i, xs = [.int i] ∧ Q (.int (if i < 0 then -i else i)) H) cAbs := fun H m ds vs Q Q' hm r ⟨i, e, q⟩ k => by
  subst e
  cases r with | cons r1 r2 => cases r1; cases r2; exact ⟨i, rfl, k _ _ (.same hm (.int _) q)⟩
def cMax2 : RC2 := fun xs m Q => ∃ i j, xs = [.int i, .int j] ∧ Q (.int (if j > i then j else i)) m
def cMin2 : RC2 := fun xs m Q => ∃ i j, xs = [.int i, .int j] ∧ Q (.int (if j < i then j else i)) m
theorem cc_max2 : CvC K (fun xs H Q => ∃ i j, xs = [.int i, .int j] ∧ Q (.int (if j > i then j else i)) H) cMax2 := fun H m ds vs Q Q' hm r ⟨i, j, e, q⟩ k => by
  subst e
  cases r with | cons r1 r2 => cases r1; cases r2 with | cons r1 r2 => cases r1; cases r2; exact ⟨i, j, rfl, k _ _ (.same hm (.int _) q)⟩
theorem cc_min2 : CvC K (fun xs H Q => ∃ i j, xs = [.int i, .int j] ∧ Q (.int (if j < i then j else i)) H) cMin2 := fun H m ds vs Q Q' hm r ⟨i, j, e, q⟩ k => by
  subst e
  cases r with | cons r1 r2 => cases r1; cases r2 with | cons r1 r2 => cases r1; cases r2; exact ⟨i, j, rfl, k _ _ (.same hm (.int _) q)⟩
/-- int of an int, of a bool -/
def cInt1 : RC2 := fun xs m Q => (∃ i, xs = [.int i] ∧ Q (.int i) m) ∨ ∃ k, xs = [.bl k] ∧ Q (.int (if k then 1 else 0)) m
theorem cc_int1 : CvC K (fun xs H Q => (∃ i, xs = [.int i] ∧ Q (.int i) H) ∨ ∃ k, xs = [.bl k] ∧ Q (.int (if k then 1 else 0)) H) cInt1 := fun H m ds vs Q Q' hm r h k => by
  rcases h with ⟨i, e, q⟩ | ⟨i, e, q⟩
  · subst e
    cases r with | cons r1 r2 => cases r1; cases r2; exact .inl ⟨i, rfl, k _ _ (.same hm (.int _) q)⟩
  · subst e
    cases r with | cons r1 r2 => cases r1; cases r2; exact .inr ⟨i, rfl, k _ _ (.same hm (.int _) q)⟩
def cStrI : RC2 := fun xs m Q => ∃ i : Int, xs = [.int i] ∧ i.natAbs.log2 < 1920 ∧ Q (.str (toString i)) m
theorem cc_strI : CvC K (fun xs H Q => ∃ i : Int, xs = [V.int i] ∧ i.natAbs.log2 < 1920 ∧ Q (V.str (toString i)) H) cStrI := fun H m ds vs Q Q' hm r ⟨i, e, h, q⟩ k => by
  subst e
  cases r with | cons r1 r2 => cases r1; cases r2; exact ⟨i, rfl, h, k _ _ (.same hm (.str _) q)⟩
/-- len -/
def lenD : D → Option Nat
  | .str z => if z.length ≤ sizeLine then some z.length else none
  | .tup ds => some ds.length | .lst ds => some ds.length | .rol ds => some ds.length
  | _ => none
def cLen : RC2 := fun xs m Q => ∃ x n, xs = [x] ∧ lenD (res m x) = some n ∧ Q (.int n) m
theorem cc_len : CvC K (fun xs H Q => ∃ x n, xs = [x] ∧ LenV K x H n ∧ Q (.int n) H) cLen := fun H m ds vs Q Q' hm r ⟨x, n, e, hl, q⟩ k => by
  subst e
  cases r with
  | cons r1 r2 =>
    cases r2
    have fin := k _ _ (.same hm (.int (n : Int)) q)
    cases e : res m x with
    | str z =>
      have rr := repRes r1 hm
      rw [e] at rr hl
      cases rr
      have hl : (if z.length ≤ sizeLine then some z.length else none) = some n := hl
      by_cases hz : z.length ≤ sizeLine
      · rw [if_pos hz] at hl; cases hl
        exact ⟨_, _, rfl, ⟨hz, rfl⟩, fin⟩
      · rw [if_neg hz] at hl; cases hl
    | tup es =>
      rw [e] at hl; cases hl
      obtain ⟨a, ws, rfl, h1, h2⟩ := tupOf r1 e
      exact ⟨_, _, rfl, .inr ⟨ws, h1, h2.length.symm⟩, fin⟩
    | lst es =>
      rw [e] at hl; cases hl
      obtain ⟨a, ws, rfl, h1, h2⟩ := lstOf r1 hm (by rw [e] <;> rfl)
      exact ⟨_, _, rfl, .inl ⟨ws, h1, h2.length.symm⟩, fin⟩
    | rol es =>
      rw [e] at hl; cases hl
      obtain ⟨a, ws, rfl, h1, h2⟩ := lstOf r1 hm (by rw [e] <;> rfl)
      exact ⟨_, _, rfl, .inl ⟨ws, h1, h2.length.symm⟩, fin⟩
    | _ => rw [e] at hl; cases hl
/-- sum of ints; all, any of bools; tuple(list), list(list or tuple) -/
def cSum : RC2 := fun xs m Q => ∃ (x : D) (ns : List Int), xs = [x] ∧ lsD (res m x) = some (ns.map D.int) ∧ Q (.int ns.sum) m
theorem cc_sum : CvC K (rSum K) cSum := fun H m ds vs Q Q' hm r ⟨x, ns, e, hl, q⟩ k => by
  subst e
  cases r with
  | cons r1 r2 =>
    cases r2
    obtain ⟨a, ws, rfl, h1, h2⟩ := lstOf r1 hm hl
    rw [h2.ints] at h1
    exact ⟨a, ns, rfl, h1, k _ _ (.same hm (.int _) q)⟩
def cAll : RC2 := fun xs m Q => ∃ (x : D) (bs : List Bool), xs = [x] ∧ lsD (res m x) = some (bs.map D.bl) ∧ Q (.bl (bs.all id)) m
def cAny : RC2 := fun xs m Q => ∃ (x : D) (bs : List Bool), xs = [x] ∧ lsD (res m x) = some (bs.map D.bl) ∧ Q (.bl (bs.any id)) m
theorem cc_all : CvC K (rAll K) cAll := fun H m ds vs Q Q' hm r ⟨x, ns, e, hl, q⟩ k => by
  subst e
  cases r with
  | cons r1 r2 =>
    cases r2
    obtain ⟨a, ws, rfl, h1, h2⟩ := lstOf r1 hm hl
    rw [h2.bls] at h1
    exact ⟨a, ns, rfl, h1, k _ _ (.same hm (.bl _) q)⟩
theorem cc_any : CvC K (rAny K) cAny := fun H m ds vs Q Q' hm r ⟨x, ns, e, hl, q⟩ k => by
  subst e
  cases r with
  | cons r1 r2 =>
    cases r2
    obtain ⟨a, ws, rfl, h1, h2⟩ := lstOf r1 hm hl
    rw [h2.bls] at h1
    exact ⟨a, ns, rfl, h1, k _ _ (.same hm (.bl _) q)⟩
/-- the items of a list or a tuple -/
def itsD : D → Option (List D) | .lst ds => some ds | .rol ds => some ds | .tup ds => some ds | _ => none
def cTuple : RC2 := fun xs m Q => ∃ x ds, xs = [x] ∧ itsD (res m x) = some ds ∧ Q (.tup ds) m
def cList : RC2 := fun xs m Q => ∃ x ds, xs = [x] ∧ itsD (res m x) = some ds ∧ Q (.lst ds) m
def cListM : RC2 := fun xs m Q => ∃ x ds, xs = [x] ∧ itsD (res m x) = some ds ∧ ∀ p, m p = none → Q (.ref p) (upM m p (.lst ds))
theorem itsOf {m : M} {H : Hp} {v : V} {d : D} {ds : List D} (r : Rep K (hid m H) v d) (hm : MemOk K m H) (e : itsD (res m d) = some ds) : ∃ a vs, v = .ref a ∧ (SqL K H a vs ∨ SqT K H a vs) ∧ Reps K (hid m H) vs ds := by
  cases e' : res m d with
  | lst es =>
    rw [e'] at e; cases e
    obtain ⟨a, ws, h0, h1, h2⟩ := lstOf r hm (by rw [e'] <;> rfl)
    exact ⟨a, ws, h0, .inl h1, h2⟩
  | rol es =>
    rw [e'] at e; cases e
    obtain ⟨a, ws, h0, h1, h2⟩ := lstOf r hm (by rw [e'] <;> rfl)
    exact ⟨a, ws, h0, .inl h1, h2⟩
  | tup es =>
    rw [e'] at e; cases e
    obtain ⟨a, ws, h0, h1, h2⟩ := tupOf r e'
    exact ⟨a, ws, h0, .inr h1, h2⟩
  | _ => rw [e'] at e; cases e
theorem cc_tuple : CvC K (fun xs H Q => ∃ p ys, xs = [.ref p] ∧ ((SqL K H p ys ∧ ∀ l, H l = none → Q (.ref l) (upd H l (.tup ys))) ∨ (SqT K H p ys ∧ Q (.ref p) H))) cTuple := fun H m ds vs Q Q' hm r ⟨x, es, e, hl, q⟩ k => by
  subst e
  cases r with
  | cons r1 r2 =>
    cases r2
    cases e' : res m x with
    | lst fs =>
      rw [e'] at hl; cases hl
      obtain ⟨a, ws, rfl, h1, h2⟩ := lstOf r1 hm (by rw [e'] <;> rfl)
      exact ⟨a, ws, rfl, .inl ⟨h1, fun l hl => k _ _ (.new hm hl (.tup (SqT.of (Step.new_at hm hl)) (h2.mono (Step.new hm hl).ex)) q)⟩⟩
    | rol fs =>
      rw [e'] at hl; cases hl
      obtain ⟨a, ws, rfl, h1, h2⟩ := lstOf r1 hm (by rw [e'] <;> rfl)
      exact ⟨a, ws, rfl, .inl ⟨h1, fun l hl => k _ _ (.new hm hl (.tup (SqT.of (Step.new_at hm hl)) (h2.mono (Step.new hm hl).ex)) q)⟩⟩
    | tup fs =>
      rw [e'] at hl; cases hl
      have rr : Rep K (hid m H) _ _ := r1
      obtain ⟨a, ws, rfl, h1, h2⟩ := tupOf r1 e'
      have hx : Rep K (hid m H) (.ref a) (.tup es) := by
        cases r1 with
        | tup a b => cases e'; exact .tup a b
        | ptu a0 b0 c0 => cases e'; exact .tup (.inl (.inr ⟨_, a0⟩)) c0
        | ref b =>
          unfold res at e'
          cases q : m a with
          | none => simp only [q] at e'; cases e'
          | some c => cases c <;> (simp only [q] at e'; cases e')
        | _ => cases e'
      exact ⟨a, ws, rfl, .inr ⟨h1, k _ _ (.same hm hx q)⟩⟩
    | _ => rw [e'] at hl; cases hl
theorem cc_list : CvC K (fun xs H Q => ∃ p ys, xs = [.ref p] ∧ (SqL K H p ys ∨ SqT K H p ys) ∧ ∀ l, H l = none → Q (.ref l) (upd H l (.lst ys))) cList := fun H m ds vs Q Q' hm r ⟨x, es, e, hl, q⟩ k => by
  subst e
  cases r with
  | cons r1 r2 =>
    cases r2
    obtain ⟨a, ws, rfl, h1, h2⟩ := itsOf r1 hm hl
    exact ⟨a, ws, rfl, h1, fun l hl => k _ _ (.new hm hl (.lst (Step.new_at hm hl) (h2.mono (Step.new hm hl).ex)) q)⟩
theorem cc_listM : CvC K (fun xs H Q => ∃ p ys, xs = [.ref p] ∧ (SqL K H p ys ∨ SqT K H p ys) ∧ ∀ l, H l = none → Q (.ref l) (upd H l (.lst ys))) cListM := fun H m ds vs Q Q' hm r ⟨x, es, e, hl, q⟩ k => by
  subst e
  cases r with
  | cons r1 r2 =>
    cases r2
    obtain ⟨a, ws, rfl, h1, h2⟩ := itsOf r1 hm hl
    exact ⟨a, ws, rfl, h1, fun l hl => k _ _ ⟨.ref l, _, Step.newM (c := .lst es) hm hl ⟨ws, upd_same, h2⟩, .ref l, q l (hm.fresh hl)⟩⟩
/-- isinstance by a built-in type -/
def cIsi : RC2 := fun xs m Q => ∃ x T t, xs = [x, .ty (Ty.name T)] ∧ T ≠ .non ∧ tyD m x = some t ∧ Q (.bl (isT t T)) m
theorem cc_isi : CvC K (rIsi K) cIsi := fun H m ds vs Q Q' hm r ⟨x, T, t, e, hT, ht, q⟩ k => by
  subst e
  cases r with
  | cons r1 r2 =>
    cases r2 with
    | cons r3 r4 =>
      cases r3; cases r4
      exact ⟨_, _, _, _, _, rfl, .ty _, tyX_of (repRes r1 hm) (tyD_res ht), kit_isT t T hT, k _ _ (.same hm (.bl _) q)⟩
end
end Z

/-! Z3: defs and their promises, statements, loops, comprehensions. -/
namespace Z
open PySem PySem.Spec PyProof.Rows L2

/-! ### promises -/
/-- the class of what is raised, what is owned then -/
abbrev Kx := Value → M → Prop
abbrev Sp2 := List D → M → Kd → Kx → Prop
def no2 : Kx := fun _ _ => False
def lift (K : PySem.W.Frag) (sp : Sp2) : Sp := fun vs H Q E => ∃ ds m Q2 E2, MemOk K m H ∧ Reps K (hid m H) vs ds ∧ sp ds m Q2 E2 ∧ (∀ v H', P2 K m H Q2 v H' → Q v H') ∧ ∀ c m' H', Step K m H m' H' → E2 c m' → E c none H'
theorem lift_len {K : PySem.W.Frag} {sp : Sp2} {n : Nat} (h : ∀ ds m Q E, sp ds m Q E → ds.length = n) : ∀ vs H Q E, lift K sp vs H Q E → vs.length = n := fun vs H Q E ⟨ds, m, Q2, E2, _, r, s, _⟩ => by
  rw [r.length]; exact h _ _ _ _ s
/-- a def as the heap holds it: its defaults are any -/
structure FunZ (K : PySem.W.Frag) (x qual : Str) (st : Stmt) (f : Addr) (fd : FuncData) : Prop where
  ex : ∃ (oc : Value) (od : Option Addr) (dV kV doc pm : Value) (an : Option Addr) (cdv ct : Value) (osl : Array (Option Value)),
    fd = PySem.W.fnOf x qual (defArgs st) (defBody st) (defScope st) dV kV doc pm an cdv ct ∧ K.lookup f = some ⟨oc, od, .func fd, osl⟩ ∧ PySem.W.codeIn K cdv qual = true
  kp : PySem.W.keepIn K (.ref f) = true
theorem FunZ.ok {P : Program} {w : World} {K : PySem.W.Frag} {mg : Str → Option Value} {base : Heap} {x qual : Str} {st : Stmt} {f : Addr} {fd : FuncData} {N ps : List Str} {k : Nat} {sp : Sp} (F : FunZ K x qual st f fd) (S : FnScope N ps (defScope st)) (len : ∀ vs H Q E, sp vs H Q E → vs.length = ps.length)
    (h : ∀ (cdv : Value) (A : Around) (outer : List Env) (s : Shared) (H : Hp) (vs : List V) (Q : VK) (E : XK), Room k (A.deeper (envOfC qual (defScope st) s.heap.objs.size f cdv)) → sp vs H Q E →
      ∃ t, PSs (cxOf CX0 P w K mg base N qual (defScope st) f cdv A outer s H E).nox (defBody st) t ∧ t { nx := fun _ H' => Q .non H', rt := Q } (start N vs) H) : FnOk P w K mg base CX0 (k + 1) f fd ps sp := by
  obtain ⟨oc, od, dV, kV, doc, pm, an, cdv, ct, osl, rfl, lk, hcd⟩ := F.ex
  refine fn_of lk hcd S len fun A outer s H vs Q E hr z => ?_
  obtain ⟨t, h1, h2⟩ := h cdv A outer s H vs Q E hr z
  exact ⟨t, h1.nox, h2⟩
theorem funz_mk {K : PySem.W.Frag} {x qual : Str} {st : Stmt} {f : Addr} {oc : Value} {od an : Option Addr} {osl : Array (Option Value)} {dV kV doc pm cdv ct : Value} (l : K.lookup f = some ⟨oc, od, .func (PySem.W.fnOf x qual (defArgs st) (defBody st) (defScope st) dV kV doc pm an cdv ct), osl⟩)
    (c : PySem.W.codeIn K cdv qual = true) (k : PySem.W.keepIn K (.ref f) = true) : FunZ K x qual st f (PySem.W.fnOf x qual (defArgs st) (defBody st) (defScope st) dV kV doc pm an cdv ct) := ⟨⟨oc, od, dV, kV, doc, pm, an, cdv, ct, osl, rfl, l, c⟩, k⟩
/-- a def by its body -/
theorem fun_ok2 {P : Program} {w : World} {K : PySem.W.Frag} {mg : Str → Option Value} {base : Heap} {x qual : Str} {st : Stmt} {f : Addr} {fd : FuncData} {N ps : List Str} {k : Nat} {sp : Sp2} (F : FunZ K x qual st f fd) (S : FnScope N ps (defScope st))
    (len : ∀ ds m Q E, sp ds m Q E → ds.length = ps.length)
    (body : ∀ (X : Cx), X.K = K → X.prog = P → X.w = w → X.mg = mg → X.base = base → X.N = N → X.calm = true → (∀ y, X.fn y = true) → X.env.scope = defScope st → X.ex = [] → X.xe = (fun _ _ => False) → Room k X.A → PassesOwn (model X.prog X.w) X.A X.env X.xe →
      ∃ t, PSs2 X Bx.no (defBody st) t ∧ ∀ ds m Q, sp ds m Q no2 → t { nx := fun _ m' => Q .non m', rt := Q } (ds.map some ++ List.replicate (N.length - ds.length) none) m)
    (nox : ∀ ds m Q E, sp ds m Q E → sp ds m Q no2) :
    FnOk P w K mg base CX0 (k + 1) f fd ps (lift K sp) := by
  refine F.ok S (fun vs H Q E h => ?_) (fun cdv A outer s H vs Q E hr h => ?_)
  · exact lift_len len vs H Q E h
  · obtain ⟨ds, m, Q2, E2, hm, r, hs, hQ, hE⟩ := h
    obtain ⟨t, h1, h2⟩ := body (cxOf CX0 P w K mg base N qual (defScope st) f cdv A outer s H E).nox rfl rfl rfl rfl rfl rfl rfl (fun _ => rfl) rfl rfl rfl hr PassesOwn.never
    refine ⟨_, pss_sem, ?_⟩
    have q := h1.sem (SlotOk.start N (fun _ _ z => nomatch z) r) hm (h2 ds m Q2 (nox _ _ _ _ hs))
    refine semSs.mono q ?_ hQ ?_ ?_
    · rintro σ' H' ⟨g', m', s', _, q'⟩
      exact hQ _ _ ⟨.non, m', s', .non, q'⟩
    · rintro σ' H' ⟨g', m', s', _, q'⟩
      exact q'.elim
    · rintro σ' H' ⟨g', m', s', _, q'⟩
      exact q'.elim
/-- the same, the context written out -/
theorem fun_ok {P : Program} {w : World} {K : PySem.W.Frag} {mg : Str → Option Value} {base : Heap} {x qual : Str} {st : Stmt} {f : Addr} {fd : FuncData} {N ps : List Str} {k : Nat} {sp : Sp2} (F : FunZ K x qual st f fd) (S : FnScope N ps (defScope st))
    (len : ∀ ds m Q E, sp ds m Q E → ds.length = ps.length)
    (body : ∀ (cdv : Value) (A : Around) (outer : List Env) (s : Shared) (H : Hp) (E : XK), Room k (A.deeper (envOfC qual (defScope st) s.heap.objs.size f cdv)) →
      ∃ t, PSs2 (cxOf CX0 P w K mg base N qual (defScope st) f cdv A outer s H E).nox Bx.no (defBody st) t ∧ ∀ ds m Q E2, sp ds m Q E2 → t { nx := fun _ m' => Q .non m', rt := Q } (ds.map some ++ List.replicate (N.length - ds.length) none) m) :
    FnOk P w K mg base CX0 (k + 1) f fd ps (lift K sp) := by
  refine F.ok S (fun vs H Q E h => ?_) (fun cdv A outer s H vs Q E hr h => ?_)
  · exact lift_len len vs H Q E h
  · obtain ⟨ds, m, Q2, E2, hm, r, hs, hQ, hE⟩ := h
    obtain ⟨t, h1, h2⟩ := body cdv A outer s H E hr
    refine ⟨_, pss_sem, ?_⟩
    have q := h1.sem (SlotOk.start N (fun _ _ z => nomatch z) r) hm (h2 ds m Q2 E2 hs)
    refine semSs.mono q ?_ hQ ?_ ?_
    · rintro σ' H' ⟨g', m', s', _, q'⟩
      exact hQ _ _ ⟨.non, m', s', .non, q'⟩
    · rintro σ' H' ⟨g', m', s', _, q'⟩
      exact q'.elim
    · rintro σ' H' ⟨g', m', s', _, q'⟩
      exact q'.elim

/-! ### calls of defs -/
/-- f(..): what is given, then the defaults dd -/
def tCall2 (sp : Sp2) (dd : List D) (E2 : Kx) (t : TA2) : TE2 := fun g m Q => t g m fun ds m1 => sp (ds ++ dd) m1 Q E2
section
variable {X : Cx} {ω : Bx} {k : Nat} {f : Addr} {fd : FuncData} {ps : List Str} {sp : Sp2} {dvs : List V} {dus : List Value} {dd : List D} {x : Str} {p pos : Pos} {e : Expr} {es : List Expr} {t : TA2}
theorem q_call (F : FnOk X.prog X.w X.K X.mg X.base CX0 k f fd ps (lift X.K sp)) (hr : Room k X.A) (hg : Gl X x) (hm : X.mg x = some (.ref f)) (hk : PySem.W.keepIn X.K (.ref f) = true) (hb : Binds X.K fd ps dus) (hd : Vals dvs dus) (hdr : ∀ G, Reps X.K G dvs dd)
    (ha : PA2 X ω (e :: es) t) (hdb : (x == ("__debug__" : Str)) = false := by decide) (he : starEach (e :: es) X.env = (false, eval e X.env) :: starEach es X.env := by rfl) (hpl : (backTo pos (starEach es X.env)).any (·.1) = false := by rfl) :
    PE2 X ω (.Call (.Name x p) (e :: es) [] pos) (tCall2 sp dd no2 t) :=
  (pe_call F hr hg hm hk hb hd (pass0 (X := X)) pa_sem hdb he hpl).to2 fun σ H g m Q S hmm q =>
    (ha.sem S hmm q).mono fun vs H1 ⟨ds, m1, s1, r1, q1⟩ => ⟨ds ++ dd, m1, Q, no2, s1.mem, r1.append (hdr _), q1, fun v H' h => P2.go s1 h, fun _ _ _ _ z => z.elim⟩
theorem q_call0 (F : FnOk X.prog X.w X.K X.mg X.base CX0 k f fd ps (lift X.K sp)) (hr : Room k X.A) (hg : Gl X x) (hm : X.mg x = some (.ref f)) (hk : PySem.W.keepIn X.K (.ref f) = true) (hb : Binds X.K fd ps dus) (hd : Vals dvs dus) (hdr : ∀ G, Reps X.K G dvs dd)
    (hdb : (x == ("__debug__" : Str)) = false := by decide) : PE2 X ω (.Call (.Name x p) [] [] pos) (tCall2 sp dd no2 tNil2) :=
  (pe_call0 F hr hg hm hk hb hd (pass0 (X := X)) hdb).to2 fun σ H g m Q S hmm q => ⟨dd, m, Q, no2, hmm, hdr _, q, fun v H' h => h, fun _ _ _ _ z => z.elim⟩
/-- what is owned is given up: less of it stays -/
def Sub (m' m : M) : Prop := ∀ a c, m' a = some c → m a = some c
theorem Sub.refl {m : M} : Sub m m := fun _ _ h => h
theorem Sub.up {m m' : M} {p : Addr} {c : C} (h : Sub m m') (hp : m' p = none) : Sub m (upM m' p c) := fun a d q => by
  have q' := h a d q
  rw [upM_ne (ne_ofM q' hp)]; exact q'
theorem Sub.of_up {m m' : M} {p : Addr} {c : C} (h : Sub m m') (hp : m p = none) : Sub m (upM m' p c) := fun a d q => by
  rw [upM_ne (ne_ofM q hp)]; exact h a d q
def tDrop2 (t : TE2) : TE2 := fun g m Q => t g m fun d m1 => ∃ m2, Sub m2 m1 ∧ Q d m2
theorem q_drop {e : Expr} {t : TE2} (h : PE2 X ω e t) : PE2 X ω e (tDrop2 t) := ⟨fun S hm q => (h.sem S hm q).mono fun v H1 ⟨d, m1, s1, r1, m2, hs, q1⟩ =>
  have st := Step.sub s1.mem hs
  ⟨d, m2, s1.trans st, r1.mono st.ex, q1⟩⟩
/-- an owned list is a value from here on -/
def tFrz (t : TE2) : TE2 := fun g m Q => t g m fun d m1 => ∃ p ds, d = .ref p ∧ m1 p = some (.lst ds) ∧ Q (.lst ds) (dropM m1 p)
theorem q_frz {e : Expr} {t : TE2} (h : PE2 X ω e t) : PE2 X ω e (tFrz t) := ⟨fun S hm q => (h.sem S hm q).mono fun v H1 ⟨d, m1, s1, r1, p, ds, e, hp, q1⟩ => by
  subst e
  have st : Step X.K m1 H1 (dropM m1 p) H1 := Step.dropM s1.mem
  obtain ⟨vs, h1, h2⟩ := s1.mem p _ hp
  have hv : v = .ref p := by cases r1; rfl
  subst hv
  refine ⟨.lst ds, _, s1.trans st, .lst (hid_of ?_ h1) (h2.mono st.ex), q1⟩
  unfold dropM
  rw [if_pos rfl]⟩
end

/-! ### statements -/
def tNext2 : TS2 := fun E g m => E.nx g m
def tSeq2 (t u : TS2) : TS2 := fun E g m => t { E with nx := u E } g m
section
variable {X : Cx} {ω : Bx} {st : Stmt} {rest : List Stmt} {t u : TS2} {e : Expr} {te : TE2} {pos : Pos}
theorem cE_go {K : PySem.W.Frag} {ω : Bx} {m m1 : M} {H H1 : Hp} (s : Step K m H m1 H1) {E : Ends2} {sts : List Stmt} {σ : St} (h : semSs X sts (cE K ω m1 H1 E) σ H1) : semSs X sts (cE K ω m H E) σ H1 :=
  semSs.mono h (fun _ _ q => P2S.go s q) (fun _ _ q => P2.go s q) (fun _ _ q => P2S.go s q) (fun _ _ q => P2S.go s q)
theorem cE_goS {K : PySem.W.Frag} {ω : Bx} {m m1 : M} {H H1 : Hp} (s : Step K m H m1 H1) {E : Ends2} {st : Stmt} {σ : St} (h : semS X st (cE K ω m1 H1 E) σ H1) : semS X st (cE K ω m H E) σ H1 :=
  semS.mono h (fun _ _ q => P2S.go s q) (fun _ _ q => P2.go s q) (fun _ _ q => P2S.go s q) (fun _ _ q => P2S.go s q)
theorem qs_nil : PSs2 X ω [] tNext2 := pss_nil.to2 fun σ H g m E S hm q => ⟨g, m, .refl hm, S, q⟩
theorem qs_cons (h1 : PS2 X ω st t) (h2 : PSs2 X ω rest u) : PSs2 X ω (st :: rest) (tSeq2 t u) :=
  (pss_cons ps_sem pss_sem).to2 fun σ H g m E S hm q => semS.mono (h1.sem S hm q) (fun σ' H' ⟨g', m', s', S', q'⟩ => cE_go s' (h2.sem S' s'.mem q')) (fun _ _ q => q) (fun _ _ q => q) (fun _ _ q => q)
theorem qs_one (h1 : PS2 X ω st t) : PSs2 X ω [st] t := (pss_one ps_sem).to2 fun σ H g m E S hm q => h1.sem S hm q
def tBreak2 : TS2 := fun E g m => E.bk g m
def tCont2 : TS2 := fun E g m => E.ct g m
theorem qs_pass : PS2 X ω (.Pass pos) tNext2 := ps_pass.to2 fun σ H g m E S hm q => ⟨g, m, .refl hm, S, q⟩
theorem qs_break : PS2 X ω (.Break pos) tBreak2 := ps_break.to2 fun σ H g m E S hm q => ⟨g, m, .refl hm, S, q⟩
theorem qs_continue : PS2 X ω (.Continue pos) tCont2 := ps_continue.to2 fun σ H g m E S hm q => ⟨g, m, .refl hm, S, q⟩
def tExpr2 (te : TE2) : TS2 := fun E g m => te g m fun _ m1 => E.nx g m1
theorem qs_expr (he : PE2 X ω e te) (hs : swapsWith e none pos.line X.env = pure false := by rfl) : PS2 X ω (.Expr e pos) (tExpr2 te) :=
  (ps_expr pe_sem hs).to2 fun σ H g m E S hm q => (he.sem S hm q).mono fun v H1 ⟨d, m1, s1, r1, q1⟩ => ⟨g, m1, s1, S.mono s1.ex, q1⟩
def tRet2 (te : TE2) : TS2 := fun E g m => te g m E.rt
theorem qs_ret (he : PE2 X ω e te) : PS2 X ω (.Return (some e) pos) (tRet2 te) := (ps_ret pe_sem).to2 fun σ H g m E S hm q => he.sem S hm q
theorem qs_retN : PS2 X ω (.Return none pos) (fun E _ m => E.rt .non m) := ps_retN.to2 fun σ H g m E S hm q => .same hm .non q
def tIfS2 (c : TT2) (t u : TS2) : TS2 := fun E g m => c g m fun b m1 => if b = true then t E g m1 else u E g m1
theorem qs_if {c : Expr} {a b : List Stmt} {tc : TT2} (hc : PT2 X ω c tc) (ha : PSs2 X ω a t) (hb : PSs2 X ω b u) : PS2 X ω (.If c a b pos) (tIfS2 tc t u) :=
  (ps_if pt_sem pss_sem pss_sem).to2 fun σ H g m E S hm q => (hc.sem S hm q).mono fun k H1 ⟨m1, s1, q1⟩ => by
    cases k with
    | true => rw [if_pos rfl] at q1 ⊢; exact cE_go s1 (ha.sem (S.mono s1.ex) s1.mem q1)
    | false => rw [if_neg Bool.false_ne_true] at q1 ⊢; exact cE_go s1 (hb.sem (S.mono s1.ex) s1.mem q1)
end

/-! ### targets -/
abbrev TG2 := D → Sl → M → (Sl → M → Prop) → Prop
abbrev TGs2 := List D → Sl → M → (Sl → M → Prop) → Prop
def semG (X : Cx) (tg : Expr) : TG := fun v σ H Q => ∀ pins s u, Inv X pins σ H s → RelV v u → wpAny (model X.prog X.w) X.A (assign tg X.env u) (fun _ s' => ∃ σ' H', Inv X pins σ' H' s' ∧ Q σ' H') X.xe s
def semGs (X : Cx) (ts : List Expr) : TGs := fun vs σ H Q => ∀ pins s us, Inv X pins σ H s → Vals vs us → wpAny (model X.prog X.w) X.A (assignInOrder ((assignEach ts X.env).map (·.2)) us) (fun _ s' => ∃ σ' H', Inv X pins σ' H' s' ∧ Q σ' H') X.xe s
section
variable {X : Cx} {ω : Bx} {tg : Expr} {ts : List Expr} {pos : Pos}
theorem pg_sem : PG X tg (semG X tg) := ⟨fun pins s σ H v u Q I r h => h pins s u I r⟩
theorem pgs_sem : PGs X ts (semGs X ts) := ⟨fun pins s σ H v u Q I r h => h pins s u I r⟩
theorem semG.mono {v : V} {σ : St} {H : Hp} {Q Q' : St → Hp → Prop} (h : semG X tg v σ H Q) (k : ∀ a b, Q a b → Q' a b) : semG X tg v σ H Q' := fun pins s u I r => thn (h pins s u I r) fun _ _ ⟨a, b, c, d⟩ => ⟨a, b, c, k _ _ d⟩
theorem semGs.mono {v : List V} {σ : St} {H : Hp} {Q Q' : St → Hp → Prop} (h : semGs X ts v σ H Q) (k : ∀ a b, Q a b → Q' a b) : semGs X ts v σ H Q' := fun pins s u I r => thn (h pins s u I r) fun _ _ ⟨a, b, c, d⟩ => ⟨a, b, c, k _ _ d⟩
structure PG2 (X : Cx) (ω : Bx) (tg : Expr) (t : TG2) : Prop where
  sem : ∀ {σ : St} {H : Hp} {g : Sl} {m : M} {d : D} {v : V} {Q : Sl → M → Prop}, SlotOk X.K ω g σ (hid m H) → MemOk X.K m H → Rep X.K (hid m H) v d → t d g m Q → semG X tg v σ H (P2S X.K ω m H Q)
structure PGs2 (X : Cx) (ω : Bx) (ts : List Expr) (t : TGs2) : Prop where
  sem : ∀ {σ : St} {H : Hp} {g : Sl} {m : M} {ds : List D} {vs : List V} {Q : Sl → M → Prop}, SlotOk X.K ω g σ (hid m H) → MemOk X.K m H → Reps X.K (hid m H) vs ds → t ds g m Q → semGs X ts vs σ H (P2S X.K ω m H Q)
theorem _root_.L2.PG.to2 {t : TG} {t2 : TG2} (h : PG X tg t) (c : ∀ (σ : St) (H : Hp) (g : Sl) (m : M) (d : D) (v : V) (Q : Sl → M → Prop), SlotOk X.K ω g σ (hid m H) → MemOk X.K m H → Rep X.K (hid m H) v d → t2 d g m Q → t v σ H (P2S X.K ω m H Q)) : PG2 X ω tg t2 :=
  ⟨fun S hm r q pins s u I ru => h.run pins s _ _ _ u _ I ru (c _ _ _ _ _ _ _ S hm r q)⟩
theorem _root_.L2.PGs.to2 {t : TGs} {t2 : TGs2} (h : PGs X ts t) (c : ∀ (σ : St) (H : Hp) (g : Sl) (m : M) (d : List D) (v : List V) (Q : Sl → M → Prop), SlotOk X.K ω g σ (hid m H) → MemOk X.K m H → Reps X.K (hid m H) v d → t2 d g m Q → t v σ H (P2S X.K ω m H Q)) : PGs2 X ω ts t2 :=
  ⟨fun S hm r q pins s u I ru => h.run pins s _ _ _ u _ I ru (c _ _ _ _ _ _ _ S hm r q)⟩
def gName2 (i : Nat) : TG2 := fun d g m Q => Q (g.set i (some d)) m
theorem qg_name {i : Nat} {x : Str} (hN : X.N.Nodup) (hi : X.N[i]? = some x) (hx : Loc X.env.scope x) (hf : X.fn x = true ∨ X.env.scope.names.lookup x = some .local := by first | exact .inl rfl | exact .inr rfl | assumption) : PG2 X ω (.Name x pos) (gName2 i) :=
  (pg_name hN hi hx hf).to2 fun σ H g m d v Q S hm r q => ⟨_, m, .refl hm, S.set r, q⟩
def gNil2 : TGs2 := fun ds g m Q => match ds with
  | [] => Q g m
  | _ :: _ => False
def gCons2 (t : TG2) (u : TGs2) : TGs2 := fun ds g m Q => match ds with
  | d :: r => t d g m fun g' m' => u r g' m' Q
  | [] => False
theorem gNil2.out {ds : List D} {g : Sl} {m : M} {Q : Sl → M → Prop} (h : gNil2 ds g m Q) : ds = [] ∧ Q g m := by
  cases ds with
  | nil => exact ⟨rfl, h⟩
  | cons => exact h.elim
theorem gCons2.out {t : TG2} {u : TGs2} {ds : List D} {g : Sl} {m : M} {Q : Sl → M → Prop} (h : gCons2 t u ds g m Q) : ∃ d r, ds = d :: r ∧ t d g m fun g' m' => u r g' m' Q := by
  cases ds with
  | nil => exact h.elim
  | cons d r => exact ⟨d, r, rfl, h⟩
theorem qgs_nil : PGs2 X ω [] gNil2 := pgs_nil.to2 fun σ H g m d v Q S hm r z => by
  obtain ⟨e, q⟩ := gNil2.out z
  subst e
  cases r
  exact ⟨rfl, g, m, .refl hm, S, q⟩
theorem qgs_cons {e : Expr} {es : List Expr} {t : TG2} {u : TGs2} (h1 : PG2 X ω e t) (h2 : PGs2 X ω es u)
    (hs : (assignEach (e :: es) X.env).map (·.2) = assign e X.env :: (assignEach es X.env).map (·.2) := by rfl) : PGs2 X ω (e :: es) (gCons2 t u) :=
  (pgs_cons pg_sem pgs_sem hs).to2 fun σ H g m d v Q S hm r z => by
    obtain ⟨d1, dr, e, q⟩ := gCons2.out z
    subst e
    cases r with
    | cons r1 r2 => exact ⟨_, _, rfl, (h1.sem S hm r1 q).mono fun σ' H' ⟨g', m', s', S', q'⟩ => (h2.sem S' s'.mem (r2.mono s'.ex) q').mono fun _ _ h => P2S.go s' h⟩
/-- (a, b, ..) = a tuple -/
def gTup2 (n : Nat) (t : TGs2) : TG2 := fun d g m Q => ∃ ds, res m d = .tup ds ∧ ds.length = n ∧ t ds g m Q
theorem qg_tup {es : List Expr} {k : Nat} {t : TGs2} {n : Nat} (hc : X.calm = true) (h : PGs2 X ω es t)
    (hn : (assignEach es X.env).length = n := by rfl) (hst : (assignEach es X.env).findIdx? (·.1) = none := by rfl) : PG2 X ω (.Tuple es k pos) (gTup2 n t) :=
  (pg_tup hc pgs_sem hn hst).to2 fun σ H g m d v Q S hm r ⟨ds, e, hl, q⟩ => by
    obtain ⟨a, vs, rfl, h1, h2⟩ := tupOf r e
    exact ⟨a, vs, rfl, h1, h2.length.trans hl, h.sem S hm h2 q⟩
/-- o[i] = v of an owned list -/
def gSubL (to ti : TE2) : TG2 := fun d g m Q => to g m fun o m1 => ti g m1 fun i m2 => ∃ p ds k j, o = .ref p ∧ i = .int k ∧ m2 p = some (.lst ds) ∧ ixN ds.length k = some j ∧ Q g (upM m2 p (.lst (ds.set j d)))
theorem qg_subL {o i : Expr} {to ti : TE2} (ho : PE2 X ω o to) (hi : PE2 X ω i ti)
    (ha : ∀ v, assign (.Subscript o i pos) X.env v = (do
      let ov ← holding [v] (eval o X.env)
      let iv ← holding [v, ov] (eval i X.env)
      standAt pos
      holding [v, ov, iv] (setItem ov iv v)
      release [v, ov, iv] []) := by intro _; rfl) : PG2 X ω (.Subscript o i pos) (gSubL to ti) :=
  (pg_sub pe_sem pe_sem set_list ha).to2 fun σ H g m d v Q S hm r q =>
    (ho.sem S hm q).mono fun ov H1 ⟨od, m1, s1, r1, q1⟩ => (hi.sem (S.mono s1.ex) s1.mem q1).mono fun iv H2 ⟨id, m2, s2, r2, p, ds, k, j, e1, e2, hp, hj, q2⟩ => by
      subst e1; subst e2; cases r2
      have h1 := r1.mono s2.ex
      obtain ⟨vs, h3, h4⟩ := s2.mem p _ hp
      have hov : ov = .ref p := by cases r1; rfl
      subst hov
      have st := Step.upM (c := .lst (ds.set j d)) (o := .lst (vs.set j v)) s2.mem hp ⟨_, upd_same, h4.set ((r.mono s1.ex).mono s2.ex) j⟩
      exact ⟨p, vs, k, j, rfl, rfl, h3, by rw [h4.length]; exact hj, g, _, (s1.trans s2).trans st, ((S.mono s1.ex).mono s2.ex).mono st.ex, q2⟩
end
def tAsg2 (te : TE2) (tg : TG2) : TS2 := fun E g m => te g m fun d m1 => tg d g m1 E.nx
def tPar2 (i j : Nat) (ta : TA2) : TS2 := fun E g m => ta g m fun ds m1 => ∃ d e, ds = [d, e] ∧ E.nx ((g.set i (some d)).set j (some e)) m1
def tAug2 (i : Nat) (te : TE2) (r : R22) : TS2 := fun E g m => ∃ x, g[i]? = some (some x) ∧ te g m fun y m1 => r x y m1 fun z m2 => E.nx (g.set i (some z)) m2
section
variable {X : Cx} {ω : Bx} {e tg : Expr} {te : TE2} {t : TG2} {pos : Pos}
theorem qs_asg (he : PE2 X ω e te) (hg : PG2 X ω tg t) (hs : swapsWithSole [tg] e pos.line X.env = pure false := by rfl) (hw : swappedStores [tg] e X.env = pure none := by rfl)
    (h1 : (assignEach [tg] X.env).map (·.2) = [assign tg X.env] := by rfl) : PS2 X ω (.Assign [tg] e pos) (tAsg2 te t) :=
  (ps_asg pe_sem pg_sem hs hw h1).to2 fun σ H g m E S hm q => (he.sem S hm q).mono fun v H1 ⟨d, m1, s1, r1, q1⟩ => (hg.sem (S.mono s1.ex) s1.mem r1 q1).mono fun _ _ h => P2S.go s1 h
theorem qs_set {i : Nat} {x : Str} {pos' : Pos} (hN : X.N.Nodup) (hi : X.N[i]? = some x) (hx : Loc X.env.scope x) (he : PE2 X ω e te) (hs : swapsWith e (some (.Name x pos')) pos.line X.env = pure false := by rfl) (hf : X.fn x = true ∨ X.env.scope.names.lookup x = some .local := by first | exact .inl rfl | exact .inr rfl | assumption) :
    PS2 X ω (.Assign [.Name x pos'] e pos) (tAsg2 te (gName2 i)) :=
  (ps_set hN hi hx pe_sem hs hf).to2 fun σ H g m E S hm q => (he.sem S hm q).mono fun v H1 ⟨d, m1, s1, r1, q1⟩ => ⟨_, m1, s1, (S.mono s1.ex).set r1, q1⟩
theorem qs_par {i j : Nat} {x y : Str} {a b : Expr} {ta : TA2} {px py pt : Pos} {kt k2 pt2} (hc : X.calm = true) (hN : X.N.Nodup) (hi : X.N[i]? = some x) (hj : X.N[j]? = some y) (hij : i ≠ j)
    (hx : X.env.scope.names.lookup x = some .local) (hy : X.env.scope.names.lookup y = some .local) (ha : PA2 X ω [a, b] ta)
    (hw : swappedStores [.Tuple [.Name x px, .Name y py] kt pt] (.Tuple [a, b] k2 pt2) X.env = pure (some [x, y]))
    (hs : swapsWithSole [.Tuple [.Name x px, .Name y py] kt pt] (.Tuple [a, b] k2 pt2) pos.line X.env = pure false := by rfl) :
    PS2 X ω (.Assign [.Tuple [.Name x px, .Name y py] kt pt] (.Tuple [a, b] k2 pt2) pos) (tPar2 i j ta) :=
  (ps_par hc hN hi hj hij hx hy pa_sem hw hs).to2 fun σ H g m E S hm q => (ha.sem S hm q).mono fun vs H1 ⟨ds, m1, s1, r1, d, e, e1, q1⟩ => by
    subst e1
    cases r1 with | cons r1 r2 => cases r2 with | cons r2 r3 => cases r3; exact ⟨_, _, rfl, _, m1, s1, ((S.mono s1.ex).set r1).set r2, q1⟩
def tPar32 (i j l : Nat) (ta : TA2) : TS2 := fun E g m => ta g m fun ds m1 => ∃ d e f, ds = [d, e, f] ∧ E.nx (((g.set i (some d)).set j (some e)).set l (some f)) m1
theorem qs_par3 {i j l : Nat} {x y z : Str} {a b c : Expr} {ta : TA2} {px py pz pt : Pos} {kt k2 pt2} (hc : X.calm = true) (hN : X.N.Nodup) (hi : X.N[i]? = some x) (hj : X.N[j]? = some y) (hl : X.N[l]? = some z) (hij : i ≠ j) (hil : i ≠ l) (hjl : j ≠ l)
    (hx : X.env.scope.names.lookup x = some .local) (hy : X.env.scope.names.lookup y = some .local) (hz : X.env.scope.names.lookup z = some .local) (ha : PA2 X ω [a, b, c] ta)
    (hw : swappedStores [.Tuple [.Name x px, .Name y py, .Name z pz] kt pt] (.Tuple [a, b, c] k2 pt2) X.env = pure (some [x, y, z]))
    (hs : swapsWithSole [.Tuple [.Name x px, .Name y py, .Name z pz] kt pt] (.Tuple [a, b, c] k2 pt2) pos.line X.env = pure false := by rfl) :
    PS2 X ω (.Assign [.Tuple [.Name x px, .Name y py, .Name z pz] kt pt] (.Tuple [a, b, c] k2 pt2) pos) (tPar32 i j l ta) :=
  (ps_par3 hc hN hi hj hl hij hil hjl hx hy hz pa_sem hw hs).to2 fun σ H g m E S hm q => (ha.sem S hm q).mono fun vs H1 ⟨ds, m1, s1, r1, d, e, f, e1, q1⟩ => by
    subst e1
    cases r1 with | cons r1 r2 => cases r2 with | cons r2 r3 => cases r3 with | cons r3 r4 => cases r4; exact ⟨_, _, _, rfl, _, m1, s1, (((S.mono s1.ex).set r1).set r2).set r3, q1⟩
theorem qs_aug {i : Nat} {x : Str} {op : Operator} {r : R2} {r2 : R22} {pos' : Pos} (hN : X.N.Nodup) (hi : X.N[i]? = some x) (hx : Loc X.env.scope x) (he : PE2 X ω e te) (ho : OpR X (inplaceOp op) r) (hc : Cv2 X.K r r2) (hf : X.fn x = true ∨ X.env.scope.names.lookup x = some .local := by first | exact .inl rfl | exact .inr rfl | assumption) :
    PS2 X ω (.AugAssign (.Name x pos') op e pos) (tAug2 i te r2) :=
  (ps_aug (ti := r) hN hi hx pe_sem (fun pins s σ H x y v u Q I r1 r2 h => ho pins s σ H x y v u Q I r1 r2 h) hf).to2 fun σ H g m E S hm ⟨dx, h1, q⟩ => by
    obtain ⟨v, h2, rv⟩ := S.val i dx h1
    refine ⟨v, h2, (he.sem S hm q).mono fun y H1 ⟨d, m1, s1, r1, q1⟩ => ?_⟩
    refine hc H1 m1 dx d v y _ _ s1.mem (rv.mono s1.ex) r1 q1 fun z H2 ⟨dz, m2, s2, rz, q2⟩ => ?_
    exact ⟨_, m2, s1.trans s2, ((S.mono s1.ex).mono s2.ex).set rz, q2⟩
end

/-! ### while -/
def tWhile2 (c : TT2) (tb : TS2) : TS2 := fun E g m => ∃ W : Nat → Sl → M → Prop, (∃ n, W n g m) ∧ ∀ n g m, W n g m →
  c g m fun b m1 => if b = true then tb { E with nx := fun g' m' => ∃ n', n' < n ∧ W n' g' m', ct := fun g' m' => ∃ n', n' < n ∧ W n' g' m', bk := E.nx } g m1 else E.nx g m1
section
variable {X : Cx} {ω : Bx} {pos : Pos}
theorem qs_while {c : Expr} {body : List Stmt} {tc : TT2} {tb : TS2} (hp : PassesOwn (model X.prog X.w) X.A X.env X.xe) (hc : PT2 X ω c tc) (hb : PSs2 X ω body tb) : PS2 X ω (.While c body [] pos) (tWhile2 tc tb) :=
  (ps_while hp pt_sem pss_sem).to2 fun σ H g m E S hm ⟨W, ⟨n0, w0⟩, turn⟩ => by
    refine ⟨fun n σ' H' => ∃ g' m', Step X.K m H m' H' ∧ SlotOk X.K ω g' σ' (hid m' H') ∧ W n g' m', ⟨n0, g, m, .refl hm, S, w0⟩, ?_⟩
    rintro n σ1 H1 ⟨g1, m1, s1, S1, w1⟩
    refine (hc.sem S1 s1.mem (turn n g1 m1 w1)).mono fun b H2 ⟨m2, s2, q2⟩ => ?_
    cases b with
    | true =>
      rw [if_pos rfl] at q2 ⊢
      refine ⟨fun σ' H' => ∃ n', n' < n ∧ ∃ g' m', Step X.K m H m' H' ∧ SlotOk X.K ω g' σ' (hid m' H') ∧ W n' g' m', fun _ _ h => h, ?_⟩
      refine semSs.mono (hb.sem (S1.mono s2.ex) s2.mem q2) ?_ (fun _ _ q => P2.go (s1.trans s2) q) (fun _ _ q => P2S.go (s1.trans s2) q) ?_
      · rintro σ3 H3 ⟨g3, m3, s3, S3, n3, l3, w3⟩
        exact ⟨n3, l3, g3, m3, (s1.trans s2).trans s3, S3, w3⟩
      · rintro σ3 H3 ⟨g3, m3, s3, S3, n3, l3, w3⟩
        exact ⟨n3, l3, g3, m3, (s1.trans s2).trans s3, S3, w3⟩
    | false =>
      rw [if_neg Bool.false_ne_true] at q2 ⊢
      exact ⟨g1, m2, s1.trans s2, S1.mono s2.ex, q2⟩
end

/-! ### what is walked: a list of data, and what must stand at each turn -/
/-- how the items of a walk lie: J, the library's iterator, yields them one by one as long as keep holds -/
structure Walks2 (K : PySem.W.Frag) (J : It) (ds : List D) (keep : M → Prop) (m : M) (H : Hp) : Prop where
  go : ∀ (i : Nat) (m' : M) (H' : Hp), Step K m H m' H' → keep m' → i < ds.length → J.go i H' ∧ ∀ v H'', J.yld i H' v H'' → ∃ d, ds[i]? = some d ∧ Step K m' H' m' H'' ∧ Rep K (hid m' H'') v d
  stop : ∀ (i : Nat) (m' : M) (H' : Hp), Step K m H m' H' → keep m' → ds.length ≤ i → J.stop i H'
abbrev TI2 := Sl → M → (List D → (M → Prop) → M → Prop) → Prop
def semI (X : Cx) (tg iter : Expr) : TI := fun σ H R => ∀ pins s, Inv X pins σ H s → wpAny (model X.prog X.w) X.A (eval iter X.env) (fun v s1 => wpAny (model X.prog X.w) X.A (pyIter v) (PIE X pins σ tg R) X.xe s1) X.xe s
structure PI2 (X : Cx) (ω : Bx) (tg iter : Expr) (t : TI2) : Prop where
  sem : ∀ {σ : St} {H : Hp} {g : Sl} {m : M} {R : List D → (M → Prop) → M → Prop}, SlotOk X.K ω g σ (hid m H) → MemOk X.K m H → t g m R →
    semI X tg iter σ H fun J H' => ∃ ds keep m', Step X.K m H m' H' ∧ Walks2 X.K J ds keep m' H' ∧ R ds keep m'
theorem PIE.mono {X : Cx} {pins : List (Addr × Obj)} {σ : St} {tg : Expr} {R R' : It → Hp → Prop} {v : Value} {s : Shared} (h : PIE X pins σ tg R v s) (k : ∀ J H, R J H → R' J H) : PIE X pins σ tg R' v s := by
  obtain ⟨it, fp, tn, J, H', a, b, c, d, e, f⟩ := h
  exact ⟨it, fp, tn, J, H', a, b, c, d, e, k _ _ f⟩
section
variable {X : Cx} {ω : Bx} {tg iter : Expr}
theorem pi_sem : PI X tg iter (semI X tg iter) := ⟨fun pins s σ H R I h => h pins s I⟩
theorem semI.mono {σ : St} {H : Hp} {R R' : It → Hp → Prop} (h : semI X tg iter σ H R) (k : ∀ J H, R J H → R' J H) : semI X tg iter σ H R' := fun pins s I => thn (h pins s I) fun _ _ q => thn q fun _ _ q => PIE.mono q k
theorem _root_.L2.PI.to2 {t : TI} {t2 : TI2} (h : PI X tg iter t) (c : ∀ (σ : St) (H : Hp) (g : Sl) (m : M) (R : List D → (M → Prop) → M → Prop), SlotOk X.K ω g σ (hid m H) → MemOk X.K m H → t2 g m R →
    t σ H fun J H' => ∃ ds keep m', Step X.K m H m' H' ∧ Walks2 X.K J ds keep m' H' ∧ R ds keep m') : PI2 X ω tg iter t2 := ⟨fun S hm q pins s I => h.run pins s _ _ _ I (c _ _ _ _ _ S hm q)⟩
/-- over a list: it stands as it is at each turn -/
def iList2 (tl : TE2) : TI2 := fun g m R => tl g m fun d m1 => ∃ ds, lsD (res m1 d) = some ds ∧ R ds (fun m' => lsD (res m' d) = some ds) m1
def iTup2 (tl : TE2) : TI2 := fun g m R => tl g m fun d m1 => ∃ ds, res m1 d = .tup ds ∧ R ds (fun _ => True) m1
variable {l : Expr} {tl : TE2}
theorem Reps.inj_get {K : PySem.W.Frag} {G : Hp} {vs : List V} {ds : List D} (r : Reps K G vs ds) {i : Nat} (hi : i < ds.length) : ∃ d v, ds[i]? = some d ∧ vs[i]? = some v ∧ Rep K G v d := by
  obtain ⟨v, h1, h2⟩ := r.get (List.getElem?_eq_getElem hi)
  exact ⟨_, v, List.getElem?_eq_getElem hi, h1, h2⟩
theorem qi_list (hl : PE2 X ω l tl) : PI2 X ω tg l (iList2 tl) :=
  (pi_list pe_sem).to2 fun σ H g m R S hm q => (hl.sem S hm q).mono fun v H1 ⟨d, m1, s1, r1, ds, e, q1⟩ => by
    obtain ⟨a, vs, rfl, h1, h2⟩ := lstOf r1 s1.mem e
    refine ⟨a, rfl, ⟨vs, h1⟩, ds, _, m1, s1, ⟨fun i m' H' st hk hi => ?_, fun i m' H' st hk hi => ?_⟩, q1⟩
    · obtain ⟨b, ws, e2, h3, h4⟩ := lstOf (r1.mono st.ex) st.mem hk
      cases e2
      obtain ⟨d', w, hd, hw, rw'⟩ := h4.inj_get hi
      refine ⟨⟨ws, w, h3, hw⟩, fun v H'' y => ?_⟩
      obtain ⟨rfl, hy⟩ := y
      have := hy ws h3
      rw [hw] at this; cases this
      exact ⟨d', hd, .refl st.mem, rw'⟩
    · obtain ⟨b, ws, e2, h3, h4⟩ := lstOf (r1.mono st.ex) st.mem hk
      cases e2
      exact ⟨ws, h3, by rw [h4.length]; exact hi⟩
theorem qi_tup (hl : PE2 X ω l tl) : PI2 X ω tg l (iTup2 tl) :=
  (pi_tup pe_sem).to2 fun σ H g m R S hm q => (hl.sem S hm q).mono fun v H1 ⟨d, m1, s1, r1, ds, e, q1⟩ => by
    obtain ⟨a, vs, rfl, h1, h2⟩ := tupOf r1 e
    have hx : Rep X.K (hid m1 H1) (.ref a) (.tup ds) := by
      cases r1 with
      | tup a b => cases e; exact .tup a b
      | ptu a0 b0 c0 => cases e; exact .tup (.inl (.inr ⟨_, a0⟩)) c0
      | ref b =>
        unfold res at e
        cases q : m1 a with
        | none => simp only [q] at e; cases e
        | some c => cases c <;> (simp only [q] at e; cases e)
      | _ => cases e
    refine ⟨a, rfl, ⟨vs, h1⟩, ds, _, m1, s1, ⟨fun i m' H' st hk hi => ?_, fun i m' H' st hk hi => ?_⟩, q1⟩
    · obtain ⟨b, ws, e2, h3, h4⟩ := tupOf (m := m') (hx.mono st.ex) rfl
      cases e2
      obtain ⟨d', w, hd, hw, rw'⟩ := h4.inj_get hi
      refine ⟨⟨ws, w, h3, hw⟩, fun v H'' y => ?_⟩
      obtain ⟨rfl, hy⟩ := y
      have := hy ws h3
      rw [hw] at this; cases this
      exact ⟨d', hd, .refl st.mem, rw'⟩
    · obtain ⟨b, ws, e2, h3, h4⟩ := tupOf (m := m') (hx.mono st.ex) rfl
      cases e2
      exact ⟨ws, h3, by rw [h4.length]; exact hi⟩
/-- range(n), range(a, b) -/
def rngD (lo : Int) (n : Nat) : List D := (List.range n).map fun (i : Nat) => D.int (lo + (i : Int))
theorem rngD_len (lo : Int) (n : Nat) : (rngD lo n).length = n := by unfold rngD; rw [List.length_map, List.length_range]
theorem rngD_get {lo : Int} {n i : Nat} (h : i < n) : (rngD lo n)[i]? = some (.int (lo + (i : Int))) := by
  unfold rngD
  rw [List.getElem?_map, List.getElem?_range h]
  rfl
theorem walks_rng {K : PySem.W.Frag} {lo : Int} {n : Nat} {m : M} {H : Hp} : Walks2 K (Itr lo n) (rngD lo n) (fun _ => True) m H := by
  refine ⟨fun i m' H' st _ hi => ?_, fun i m' H' st _ hi => ?_⟩
  · rw [rngD_len] at hi
    refine ⟨hi, fun v H'' y => ?_⟩
    obtain ⟨rfl, rfl⟩ := y
    exact ⟨_, rngD_get hi, .refl st.mem, .int _⟩
  · rw [rngD_len] at hi
    exact hi
def iRng12 (ta : TA2) : TI2 := fun g m R => ta g m fun ds m1 => ∃ j : Int, ds = [.int j] ∧ -(2 ^ 62) ≤ j ∧ j < 2 ^ 62 ∧ R (rngD 0 j.toNat) (fun _ => True) m1
def iRng22 (ta : TA2) : TI2 := fun g m R => ta g m fun ds m1 => ∃ i j : Int, ds = [.int i, .int j] ∧ (-(2 ^ 62) ≤ i ∧ i < 2 ^ 62 ∧ -(2 ^ 62) ≤ j ∧ j < 2 ^ 62) ∧ R (rngD i (j - i).toNat) (fun _ => True) m1
theorem qi_range1 {a : Expr} {ta : TA2} {p pos : Pos} (hg : Gl X "range") (hm : X.mg "range" = none) (ha : PA2 X ω [a] ta) (hs : starEach [a] X.env = [(false, eval a X.env)] := by rfl) : PI2 X ω tg (.Call (.Name "range" p) [a] [] pos) (iRng12 ta) :=
  (pi_range1 hg hm pa_sem hs).to2 fun σ H g m R S hm q => (ha.sem S hm q).mono fun vs H1 ⟨ds, m1, s1, r1, j, e, h1, h2, q1⟩ => by
    subst e
    cases r1 with | cons r1 r2 => cases r1; cases r2; exact ⟨j, rfl, h1, h2, _, _, m1, s1, walks_rng, q1⟩
theorem qi_range2 {a b : Expr} {ta : TA2} {p pos : Pos} (hg : Gl X "range") (hm : X.mg "range" = none) (ha : PA2 X ω [a, b] ta) (hs : starEach [a, b] X.env = [(false, eval a X.env), (false, eval b X.env)] := by rfl) (hs2 : starEach [b] X.env = [(false, eval b X.env)] := by rfl) :
    PI2 X ω tg (.Call (.Name "range" p) [a, b] [] pos) (iRng22 ta) :=
  (pi_range2 hg hm pa_sem hs hs2).to2 fun σ H g m R S hm q => (ha.sem S hm q).mono fun vs H1 ⟨ds, m1, s1, r1, i, j, e, h1, q1⟩ => by
    subst e
    cases r1 with | cons r1 r2 => cases r1; cases r2 with | cons r1 r2 => cases r1; cases r2; exact ⟨i, j, rfl, h1, _, _, m1, s1, walks_rng, q1⟩
end

/-! ### for -/
def tFor2 (ti : TI2) (tg : TG2) (tb : TS2) : TS2 := fun E g m => ti g m fun ds keep m1 => ∃ W : Nat → Sl → M → Prop, W 0 g m1 ∧ ∀ i g' m', W i g' m' → keep m' ∧
  (∀ d, ds[i]? = some d → tg d g' m' fun g2 m2 => tb { E with nx := W (i + 1), ct := W (i + 1), bk := E.nx } g2 m2) ∧ (i = ds.length → E.nx g' m')
section
variable {X : Cx} {ω : Bx} {pos : Pos}
theorem qs_for {tg iter : Expr} {body : List Stmt} {ti : TI2} {t : TG2} {tb : TS2} (hp : PassesOwn (model X.prog X.w) X.A X.env X.xe) (hc : X.calm = true) (hi : PI2 X ω tg iter ti) (hg : PG2 X ω tg t) (hb : PSs2 X ω body tb)
    (hs : ∀ x, foldedSetIterable iter X.env x = pure x := by intro _; rfl) : PS2 X ω (.For tg iter body [] pos) (tFor2 ti t tb) :=
  (ps_for hp hc pi_sem pg_sem pss_sem hs).to2 fun σ H g m E S hm q => (hi.sem S hm q).mono fun J H1 ⟨ds, keep, m1, s1, wk, W, w0, turn⟩ => by
    refine ⟨fun i n σ' H' => n = ds.length - i ∧ i ≤ ds.length ∧ ∃ g' m', Step X.K m1 H1 m' H' ∧ SlotOk X.K ω g' σ' (hid m' H') ∧ W i g' m', ⟨ds.length, by simp, Nat.zero_le _, g, m1, .refl s1.mem, S.mono s1.ex, w0⟩, ?_⟩
    rintro i n σ' H' ⟨rfl, hi', g', m', st, S', w'⟩
    obtain ⟨hk, ht, he⟩ := turn i g' m' w'
    by_cases hlt : i < ds.length
    · obtain ⟨hgo, hy⟩ := wk.go i m' H' st hk hlt
      refine .inr ⟨hgo, fun σ2 H2 => ∃ g2 m2, Step X.K m1 H1 m2 H2 ∧ SlotOk X.K ω g2 σ2 (hid m2 H2) ∧ W (i + 1) g2 m2, fun σ2 H2 h2 => ⟨ds.length - (i + 1), by omega, rfl, hlt, h2⟩, fun v H2 y => ?_⟩
      obtain ⟨d, hd, st2, rv⟩ := hy v H2 y
      refine (hg.sem (S'.mono st2.ex) st2.mem rv (ht d hd)).mono fun σ3 H3 ⟨g3, m3, s3, S3, q3⟩ => ?_
      have s13 : Step X.K m1 H1 m3 H3 := (st.trans st2).trans s3
      refine semSs.mono (hb.sem S3 s3.mem q3) ?_ (fun _ _ q => P2.go (s1.trans s13) q) (fun _ _ q => P2S.go (s1.trans s13) q) ?_
      · rintro σ4 H4 ⟨g4, m4, s4, S4, w4⟩
        exact ⟨g4, m4, s13.trans s4, S4, w4⟩
      · rintro σ4 H4 ⟨g4, m4, s4, S4, w4⟩
        exact ⟨g4, m4, s13.trans s4, S4, w4⟩
    · have e : i = ds.length := by omega
      exact .inl ⟨wk.stop i m' H' st hk (by omega), g', m', s1.trans st, S', he e⟩
end
end Z

/-! Z4: list comprehensions; methods and operators of lists and tuples. -/
namespace Z
open PySem PySem.Spec PyProof.Rows L2

/-! ### a comprehension's own slots -/
def wipe2 (g : Sl) : List Nat → Sl
  | [] => g
  | v :: vs => (wipe2 g vs).set v none
theorem SlotOk.unset {K : PySem.W.Frag} {ω : Bx} {g : Sl} {σ : St} {G : Hp} (s : SlotOk K ω g σ G) {i : Nat} : SlotOk K ω (g.set i none) (σ.set i none) G := by
  refine ⟨s.tie, by rw [List.length_set, List.length_set]; exact s.len, fun j e h => ?_⟩
  by_cases hj : i = j
  · subst hj
    by_cases hl : i < g.length
    · rw [List.getElem?_set_self hl] at h; cases h
    · rw [List.getElem?_eq_none (by rw [List.length_set]; omega)] at h; cases h
  · rw [List.getElem?_set_ne hj] at h
    obtain ⟨w, h1, h2⟩ := s.val j e h
    exact ⟨w, by rw [List.getElem?_set_ne hj]; exact h1, h2⟩
theorem SlotOk.wipe {K : PySem.W.Frag} {ω : Bx} {g : Sl} {σ : St} {G : Hp} (s : SlotOk K ω g σ G) : ∀ vs : List Nat, SlotOk K ω (wipe2 g vs) (L2.wipe σ vs) G
  | [] => s
  | v :: vs => (SlotOk.wipe s vs).unset
theorem wipe_set {σ : St} {i : Nat} {x : Option V} : ∀ {vs : List Nat}, i ∈ vs → L2.wipe (σ.set i x) vs = L2.wipe σ vs
  | v :: vs, h => by
    unfold L2.wipe
    by_cases hv : i ∈ vs
    · rw [wipe_set hv]
    · have e : i = v := by rcases List.mem_cons.mp h with e | e; exact e; exact absurd e hv
      subst e
      have gen : ∀ ws : List Nat, i ∉ ws → L2.wipe (σ.set i x) ws = (L2.wipe σ ws).set i x := by
        intro ws
        induction ws with
        | nil => intro _; rfl
        | cons w ws ih =>
          intro hw
          have h1 : i ≠ w := fun e => hw (by rw [e]; exact List.mem_cons_self)
          unfold L2.wipe
          rw [ih fun z => hw (List.mem_cons_of_mem _ z), List.set_comm _ _ h1]
      rw [gen vs hv, List.set_set]

/-! ### targets that stay within the own slots -/
structure PGc (X : Cx) (ω : Bx) (tg : Expr) (vs : List Nat) (t : TG2) : Prop where
  sem : ∀ {σ : St} {H : Hp} {g : Sl} {m : M} {d : D} {v : V} {Q : Sl → M → Prop}, SlotOk X.K ω g σ (hid m H) → MemOk X.K m H → Rep X.K (hid m H) v d → t d g m Q → semG X tg v σ H (fun σ' H' => P2S X.K ω m H Q σ' H' ∧ L2.wipe σ' vs = L2.wipe σ vs)
structure PGcs (X : Cx) (ω : Bx) (ts : List Expr) (vs : List Nat) (t : TGs2) : Prop where
  sem : ∀ {σ : St} {H : Hp} {g : Sl} {m : M} {ds : List D} {ws : List V} {Q : Sl → M → Prop}, SlotOk X.K ω g σ (hid m H) → MemOk X.K m H → Reps X.K (hid m H) ws ds → t ds g m Q → semGs X ts ws σ H (fun σ' H' => P2S X.K ω m H Q σ' H' ∧ L2.wipe σ' vs = L2.wipe σ vs)
section
variable {X : Cx} {ω : Bx} {tg : Expr} {ts : List Expr} {pos : Pos} {vs : List Nat}
theorem qgc_name {i : Nat} {x : Str} (hN : X.N.Nodup) (hi : X.N[i]? = some x) (hx : Loc X.env.scope x) (hv : i ∈ vs) (hf : X.fn x = true ∨ X.env.scope.names.lookup x = some .local := by first | exact .inl rfl | exact .inr rfl | assumption) : PGc X ω (.Name x pos) vs (gName2 i) :=
  ⟨fun S hm r q pins s u I ru => (pg_name hN hi hx hf).run pins s _ _ _ u _ I ru ⟨⟨_, _, .refl hm, S.set r, q⟩, wipe_set hv⟩⟩
theorem qgcs_nil : PGcs X ω [] vs gNil2 := ⟨fun S hm r z pins s us I ru => by
  obtain ⟨e, q⟩ := gNil2.out z
  subst e
  cases r
  exact pgs_nil.run pins s _ _ _ us _ I ru ⟨rfl, ⟨_, _, .refl hm, S, q⟩, rfl⟩⟩
theorem qgcs_cons {e : Expr} {es : List Expr} {t : TG2} {u : TGs2} (h1 : PGc X ω e vs t) (h2 : PGcs X ω es vs u)
    (hs : (assignEach (e :: es) X.env).map (·.2) = assign e X.env :: (assignEach es X.env).map (·.2) := by rfl) : PGcs X ω (e :: es) vs (gCons2 t u) :=
  ⟨fun {σ H g m ds ws Q} S hm r z pins s us I ru => by
    obtain ⟨d1, dr, e, q⟩ := gCons2.out z
    subst e
    cases r with
    | cons r1 r2 =>
      refine (pgs_cons pg_sem pgs_sem hs).run pins s _ _ _ us _ I ru ⟨_, _, rfl, (h1.sem S hm r1 q).mono fun σ' H' ⟨⟨g', m', s', S', q'⟩, w1⟩ => ?_⟩
      exact (h2.sem S' s'.mem (r2.mono s'.ex) q').mono fun _ _ ⟨h, w2⟩ => ⟨P2S.go s' h, w2.trans w1⟩⟩
theorem qgc_tup {es : List Expr} {k : Nat} {t : TGs2} {n : Nat} (hc : X.calm = true) (h : PGcs X ω es vs t)
    (hn : (assignEach es X.env).length = n := by rfl) (hst : (assignEach es X.env).findIdx? (·.1) = none := by rfl) : PGc X ω (.Tuple es k pos) vs (gTup2 n t) :=
  ⟨fun {σ H g m d v Q} S hm r ⟨ds, e, hl, q⟩ pins s u I ru => by
    obtain ⟨a, ws, rfl, h1, h2⟩ := tupOf r e
    exact (pg_tup hc pgs_sem hn hst).run pins s _ _ _ u _ I ru ⟨a, ws, rfl, h1, h2.length.trans hl, h.sem S hm h2 q⟩⟩
structure PTs2 (X : Cx) (ω : Bx) (ifs : List Expr) (t : TT2) : Prop where
  sem : ∀ {σ : St} {H : Hp} {g : Sl} {m : M} {Q : Bool → M → Prop}, SlotOk X.K ω g σ (hid m H) → MemOk X.K m H → t g m Q → ∀ pins s, Inv X pins σ H s →
    wpAny (model X.prog X.w) X.A (forIn ifs true fun c r => if r = true then do let ok ← isTrue c X.env (eval c X.env); pure (ForInStep.yield ok) else pure (ForInStep.yield r)) (TP X pins σ (P2T X.K m H Q)) X.xe s
def tYes2 : TT2 := fun _ m Q => Q true m
theorem qts_nil : PTs2 X ω [] tYes2 := ⟨fun S hm q pins s I => pts_nil.run pins s _ _ _ I ⟨_, .refl hm, q⟩⟩
theorem qts_one {c : Expr} {t : TT2} (h : PT2 X ω c t) : PTs2 X ω [c] t := ⟨fun S hm q pins s I => (pts_one pt_sem).run pins s _ _ _ I (h.sem S hm q)⟩
end

/-! ### [e for x in xs if c] -/
/-- W by the turn, the new list so far, what is owned besides; while an item is reckoned the new list is owned at Dl -/
@[irreducible] def LcG (tg : TG2) (tt : TT2) (te : TE2) (vs : List Nat) (g : Sl) (Q : Kd) (ds : List D) (keep : M → Prop) (m1 : M) : Prop := Box <| ds.length ≤ sizeLine ∧ ∃ W : Nat → List D → M → Prop, W 0 [] m1 ∧ ∀ i acc m', W i acc m' →
  (∀ Dl, m' Dl = none → keep (upM m' Dl (.lst acc)) ∧ ∀ d, ds[i]? = some d → tg d (wipe2 g vs) (upM m' Dl (.lst acc)) fun g2 m2 => tt g2 m2 fun b m3 =>
    if b = true then te g2 m3 fun y m4 => ∃ m5, m4 = upM m5 Dl (.lst acc) ∧ m5 Dl = none ∧ W (i + 1) (acc ++ [y]) m5 else ∃ m5, m3 = upM m5 Dl (.lst acc) ∧ m5 Dl = none ∧ W (i + 1) acc m5) ∧ (i = ds.length → Q (.lst acc) m')
theorem LcG.out {tg : TG2} {tt : TT2} {te : TE2} {vs : List Nat} {g : Sl} {Q : Kd} {ds : List D} {keep : M → Prop} {m1 : M} (h : LcG tg tt te vs g Q ds keep m1) : ds.length ≤ sizeLine ∧ ∃ W : Nat → List D → M → Prop, W 0 [] m1 ∧ ∀ i acc m', W i acc m' →
  (∀ Dl, m' Dl = none → keep (upM m' Dl (.lst acc)) ∧ ∀ d, ds[i]? = some d → tg d (wipe2 g vs) (upM m' Dl (.lst acc)) fun g2 m2 => tt g2 m2 fun b m3 =>
    if b = true then te g2 m3 fun y m4 => ∃ m5, m4 = upM m5 Dl (.lst acc) ∧ m5 Dl = none ∧ W (i + 1) (acc ++ [y]) m5 else ∃ m5, m3 = upM m5 Dl (.lst acc) ∧ m5 Dl = none ∧ W (i + 1) acc m5) ∧ (i = ds.length → Q (.lst acc) m') := by unfold LcG at h; replace h := h.out; exact h
def tLc2 (ti : TI2) (tg : TG2) (tt : TT2) (te : TE2) (vs : List Nat) : TE2 := fun g m Q => ti g m fun ds keep m1 => LcG tg tt te vs g Q ds keep m1
section
variable {X : Cx} {ω : Bx}
theorem upM_inj {m m' : M} {p : Addr} {c c' : C} (h : m p = none) (h' : m' p = none) (e : upM m p c = upM m' p c') : m = m' ∧ c = c' := by
  constructor
  · funext a
    by_cases q : a = p
    · rw [q, h, h']
    · have := congrFun e a
      rwa [upM_ne q, upM_ne q] at this
  · have := congrFun e p
    rw [upM_same, upM_same] at this
    exact Option.some.inj this
/-- a comprehension's list given up: it is a value -/
theorem Step.asVal {K : PySem.W.Frag} {m m' : M} {H H' : Hp} {p : Addr} {ds : List D} (s : Step K m H (Z.upM m' p (.lst ds)) H') (hp : m' p = none) : Step K m H m' H' ∧ Rep K (hid m' H') (.ref p) (.lst ds) := by
  have st : Step K (Z.upM m' p (.lst ds)) H' m' H' := Step.sub s.mem fun a c h => by rw [upM_ne (ne_ofM h hp)]; exact h
  obtain ⟨vs, h1, h2⟩ := s.mem p _ upM_same
  exact ⟨s.trans st, .lst (hid_of hp h1) (h2.mono st.ex)⟩
theorem q_lc {elt tg iter : Expr} {ifs : List Expr} {scope : Scope} {own : List (Str × Nat)} {pos : Pos} {ti : TI2} {g : TG2} {tt : TT2} {te : TE2} (hc : X.calm = true) (hN : X.N.Nodup) (hi : PI2 X ω tg iter ti) (ok : BlkOk X.N X.env.scope scope own)
    (hg : ∀ (s : Shared) (H : Hp) (C : Addr) (cl : List (Str × Addr)) (fp : List Addr), PGc (X.blk s H scope (compEnvC scope cl C X.env) fp) ω tg (own.map (·.2)) g)
    (ht : ∀ (s : Shared) (H : Hp) (C : Addr) (cl : List (Str × Addr)) (fp : List Addr), PTs2 (X.blk s H scope (compEnvC scope cl C X.env) fp) ω ifs tt)
    (he : ∀ (s : Shared) (H : Hp) (C : Addr) (cl : List (Str × Addr)) (fp : List Addr), PE2 (X.blk s H scope (compEnvC scope cl C X.env) fp) ω elt te) (hs : ∀ x, foldedSetIterable iter X.env x = pure x := by intro _; rfl) :
    PE2 X ω (.ListComp elt [⟨tg, iter, ifs, 0⟩] scope pos) (tLc2 ti g tt te (own.map (·.2))) := by
  have h := pe_lc (X := X) (elt := elt) (tg := tg) (iter := iter) (ifs := ifs) (scope := scope) (own := own) (pos := pos)
    (g := fun v σ H Q => ∀ s0 H0 C cl fp, semG (X.blk s0 H0 scope (compEnvC scope cl C X.env) fp) tg v σ H Q)
    (tt := fun σ H Q => ∀ s0 H0 C cl fp pins s, Inv (X.blk s0 H0 scope (compEnvC scope cl C X.env) fp) pins σ H s → wpAny (model X.prog X.w) X.A (forIn ifs true fun c r => if r = true then do let ok ← isTrue c (compEnvC scope cl C X.env) (eval c (compEnvC scope cl C X.env)); pure (ForInStep.yield ok) else pure (ForInStep.yield r)) (TP (X.blk s0 H0 scope (compEnvC scope cl C X.env) fp) pins σ Q) (fun _ _ => False) s)
    (te := fun σ H Q => ∀ s0 H0 C cl fp, semE (X.blk s0 H0 scope (compEnvC scope cl C X.env) fp) elt σ H Q)
    hc hN (pi_sem (X := X) (tg := tg) (iter := iter)) ok
    (fun s0 H0 C cl fp => ⟨fun pins s σ H v u Q I r z => z s0 H0 C cl fp pins s u I r⟩) (fun s0 H0 C cl fp => ⟨fun pins s σ H Q I z => z s0 H0 C cl fp pins s I⟩) (fun s0 H0 C cl fp => ⟨fun pins s σ H Q I z => z s0 H0 C cl fp pins s I⟩) hs
  refine h.to2 fun σ H gg m Q S hm q => (hi.sem S hm q).mono fun J H1 ⟨ds, keep, m1, s1, wk, q1⟩ => fun Dl hD => ?_
  obtain ⟨hlen, W, w0, turn⟩ := LcG.out q1
  refine ⟨fun i n H' => n = ds.length - i ∧ i ≤ ds.length ∧ ∃ acc m', m' Dl = none ∧ acc.length ≤ i ∧ Step X.K m1 H1 (upM m' Dl (.lst acc)) H' ∧ W i acc m',
    ⟨ds.length, by simp, Nat.zero_le _, [], m1, s1.mem.fresh hD, Nat.le_refl _, Step.newM (c := .lst []) s1.mem hD ⟨[], upd_same, .nil⟩, w0⟩, ?_⟩
  rintro i n H' ⟨rfl, hi', acc, m', hmD, hal, st, w'⟩
  obtain ⟨hk, he'⟩ := turn i acc m' w'
  obtain ⟨kp, ht'⟩ := hk Dl hmD
  by_cases hlt : i < ds.length
  · obtain ⟨hgo, hy⟩ := wk.go i _ H' st kp hlt
    refine .inr ⟨hgo, fun H2 => ∃ acc m', m' Dl = none ∧ acc.length ≤ i + 1 ∧ Step X.K m1 H1 (upM m' Dl (.lst acc)) H2 ∧ W (i + 1) acc m', fun H2 ⟨acc2, m2, a, b, c, d⟩ => ⟨ds.length - (i + 1), by omega, rfl, hlt, acc2, m2, a, b, c, d⟩, fun v H2 y => ?_⟩
    obtain ⟨d, hd, st2, rv⟩ := hy v H2 y
    have st12 := st.trans st2
    intro s0 H0 C cl fp
    have SW : SlotOk X.K ω (wipe2 gg (own.map (·.2))) (L2.wipe σ (own.map (·.2))) (hid (upM m' Dl (.lst acc)) H2) := ((S.mono s1.ex).mono st12.ex).wipe _
    refine ((hg s0 H0 C cl fp).sem SW st12.mem rv (ht' d hd)).mono fun σ3 H3 ⟨⟨g3, m3, s3, S3, q3⟩, hw⟩ => ⟨?_, ?_⟩
    · rw [hw]
      have ww : ∀ vs : List Nat, L2.wipe (L2.wipe σ vs) vs = L2.wipe σ vs := fun vs => by
        have gen : ∀ us : List Nat, (∀ u ∈ us, u ∈ vs) → L2.wipe (L2.wipe σ us) vs = L2.wipe σ vs := by
          intro us
          induction us with
          | nil => intro _; rfl
          | cons u us ih =>
            intro hu
            show L2.wipe ((L2.wipe σ us).set u none) vs = _
            rw [wipe_set (hu u List.mem_cons_self)]
            exact ih fun z hz => hu z (List.mem_cons_of_mem _ hz)
        exact gen vs fun _ z => z
      exact ww _
    · intro s0 H0 C cl fp pins s I
      refine thn ((ht s0 H0 C cl fp).sem S3 s3.mem q3 pins s I) fun b s4 ⟨H4, I4, m4, st4, q4⟩ => ⟨H4, I4, ?_⟩
      have st14 := (st12.trans s3).trans st4
      cases b with
      | true =>
        rw [if_pos rfl] at q4
        refine iteT ?_
        intro s0 H0 C cl fp
        refine ((he s0 H0 C cl fp).sem (S3.mono st4.ex) st4.mem q4).mono fun yv H5 ⟨yd, m5', st5, ry, m5, e5, hm5, w5⟩ => ?_
        subst e5
        have st15 := st14.trans st5
        obtain ⟨accV, ha, hr⟩ := st15.mem Dl _ upM_same
        refine ⟨accV, ha, by rw [hr.length]; omega, acc ++ [yd], m5, hm5, by rw [List.length_append, List.length_singleton]; omega, ?_, w5⟩
        have stn := Step.upM (c := .lst (acc ++ [yd])) (o := .lst (accV ++ [yv])) st15.mem upM_same ⟨_, upd_same, hr.append (.cons ry .nil)⟩
        rw [upM_upM] at stn
        exact st15.trans stn
      | false =>
        rw [if_neg Bool.false_ne_true] at q4
        refine iteF ?_
        obtain ⟨m5, e5, hm5, w5⟩ := q4
        subst e5
        exact ⟨acc, m5, hm5, by omega, st14, w5⟩
  · have e : i = ds.length := by omega
    have ⟨sv, rp⟩ := Step.asVal st hmD
    exact .inl ⟨wk.stop i _ H' st kp (by omega), _, m', s1.trans sv, rp, he' e⟩
/-- the comprehension of pure items: A the list so far by the turn -/
theorem lc_pure {ti : TI2} {tg : TG2} {tt : TT2} {te : TE2} {vs : List Nat} {g : Sl} {m1 : M} {ds : List D} {keep : M → Prop} {Q : Kd} (A : Nat → List D) (hl : ds.length ≤ sizeLine) (h0 : A 0 = [])
    (hs : ∀ i d mm, ds[i]? = some d → (∃ Dl acc, m1 Dl = none ∧ mm = upM m1 Dl (.lst acc)) → keep mm ∧ tg d (wipe2 g vs) mm fun g2 m2 => tt g2 m2 fun b m3 => if b = true then te g2 m3 fun y m4 => m4 = mm ∧ A (i + 1) = A i ++ [y] else m3 = mm ∧ A (i + 1) = A i)
    (hk : ∀ mm, (∃ Dl acc, m1 Dl = none ∧ mm = upM m1 Dl (.lst acc)) → keep mm)
    (mono : ∀ (d : D) (g' : Sl) (mm : M) (Q1 Q2 : Sl → M → Prop), (∀ a b, Q1 a b → Q2 a b) → tg d g' mm Q1 → tg d g' mm Q2) (monot : ∀ (g' : Sl) (mm : M) (Q1 Q2 : Bool → M → Prop), (∀ a b, Q1 a b → Q2 a b) → tt g' mm Q1 → tt g' mm Q2)
    (monoe : ∀ (g' : Sl) (mm : M) (Q1 Q2 : Kd), (∀ a b, Q1 a b → Q2 a b) → te g' mm Q1 → te g' mm Q2)
    (hq : Q (.lst (A ds.length)) m1) :
    ds.length ≤ sizeLine ∧ ∃ W : Nat → List D → M → Prop, W 0 [] m1 ∧ ∀ i acc m', W i acc m' →
      (∀ Dl, m' Dl = none → keep (upM m' Dl (.lst acc)) ∧ ∀ d, ds[i]? = some d → tg d (wipe2 g vs) (upM m' Dl (.lst acc)) fun g2 m2 => tt g2 m2 fun b m3 =>
        if b = true then te g2 m3 fun y m4 => ∃ m5, m4 = upM m5 Dl (.lst acc) ∧ m5 Dl = none ∧ W (i + 1) (acc ++ [y]) m5 else ∃ m5, m3 = upM m5 Dl (.lst acc) ∧ m5 Dl = none ∧ W (i + 1) acc m5) ∧ (i = ds.length → Q (.lst acc) m') := by
  refine ⟨hl, fun i acc m' => acc = A i ∧ m' = m1, ⟨h0.symm, rfl⟩, ?_⟩
  rintro i acc m' ⟨rfl, rfl⟩
  refine ⟨fun Dl hD => ⟨hk _ ⟨Dl, _, hD, rfl⟩, fun d hd => ?_⟩, fun e => by rw [e]; exact hq⟩
  refine mono _ _ _ _ _ (fun g2 m2 h2 => monot _ _ _ _ (fun b m3 h3 => ?_) h2) (hs i d _ hd ⟨Dl, _, hD, rfl⟩).2
  cases b with
  | true =>
    rw [if_pos rfl] at h3 ⊢
    exact monoe _ _ _ _ (fun y m4 ⟨e1, e2⟩ => ⟨m', e1, hD, e2.symm, rfl⟩) h3
  | false =>
    rw [if_neg Bool.false_ne_true] at h3 ⊢
    exact ⟨m', h3.1, hD, h3.2.symm, rfl⟩
end

/-! ### operators of lists, tuples, texts -/
section
variable {X : Cx} {ω : Bx} {a b : Expr} {ta tb : TE2} {pos : Pos} {K : PySem.W.Frag}
def oCat : R22 := fun x y m Q => ∃ xs ys, res m x = .lst xs ∧ res m y = .lst ys ∧ xs.length + ys.length ≤ sizeLine ∧ Q (.lst (xs ++ ys)) m
def oCatM : R22 := fun x y m Q => ∃ xs ys, res m x = .lst xs ∧ res m y = .lst ys ∧ xs.length + ys.length ≤ sizeLine ∧ ∀ p, m p = none → Q (.ref p) (upM m p (.lst (xs ++ ys)))
theorem cv_cat : Cv2 K rCat oCat := fun H m dx dy x y Q Q' hm rx ry ⟨xs, ys, e1, e2, hl, q⟩ k => by
  obtain ⟨a1, v1, rfl, h1, r1⟩ := lstT rx hm e1
  obtain ⟨a2, v2, rfl, h2, r2⟩ := lstT ry hm e2
  exact ⟨a1, a2, v1, v2, rfl, rfl, h1, h2, by rw [r1.length, r2.length]; exact hl, fun p hp => k _ _ (.new hm hp (.lst (Step.new_at hm hp) ((r1.append r2).mono (Step.new hm hp).ex)) q)⟩
theorem cv_catM : Cv2 K rCat oCatM := fun H m dx dy x y Q Q' hm rx ry ⟨xs, ys, e1, e2, hl, q⟩ k => by
  obtain ⟨a1, v1, rfl, h1, r1⟩ := lstT rx hm e1
  obtain ⟨a2, v2, rfl, h2, r2⟩ := lstT ry hm e2
  exact ⟨a1, a2, v1, v2, rfl, rfl, h1, h2, by rw [r1.length, r2.length]; exact hl, fun p hp => k _ _ ⟨.ref p, _, Step.newM (c := .lst (xs ++ ys)) hm hp ⟨_, upd_same, r1.append r2⟩, .ref p, q p (hm.fresh hp)⟩⟩
theorem q_cat (ha : PE2 X ω a ta) (hb : PE2 X ω b tb) : PE2 X ω (.BinOp a .Add b pos) (tOp2 oCat ta tb) := q_op op_cat cv_cat ha hb
theorem q_catM (ha : PE2 X ω a ta) (hb : PE2 X ω b tb) : PE2 X ω (.BinOp a .Add b pos) (tOp2 oCatM ta tb) := q_op op_cat cv_catM ha hb
theorem Reps.flat {G : Hp} {vs : List V} {ds : List D} (r : Reps K G vs ds) : ∀ n : Nat, Reps K G (List.replicate n vs).flatten (List.replicate n ds).flatten
  | 0 => .nil
  | n + 1 => by
    rw [List.replicate_succ, List.replicate_succ, List.flatten_cons, List.flatten_cons]
    exact r.append (Reps.flat r n)
def oRep : R22 := fun x y m Q => ∃ xs k, res m x = .lst xs ∧ y = .int k ∧ -(2 ^ 63) ≤ k ∧ k < 2 ^ 63 ∧ xs.length * k.toNat ≤ sizeLine ∧ Q (.lst (List.replicate k.toNat xs).flatten) m
theorem cv_rep : Cv2 K rRep oRep := fun H m dx dy x y Q Q' hm rx ry ⟨xs, n, e1, e2, h1, h2, hl, q⟩ k => by
  subst e2; cases ry
  obtain ⟨a1, v1, rfl, h3, r1⟩ := lstT rx hm e1
  exact ⟨a1, n, v1, rfl, rfl, h3, h1, h2, by rw [r1.length]; exact hl, fun p hp => k _ _ (.new hm hp (.lst (Step.new_at hm hp) ((r1.flat _).mono (Step.new hm hp).ex)) q)⟩
theorem q_rep (ha : PE2 X ω a ta) (hb : PE2 X ω b tb) : PE2 X ω (.BinOp a .Mult b pos) (tOp2 oRep ta tb) := q_op op_rep cv_rep ha hb
def oAddS : R22 := fun x y m Q => ∃ i j, x = .str i ∧ y = .str j ∧ i.length + j.length ≤ sizeLine ∧ Q (.str (i ++ j)) m
theorem cv_addS : Cv2 K (fun x y H Q => ∃ i j, x = .str i ∧ y = .str j ∧ i.length + j.length ≤ sizeLine ∧ Q (.str (i ++ j)) H) oAddS := fun H m dx dy x y Q Q' hm rx ry ⟨i, j, e1, e2, h, q⟩ k => by
  subst e1; subst e2; cases rx; cases ry
  exact ⟨i, j, rfl, rfl, h, k _ _ (.same hm (.str _) q)⟩
theorem q_addS (ha : PE2 X ω a ta) (hb : PE2 X ω b tb) : PE2 X ω (.BinOp a .Add b pos) (tOp2 oAddS ta tb) := q_op op_add_str cv_addS ha hb
end

/-! ### methods of lists -/
abbrev RM2 := D → List D → M → Kd → Prop
def CvM (K : PySem.W.Frag) (T : String) (r : V → List V → Hp → VK → Prop) (r2 : RM2) : Prop := ∀ (H : Hp) (m : M) (d : D) (v : V) (ds : List D) (vs : List V) (Q : Kd) (Q' : VK), MemOk K m H → Rep K (hid m H) v d → Reps K (hid m H) vs ds → r2 d ds m Q → (∀ v H', P2 K m H Q v H' → Q' v H') → r v vs H Q'
/-- the receiver is of that type -/
def CvT (K : PySem.W.Frag) (T : String) (ok : D → M → Prop) : Prop := ∀ (H : Hp) (m : M) (d : D) (v : V), MemOk K m H → Rep K (hid m H) v d → ok d m → tyV K T v H
def tBM2 (ok : D → M → Prop) (r : RM2) (to : TE2) (t : TA2) : TE2 := fun g m Q => to g m fun d m1 => ok d m1 ∧ t g m1 fun ds m2 => r d ds m2 Q
def tBM02 (ok : D → M → Prop) (r : RM2) (to : TE2) : TE2 := fun g m Q => to g m fun d m1 => ok d m1 ∧ r d [] m1 Q
section
variable {X : Cx} {ω : Bx} {o e : Expr} {es : List Expr} {to : TE2} {t : TA2} {name : Str} {apos cpos : Pos} {T id : String} {r : V → List V → Hp → VK → Prop} {r2 : RM2} {okd : D → M → Prop}
theorem q_bm (pa : PlainAttrs T) (slot : Slot T name id) (hty : typeOf (.builtin id) = pure (.type "method_descriptor")) (hm : MtR X id r) (hc : CvM X.K T r r2) (hct : CvT X.K T okd) (ho : PE2 X ω o to) (ha : PA2 X ω (e :: es) t)
    (hbase : attributeBase o name X.env (eval o X.env) = eval o X.env := by rfl)
    (hfew : ((backTo cpos (starEach (e :: es) X.env)).all (fun x => !x.1) && (backToKw cpos (keywordEach [] X.env)).all (fun x => x.1.isSome)
      && decide ((e :: es).length + ([] : List Keyword).length + (if ([] : List Keyword).isEmpty then 0 else 1) < 30)) = true := by rfl)
    (hline : (apos.endLine == cpos.line) = true := by rfl) (hs : starEach (e :: es) X.env = (false, eval e X.env) :: starEach es X.env := by rfl) (hplain : (backTo cpos (starEach es X.env)).any (·.1) = false := by rfl) :
    PE2 X ω (.Call (.Attribute o name apos) (e :: es) [] cpos) (tBM2 okd r2 to t) :=
  (pe_bm pa slot hty hm pe_sem pa_sem hbase hfew hline hs hplain).to2 fun σ H g m Q S hmm q => (ho.sem S hmm q).mono fun v H1 ⟨d, m1, s1, r1, hok, q1⟩ =>
    ⟨hct H1 m1 d v s1.mem r1 hok, (ha.sem (S.mono s1.ex) s1.mem q1).mono fun vs H2 ⟨ds, m2, s2, rs, q2⟩ => hc H2 m2 d v ds vs Q _ s2.mem (r1.mono s2.ex) rs q2 fun _ _ h => P2.go (s1.trans s2) h⟩
theorem q_bm0 (pa : PlainAttrs T) (slot : Slot T name id) (hty : typeOf (.builtin id) = pure (.type "method_descriptor")) (hm : MtR X id r) (hc : CvM X.K T r r2) (hct : CvT X.K T okd) (ho : PE2 X ω o to)
    (hbase : attributeBase o name X.env (eval o X.env) = eval o X.env := by rfl) (hline : (apos.endLine == cpos.line) = true := by rfl) : PE2 X ω (.Call (.Attribute o name apos) [] [] cpos) (tBM02 okd r2 to) :=
  (pe_bm0 pa slot hty hm pe_sem hbase hline).to2 fun σ H g m Q S hmm q => (ho.sem S hmm q).mono fun v H1 ⟨d, m1, s1, r1, hok, q1⟩ =>
    ⟨hct H1 m1 d v s1.mem r1 hok, hc H1 m1 d v [] [] Q _ s1.mem r1 .nil q1 fun _ _ h => P2.go s1 h⟩
end
section
variable {K : PySem.W.Frag}
def isL : D → M → Prop := fun d m => ∃ ds, lsD (res m d) = some ds
theorem ct_lst : CvT K "list" isL := fun H m d v hm r ⟨ds, e⟩ => by
  obtain ⟨a, vs, rfl, h1, h2⟩ := lstOf r hm e
  exact .inl ⟨rfl, vs, h1⟩
def mAppend : RM2 := fun d ds m Q => ∃ p xs y, d = .ref p ∧ ds = [y] ∧ m p = some (.lst xs) ∧ xs.length < sizeLine ∧ Q .non (upM m p (.lst (xs ++ [y])))
theorem cm_append : CvM K "list" rAppend mAppend := fun H m d v ds vs Q Q' hm r rs ⟨p, xs, y, e1, e2, hp, hl, q⟩ k => by
  subst e1; subst e2
  cases rs with
  | cons ry r0 =>
    cases r0
    obtain ⟨ws, h1, h2⟩ := hm p _ hp
    have hv : v = .ref p := by cases r; rfl
    subst hv
    exact ⟨p, ws, _, rfl, rfl, h1, by rw [h2.length]; exact hl, k _ _ ⟨.non, _, Step.upM (c := .lst (xs ++ [y])) hm hp ⟨_, upd_same, h2.append (.cons ry .nil)⟩, .non, q⟩⟩
theorem Reps.dropLast {G : Hp} {vs : List V} {ds : List D} (r : Reps K G vs ds) : Reps K G vs.dropLast ds.dropLast := by
  rw [List.dropLast_eq_take, List.dropLast_eq_take, r.length]
  exact r.take _
def mPop : RM2 := fun d ds m Q => ∃ p xs y, d = .ref p ∧ ds = [] ∧ m p = some (.lst xs) ∧ xs[xs.length - 1]? = some y ∧ Q y (upM m p (.lst xs.dropLast))
theorem cm_pop : CvM K "list" rPop mPop := fun H m d v ds vs Q Q' hm r rs ⟨p, xs, y, e1, e2, hp, hl, q⟩ k => by
  subst e1; subst e2
  cases rs
  obtain ⟨ws, h1, h2⟩ := hm p _ hp
  have hv : v = .ref p := by cases r; rfl
  subst hv
  obtain ⟨w, hw, rw'⟩ := h2.get hl
  have st := Step.upM (c := .lst xs.dropLast) (o := .lst ws.dropLast) hm hp ⟨_, upd_same, h2.dropLast⟩
  exact ⟨p, ws, w, rfl, rfl, h1, by rw [h2.length]; exact hw, k _ _ ⟨y, _, st, rw'.mono st.ex, q⟩⟩
def mExtend : RM2 := fun d ds m Q => ∃ p xs y ys, d = .ref p ∧ ds = [y] ∧ m p = some (.lst xs) ∧ res m y = .lst ys ∧ xs.length + ys.length ≤ sizeLine ∧ Q .non (upM m p (.lst (xs ++ ys)))
theorem cm_extend : CvM K "list" rExtend mExtend := fun H m d v ds vs Q Q' hm r rs ⟨p, xs, y, ys, e1, e2, hp, hy, hl, q⟩ k => by
  subst e1; subst e2
  cases rs with
  | cons ry r0 =>
    cases r0
    obtain ⟨ws, h1, h2⟩ := hm p _ hp
    have hv : v = .ref p := by cases r; rfl
    subst hv
    obtain ⟨b, zs, rfl, h3, h4⟩ := lstT ry hm hy
    exact ⟨p, b, ws, zs, rfl, rfl, h1, h3, by rw [h2.length, h4.length]; exact hl, k _ _ ⟨.non, _, Step.upM (c := .lst (xs ++ ys)) hm hp ⟨_, upd_same, h2.append h4⟩, .non, q⟩⟩
end
section
variable {X : Cx} {ω : Bx} {o e : Expr} {to te : TE2} {apos cpos : Pos}
theorem q_append (ho : PE2 X ω o to) (he : PE2 X ω e te) (hbase : attributeBase o "append" X.env (eval o X.env) = eval o X.env := by rfl)
    (hline : (apos.endLine == cpos.line) = true := by rfl) (hs : starEach [e] X.env = (false, eval e X.env) :: starEach [] X.env := by rfl)
    (hfew : ((backTo cpos (starEach [e] X.env)).all (fun x => !x.1) && (backToKw cpos (keywordEach [] X.env)).all (fun x => x.1.isSome)
      && decide ([e].length + ([] : List Keyword).length + (if ([] : List Keyword).isEmpty then 0 else 1) < 30)) = true := by rfl) :
    PE2 X ω (.Call (.Attribute o "append" apos) [e] [] cpos) (tBM2 isL mAppend to (tCons2 te tNil2)) :=
  q_bm PySem.F.plainAttrs_list PySem.F.slot_list_append PySem.F.type_list_append mt_append cm_append ct_lst ho (qa_cons he qa_nil hs) hbase hfew hline hs
theorem q_pop (ho : PE2 X ω o to) (hbase : attributeBase o "pop" X.env (eval o X.env) = eval o X.env := by rfl)
    (hline : (apos.endLine == cpos.line) = true := by rfl) : PE2 X ω (.Call (.Attribute o "pop" apos) [] [] cpos) (tBM02 isL mPop to) :=
  q_bm0 PySem.F.plainAttrs_list PySem.F.slot_list_pop PySem.F.type_list_pop mt_pop cm_pop ct_lst ho hbase hline
end

/-! ### slices -/
section
variable {X : Cx} {ω : Bx} {K : PySem.W.Frag}
abbrev TO2 := Sl → M → (Option Int → M → Prop) → Prop
def semO (X : Cx) (e : Option Expr) : TO := fun σ H Q => ∀ t, PO X e t → True → False
structure PO2 (X : Cx) (ω : Bx) (e : Option Expr) (t : TO2) : Prop where
  ex : ∃ u : TO, PO X e u ∧ ∀ {σ : St} {H : Hp} {g : Sl} {m : M} {Q : Option Int → M → Prop} {Q' : Option Int → Hp → Prop}, SlotOk X.K ω g σ (hid m H) → MemOk X.K m H → t g m Q → (∀ o m' H', Step X.K m H m' H' → Q o m' → Q' o H') → u σ H Q'
def tNoPart2 : TO2 := fun _ m Q => Q none m
def tPart2 (t : TE2) : TO2 := fun g m Q => t g m fun x m1 => ∃ i, x = .int i ∧ Q (some i) m1
theorem qo_none : PO2 X ω none tNoPart2 := ⟨_, po_none, fun S hm q k => k _ _ _ (.refl hm) q⟩
theorem qo_some {e : Expr} {te : TE2} (h : PE2 X ω e te) : PO2 X ω (some e) (tPart2 te) := ⟨_, po_some pe_sem, fun S hm q k => (h.sem S hm q).mono fun v H1 ⟨d, m1, s1, r1, i, e, q1⟩ => by
  subst e
  cases r1
  exact ⟨i, rfl, k _ _ _ s1 q1⟩⟩
def cutD {α : Type} (xs : List α) (lo hi : Option Int) : List α := (xs.drop (HT.sIx xs.length 0 lo)).take (HT.sIx xs.length xs.length hi - HT.sIx xs.length 0 lo)
theorem Reps.cut {G : Hp} {vs : List V} {ds : List D} (r : Reps K G vs ds) (lo hi : Option Int) : Reps K G (cutV vs lo hi) (cutD ds lo hi) := by
  unfold cutV cutD
  rw [r.length]
  exact (r.drop _).take _
def CvS (K : PySem.W.Frag) (r : V → Option Int → Option Int → Hp → VK → Prop) (r2 : D → Option Int → Option Int → M → Kd → Prop) : Prop := ∀ (H : Hp) (m : M) (d : D) (v : V) (lo hi : Option Int) (Q : Kd) (Q' : VK), MemOk K m H → Rep K (hid m H) v d → r2 d lo hi m Q → (∀ v H', P2 K m H Q v H' → Q' v H') → r v lo hi H Q'
def tSl2 (r : D → Option Int → Option Int → M → Kd → Prop) (te : TE2) (tl th : TO2) : TE2 := fun g m Q => te g m fun x m1 => tl g m1 fun l m2 => th g m2 fun u m3 => r x l u m3 Q
theorem q_slice {e : Expr} {lo hi : Option Expr} {p2 pos : Pos} {te : TE2} {tl th : TO2} {r : V → Option Int → Option Int → Hp → VK → Prop} {r2 : D → Option Int → Option Int → M → Kd → Prop} (hr : SlR X r) (hc : CvS X.K r r2) (he : PE2 X ω e te) (hl : PO2 X ω lo tl) (hh : PO2 X ω hi th) :
    PE2 X ω (.Subscript e (.Slice lo hi none p2) pos) (tSl2 r2 te tl th) := by
  obtain ⟨ul, pl, cl⟩ := hl.ex
  obtain ⟨uh, ph, ch⟩ := hh.ex
  refine (pe_slice hr pe_sem pl ph).to2 fun σ H g m Q S hm q => (he.sem S hm q).mono fun v H1 ⟨d, m1, s1, r1, q1⟩ => cl (S.mono s1.ex) s1.mem q1 fun o m2 H2 s2 q2 => ch ((S.mono s1.ex).mono s2.ex) s2.mem q2 fun o3 m3 H3 s3 q3 => ?_
  exact hc H3 m3 d v o o3 Q _ s3.mem ((r1.mono s2.ex).mono s3.ex) q3 fun _ _ h => P2.go ((s1.trans s2).trans s3) h
/-- of a list: a new one -/
def sLst : D → Option Int → Option Int → M → Kd → Prop := fun x lo hi m Q => ∃ xs, lsD (res m x) = some xs ∧ Q (.lst (cutD xs lo hi)) m
theorem cs_lst : CvS K (rSlL K) sLst := fun H m d v lo hi Q Q' hm r ⟨xs, e, q⟩ k => by
  obtain ⟨a, vs, rfl, h1, h2⟩ := lstOf r hm e
  exact ⟨a, vs, rfl, h1, fun p hp => k _ _ (.new hm hp (.lst (Step.new_at hm hp) ((h2.cut lo hi).mono (Step.new hm hp).ex)) q)⟩
theorem q_slL {e : Expr} {lo hi : Option Expr} {p2 pos : Pos} {te : TE2} {tl th : TO2} (he : PE2 X ω e te) (hl : PO2 X ω lo tl) (hh : PO2 X ω hi th) : PE2 X ω (.Subscript e (.Slice lo hi none p2) pos) (tSl2 sLst te tl th) := q_slice sl_list cs_lst he hl hh
end
end Z

/-! Z5: one rule for each form of the text; what is asked is read off the data. -/
namespace Z
open PySem PySem.Spec PyProof.Rows L2

/-- by a truth -/
@[irreducible] def br (c : Bool) (a b : Prop) : Prop := Box <| match c with | true => a | false => b
theorem br_true {a b : Prop} : br true a b = a := propext ⟨fun h => by unfold br at h; exact h.out, fun h => by unfold br; exact ⟨h⟩⟩
theorem br_false {a b : Prop} : br false a b = b := propext ⟨fun h => by unfold br at h; exact h.out, fun h => by unfold br; exact ⟨h⟩⟩
theorem br_t {a b : Prop} (h : br true a b) : a := by rw [br_true] at h; exact h
theorem br_f {a b : Prop} (h : br false a b) : b := by rw [br_false] at h; exact h
theorem brt {a b : Prop} (h : a) : br true a b := by rw [br_true]; exact h
theorem brf {a b : Prop} (h : b) : br false a b := by rw [br_false]; exact h
theorem br2 {c : Bool} {a b : Prop} (h1 : c = true → a) (h2 : c = false → b) : br c a b := by
  cases c with
  | true => rw [br_true]; exact h1 rfl
  | false => rw [br_false]; exact h2 rfl
theorem brT {c : Bool} {a b : Prop} (h : c = true) (x : a) : br c a b := by rw [h, br_true]; exact x
theorem brF {c : Bool} {a b : Prop} (h : c = false) (x : b) : br c a b := by rw [h, br_false]; exact x
theorem br_if {c : Bool} {a b : Prop} (h : br c a b) : if c = true then a else b := by
  cases c with
  | true => rw [br_true] at h; exact iteT h
  | false => rw [br_false] at h; exact iteF h

/-! ### names -/
def tV (i : Nat) : TE2 := fun g m Q => match g[i]? with | some (some d) => Q d m | _ => False
theorem tV_of {i : Nat} {g : Sl} {m : M} {Q : Kd} (h : tV i g m Q) : tVar2 i g m Q := by
  unfold tV at h
  split at h
  · exact ⟨_, by assumption, h⟩
  · exact h.elim
theorem PE2.imp {X : Cx} {ω : Bx} {e : Expr} {t u : TE2} (h : PE2 X ω e t) (k : ∀ g m Q, u g m Q → t g m Q) : PE2 X ω e u := ⟨fun S hm q => h.sem S hm (k _ _ _ q)⟩
theorem PT2.imp {X : Cx} {ω : Bx} {e : Expr} {t u : TT2} (h : PT2 X ω e t) (k : ∀ g m Q, u g m Q → t g m Q) : PT2 X ω e u := ⟨fun S hm q => h.sem S hm (k _ _ _ q)⟩
theorem PS2.imp {X : Cx} {ω : Bx} {e : Stmt} {t u : TS2} (h : PS2 X ω e t) (k : ∀ E g m, u E g m → t E g m) : PS2 X ω e u := ⟨fun S hm q => h.sem S hm (k _ _ _ q)⟩
theorem vU {X : Cx} {ω : Bx} {pos : Pos} (i : Nat) {x : Str} (hN : X.N[i]? = some x := by rfl) (hv : Vis X.env.scope x := by first | exact Or.inl rfl | exact Or.inr (Or.inl rfl) | exact Or.inr (Or.inr rfl)) (hd : (x == ("__debug__" : Str)) = false := by decide)
    (hcd : (x == ("__classdict__" : Str)) = false := by decide) : PE2 X ω (.Name x pos) (tV i) := (q_var hN hv hd hcd).imp fun g m Q h => tV_of h
/-- a builtin type as a value -/
theorem tyU {X : Cx} {ω : Bx} {pos : Pos} {x : Str} {T : String} (hg : Gl X x) (hm : X.mg x = none) (hv : bootBuiltins x = some (.type T)) (hn : x ≠ "__name__" := by decide) (hd : (x == ("__debug__" : Str)) = false := by decide) : PE2 X ω (.Name x pos) (tC2 (.ty T)) :=
  q_bltn (v := .ty T) hg hm hv rfl (fun _ => .ty T) hn hd
/-- a module's constant, as data -/
structure ConstAt (K : PySem.W.Frag) (mg : Str → Option Value) (x : Str) (d : D) : Prop where
  ex : ∃ (v : V) (u : Value), mg x = some u ∧ RelV v u ∧ ∀ G, Rep K G v d
theorem cU {X : Cx} {ω : Bx} {pos : Pos} {x : Str} {d : D} (c : ConstAt X.K X.mg x d) (hg : Gl X x) (hd : (x == ("__debug__" : Str)) = false := by decide) : PE2 X ω (.Name x pos) (tC2 d) := by
  obtain ⟨v, u, h1, h2, h3⟩ := c.ex
  exact q_glob hg h1 h2 h3 hd

/-! ### operators -/
section
variable {X : Cx} {ω : Bx} {a b c : Expr} {ta tb : TE2} {pos : Pos} {K : PySem.W.Frag}
def oAddU : R22 := fun x y m Q => match res m x, res m y with
  | .int i, .int j => Q (.int (i + j)) m
  | .str i, .str j => i.length + j.length ≤ sizeLine ∧ Q (.str (i ++ j)) m
  | .lst i, .lst j => i.length + j.length ≤ sizeLine ∧ Q (.lst (i ++ j)) m
  | .tup i, .tup j => i.length + j.length ≤ sizeLine ∧ Q (.tup (i ++ j)) m
  | _, _ => False
def rAddU (K : PySem.W.Frag) : R2 := fun x y H Q => rI0 (fun i j => .int (i + j)) x y H Q ∨ (∃ i j, x = .str i ∧ y = .str j ∧ i.length + j.length ≤ sizeLine ∧ Q (.str (i ++ j)) H) ∨ rCat x y H Q ∨ rCatA K x y H Q
theorem repI {H : Hp} {m : M} {v : V} {d : D} (r : Rep K (hid m H) v d) (hm : MemOk K m H) {i : Int} (e : res m d = .int i) : v = .int i := by
  have q := repRes r hm
  rw [e] at q
  cases q
  rfl
theorem repS {H : Hp} {m : M} {v : V} {d : D} (r : Rep K (hid m H) v d) (hm : MemOk K m H) {i : Str} (e : res m d = .str i) : v = .str i := by
  have q := repRes r hm
  rw [e] at q
  cases q
  rfl
theorem repB {H : Hp} {m : M} {v : V} {d : D} (r : Rep K (hid m H) v d) (hm : MemOk K m H) {i : Bool} (e : res m d = .bl i) : v = .bl i := by
  have q := repRes r hm
  rw [e] at q
  cases q
  rfl
/-- a tuple read is the value itself -/
theorem repT {H : Hp} {m : M} {v : V} {d : D} (r : Rep K (hid m H) v d) {ds : List D} (e : res m d = .tup ds) : Rep K (hid m H) v (.tup ds) := by
  cases r with
  | tup a b => cases e; exact .tup a b
  | ptu a0 b0 c0 => cases e; exact .tup (.inl (.inr ⟨_, a0⟩)) c0
  | ref b =>
    unfold res at e
    cases q : m b with
    | none => simp only [q] at e; cases e
    | some c => cases c <;> (simp only [q] at e; cases e)
  | _ => cases e
theorem cv_catA {H : Hp} {m : M} {dx dy : D} {x y : V} {Q : Kd} {Q' : VK} {xs ys : List D} (hm : MemOk K m H) (rx : Rep K (hid m H) x dx) (ry : Rep K (hid m H) y dy) (e1 : res m dx = .tup xs) (e2 : res m dy = .tup ys) (hl : xs.length + ys.length ≤ sizeLine)
    (q : Q (.tup (xs ++ ys)) m) (k : ∀ v H', P2 K m H Q v H' → Q' v H') : rCatA K x y H Q' := by
  have tx := repT rx e1
  have ty := repT ry e2
  obtain ⟨a1, v1, rfl, h1, r1⟩ := tupOf rx e1
  obtain ⟨a2, v2, rfl, h2, r2⟩ := tupOf ry e2
  refine ⟨a1, a2, v1, v2, rfl, rfl, h1, h2, by rw [r1.length, r2.length]; exact hl, fun e => ?_, fun _ e => ?_, fun _ _ p hp => ?_⟩
  · subst e
    cases r1
    exact k _ _ (.same hm ty q)
  · subst e
    cases r2
    rw [List.append_nil] at q
    exact k _ _ (.same hm tx q)
  · exact k _ _ (.new hm hp (.tup (SqT.of (Step.new_at hm hp)) ((r1.append r2).mono (Step.new hm hp).ex)) q)
theorem cv_addU : Cv2 K (rAddU K) oAddU := fun H m dx dy x y Q Q' hm rx ry h k => by
  unfold oAddU at h
  split at h
  · rename_i i j e1 e2
    exact .inl ⟨i, j, repI rx hm e1, repI ry hm e2, k _ _ (.same hm (.int _) h)⟩
  · rename_i i j e1 e2
    exact .inr (.inl ⟨i, j, repS rx hm e1, repS ry hm e2, h.1, k _ _ (.same hm (.str _) h.2)⟩)
  · rename_i i j e1 e2
    exact .inr (.inr (.inl (cv_cat H m dx dy x y Q Q' hm rx ry ⟨i, j, e1, e2, h.1, h.2⟩ k)))
  · rename_i i j e1 e2
    exact .inr (.inr (.inr (cv_catA hm rx ry e1 e2 h.1 h.2 k)))
  · exact h.elim
theorem op_addU : OpR X (binaryOp .Add) (rAddU X.K) := op_add.or (op_add_str.or (op_cat.or op_catA))
theorem addU (ha : PE2 X ω a ta) (hb : PE2 X ω b tb) : PE2 X ω (.BinOp a .Add b pos) (tOp2 oAddU ta tb) := q_op op_addU cv_addU ha hb
theorem iop_addU : OpR X (inplaceOp .Add) (fun x y H Q => rI0 (fun i j => .int (i + j)) x y H Q ∨ (∃ i j, x = .str i ∧ y = .str j ∧ i.length + j.length ≤ sizeLine ∧ Q (.str (i ++ j)) H)) := iop_add.or iop_add_str
def oIAddU : R22 := fun x y m Q => match x, y with
  | .int i, .int j => Q (.int (i + j)) m
  | .str i, .str j => i.length + j.length ≤ sizeLine ∧ Q (.str (i ++ j)) m
  | _, _ => False
theorem cv_iaddU : Cv2 K (fun x y H Q => rI0 (fun i j => .int (i + j)) x y H Q ∨ (∃ i j, x = .str i ∧ y = .str j ∧ i.length + j.length ≤ sizeLine ∧ Q (.str (i ++ j)) H)) oIAddU := fun H m dx dy x y Q Q' hm rx ry h k => by
  unfold oIAddU at h
  split at h
  · cases rx; cases ry
    exact .inl ⟨_, _, rfl, rfl, k _ _ (.same hm (.int _) h)⟩
  · cases rx; cases ry
    exact .inr ⟨_, _, rfl, rfl, h.1, k _ _ (.same hm (.str _) h.2)⟩
  · exact h.elim
/-- a text times an int -/
def rRepS : R2 := fun x y H Q => ∃ (z : Str) (n : Int), x = .str z ∧ y = .int n ∧ n ≤ 100000 ∧ -100000 ≤ n ∧ z.length ≤ 100 ∧ Q (.str ⟨(List.replicate n.toNat z.cps.toList).flatten.toArray⟩) H
theorem fold_rep (c : Array Nat) : ∀ (n : Nat) (acc : Array Nat), (List.replicate n c).foldl (· ++ ·) acc = acc ++ ((List.replicate n c.toList).flatten).toArray
  | 0, acc => by simp
  | n + 1, acc => by
    rw [List.replicate_succ, List.foldl_cons, fold_rep c n, List.replicate_succ, List.flatten_cons]
    apply Array.toList_inj.mp
    simp
theorem op_repS : OpR X (binaryOp .Mult) rRepS := by
  intro pins s σ H x y v u Q I rx ry h
  obtain ⟨z, n, rfl, rfl, h1, h2, h3, q⟩ := h
  obtain ⟨t, rfl⟩ := rx
  obtain ⟨t', rfl⟩ := ry
  have fin : ∀ (w : Value) (k : Nat), RelV (.str ⟨(List.replicate n.toNat z.cps.toList).flatten.toArray⟩) w → EP X pins σ Q w { s with toks := k } := fun w k r => ⟨_, H, I.tok _, r, q⟩
  have hs : sizeLine = 16777216 := sizeLine_eq
  have hmul : z.length * n.toNat ≤ 100 * 100000 := Nat.mul_le_mul h3 (by omega)
  refine PySem.P.mul_str ?_ ?_ ?_ ?_
  · rw [decide_eq_false (by omega), decide_eq_false (by omega)] <;> rfl
  · intro h4 h5 h6
    have e1 : (1 : Int) ≤ n := by omega
    have e2 : ((2 : Int) ^ 63 - 1) / n ≥ (2 ^ 63 - 1) / 100000 := by
      have e3 : (2 ^ 63 - 1 : Int) / 100000 * n ≤ 2 ^ 63 - 1 := by
        have : (2 ^ 63 - 1 : Int) / 100000 * n ≤ (2 ^ 63 - 1 : Int) / 100000 * 100000 := Int.mul_le_mul_of_nonneg_left h1 (by decide)
        omega
      exact (Int.le_ediv_iff_mul_le (by omega)).mpr e3
    omega
  · intro h4 h5
    unfold Builtin.Str.tooLong
    first
      | exact decide_eq_false (by omega)
      | (rw [hs]; exact decide_eq_false (by omega))
      | (simp; omega)
  · by_cases hn : n < 1
    · rw [if_pos hn]
      refine ⟨by decide, fin _ (s.toks + 1) ⟨s.toks, ?_⟩⟩
      have e0 : n.toNat = 0 := by omega
      rw [e0] <;> rfl
    · rw [if_neg hn]
      by_cases hb : (n == 1 || z.length == 0) = true
      · rw [if_pos hb]
        refine fin _ s.toks ⟨t, ?_⟩
        have ez : (⟨(List.replicate n.toNat z.cps.toList).flatten.toArray⟩ : Str) = z := by
          rw [Bool.or_eq_true] at hb
          rcases hb with hb | hb
          · have e1 : n = 1 := by simpa using hb
            subst e1
            apply Str.ext'
            simp
          · have e1 : z.cps.toList = [] := by
              have : z.cps.size = 0 := by
                have := (beq_iff_eq.mp hb)
                exact this
              exact List.eq_nil_of_length_eq_zero (by simpa using this)
            apply Str.ext'
            rw [e1]
            have : (List.replicate n.toNat ([] : List Nat)).flatten = [] := by simp
            rw [this]
            apply Array.toList_inj.mp
            rw [e1]
        rw [ez]
      · rw [if_neg hb]
        rw [fold_rep, Array.empty_append]
        refine ⟨?_, fin _ _ ⟨_, rfl⟩⟩
        have : ((List.replicate n.toNat z.cps.toList).flatten.toArray).size ≤ 10000000 := by
          rw [List.size_toArray, PyProof.Rows.lm_len_rep_flat, Array.length_toList, Nat.mul_comm]
          exact hmul
        first
          | exact this.trans (by decide)
          | (show ((List.replicate n.toNat z.cps.toList).flatten.toArray).size ≤ sizeLine; omega)
          | omega
end
end Z

/-! Z6: one rule for each form of the text, further. -/
namespace Z
open PySem PySem.Spec PyProof.Rows L2
section
variable {X : Cx} {ω : Bx} {a b c : Expr} {ta tb : TE2} {pos : Pos} {K : PySem.W.Frag}
/-! ### times -/
theorem tuple_one (l : Addr) (xs : Array Value) (n : Nat) (dd : Option Addr) (sl : Array (Option Value)) (u : Tok) :
    Meets (Builtin.«tuple.__mul__» ⟨[.ref l, .int 1 u], []⟩) (fun _ R s => s.heap.get? l = some { cls := .type "tuple", dict := dd, data := .seq xs n, slots := sl } ∧ R (.ok (.ret (Value.ref l))) s) :=
  .of_wp fun prog w A R s h => by
    obtain ⟨hp, g, d, tk, os⟩ := s
    obtain ⟨hl, h⟩ := h
    have f1 := AutoSeq1.idx_int
    have c1 : (xs.isEmpty || (1 : Int) == 1) = true := by rw [Bool.or_eq_true]; exact .inr rfl
    wp_walk using wpAny_loadPart' hl
    exact ⟨_, rfl, h⟩
def rRep1 (K : PySem.W.Frag) : R2 := fun x y H Q => ∃ l xs, x = .ref l ∧ y = .int 1 ∧ SqT K H l xs ∧ Q (.ref l) H
theorem op_rep1 : OpR X (binaryOp .Mult) (rRep1 X.K) := by
  intro pins s σ H x y v u Q I rx ry h
  obtain ⟨l, xs, rfl, rfl, hT, q⟩ := h
  cases rx
  obtain ⟨t, rfl⟩ := ry
  obtain ⟨its, r, ⟨⟨cls, dd, data, sl⟩, ho, hc, n, hd⟩, hs⟩ := I.tuple hT
  simp only at hc hd
  subst hc hd
  refine wpAny_binaryOp_repeat_ref (T := "tuple") (U := "int") (by decide) ⟨_, ho, rfl⟩ (fun s' => typeIs_int s' 1 t) noFill_tuple_mul F.fills_int_mul F.slot_int_rmul repeat_tuple F.slot_int_index.lookup
    (call_meets F.slot_int_rmul (typeIs_int s 1 t) F.entry_int_rmul (F.args_int_rmul_2 _ _) (int_rmul_tuple 1 t l its.toArray n dd sl)
      ⟨ho, rfl, ⟨_, ho, rfl⟩, call_meets F.slot_tuple_mul ⟨_, ho, rfl⟩ F.entry_tuple_mul (F.args_tuple_mul_2 _ _) (tuple_one l its.toArray n dd sl t) ⟨ho, ?_⟩⟩)
  exact ⟨.ref l, H, I.tok _, rfl, q⟩
@[irreducible] def oMulU : R22 := fun x y m Q => Box <| match res m x, y with
  | .int i, .int j => COk i j ∧ Q (.int (i * j)) m
  | .str z, .int n => (n ≤ 100000 ∧ -100000 ≤ n ∧ z.length ≤ 100) ∧ Q (.str ⟨(List.replicate n.toNat z.cps.toList).flatten.toArray⟩) m
  | .lst xs, .int k => (-(2 ^ 63) ≤ k ∧ k < 2 ^ 63 ∧ xs.length * k.toNat ≤ sizeLine) ∧ Q (.lst (List.replicate k.toNat xs).flatten) m
  | .tup xs, .int k => (xs ≠ [] ∧ 1 ≤ k ∧ k ≤ 1000 ∧ xs.length ≤ 1000) ∧ Q (.tup (List.replicate k.toNat xs).flatten) m
  | _, _ => False
def rMulU (K : PySem.W.Frag) : R2 := fun x y H Q => rI COk (fun i j => .int (i * j)) x y H Q ∨ rRepS x y H Q ∨ rRep x y H Q ∨ rRepT K x y H Q ∨ rRep1 K x y H Q
theorem cv_mulU : Cv2 K (rMulU K) oMulU := fun H m dx dy x y Q Q' hm rx ry h k => by
  unfold oMulU at h; replace h := h.out
  split at h
  · rename_i i j e1
    cases ry
    exact .inl ⟨i, j, repI rx hm e1, rfl, h.1, k _ _ (.same hm (.int _) h.2)⟩
  · rename_i i j e1
    cases ry
    exact .inr (.inl ⟨i, j, repS rx hm e1, rfl, h.1.1, h.1.2.1, h.1.2.2, k _ _ (.same hm (.str _) h.2)⟩)
  · rename_i i j e1
    exact .inr (.inr (.inl (cv_rep H m dx _ x y Q Q' hm rx ry ⟨i, j, e1, rfl, h.1.1, h.1.2.1, h.1.2.2, h.2⟩ k)))
  · rename_i i j e1
    cases ry
    by_cases hj : j = 1
    · subst hj
      have rt := repT rx e1
      obtain ⟨a1, v1, rfl, h1, r1⟩ := tupOf rx e1
      refine .inr (.inr (.inr (.inr ⟨a1, v1, rfl, rfl, h1, k _ _ (.same hm rt ?_)⟩)))
      have := h.2
      simpa using this
    obtain ⟨a1, v1, rfl, h1, r1⟩ := tupOf rx e1
    refine .inr (.inr (.inr (.inl ⟨a1, j, v1, rfl, rfl, h1, fun z => ?_, by have := h.1.2.1; omega, h.1.2.2.1, by rw [r1.length]; exact h.1.2.2.2, fun p hp => k _ _ (.new hm hp (.tup (SqT.of (Step.new_at hm hp)) ((r1.flat _).mono (Step.new hm hp).ex)) h.2)⟩)))
    subst z
    cases r1
    exact h.1.1 rfl
  · exact h.elim
theorem op_mulU : OpR X (binaryOp .Mult) (rMulU X.K) := op_mulA.or (op_repS.or (op_rep.or (op_repT.or op_rep1)))
theorem mulU (ha : PE2 X ω a ta) (hb : PE2 X ω b tb) : PE2 X ω (.BinOp a .Mult b pos) (tOp2 oMulU ta tb) := q_op op_mulU cv_mulU ha hb
/-! ### ints alone -/
@[irreducible] def oI (C : Int → Int → Prop) (g : Int → Int → D) : R22 := fun x y m Q => Box <| match x, y with
  | .int i, .int j => C i j ∧ Q (g i j) m
  | _, _ => False
theorem cv_oI {C : Int → Int → Prop} {f : Int → Int → Int} : Cv2 K (rI C fun i j => .int (f i j)) (oI C fun i j => .int (f i j)) := fun H m dx dy x y Q Q' hm rx ry h k => by
  unfold oI at h; replace h := h.out
  split at h
  · cases rx; cases ry
    exact ⟨_, _, rfl, rfl, h.1, k _ _ (.same hm (.int _) h.2)⟩
  · exact h.elim
abbrev oDivU : R22 := oI CDivW fun i j => .int (i / j)
abbrev oModU : R22 := oI (fun _ j => 0 < j) fun i j => .int (i % j)
abbrev oPowU : R22 := oI CPow fun i j => .int (i ^ j.toNat)
def oSubU : R22 := fun x y m Q => match x, y with
  | .int i, .int j => Q (.int (i - j)) m
  | _, _ => False
theorem cv_subU : Cv2 K (rI0 fun i j => .int (i - j)) oSubU := fun H m dx dy x y Q Q' hm rx ry h k => by
  unfold oSubU at h
  split at h
  · cases rx; cases ry
    exact ⟨_, _, rfl, rfl, k _ _ (.same hm (.int _) h)⟩
  · exact h.elim
theorem divU (ha : PE2 X ω a ta) (hb : PE2 X ω b tb) : PE2 X ω (.BinOp a .FloorDiv b pos) (tOp2 oDivU ta tb) := q_op op_fdivW cv_oI ha hb
theorem modU (ha : PE2 X ω a ta) (hb : PE2 X ω b tb) : PE2 X ω (.BinOp a .Mod b pos) (tOp2 oModU ta tb) := q_op op_mod cv_oI ha hb
theorem powU (ha : PE2 X ω a ta) (hb : PE2 X ω b tb) : PE2 X ω (.BinOp a .Pow b pos) (tOp2 oPowU ta tb) := q_op op_pow cv_oI ha hb
theorem subU (ha : PE2 X ω a ta) (hb : PE2 X ω b tb) : PE2 X ω (.BinOp a .Sub b pos) (tOp2 oSubU ta tb) := q_op op_sub cv_subU ha hb
def uNeg : D → M → Kd → Prop := fun x m Q => match x with
  | .int i => Q (.int (-i)) m
  | _ => False
theorem negU (ha : PE2 X ω a ta) : PE2 X ω (.UnaryOp .USub a pos) (tUn2 uNeg ta) :=
  (pe_un un_neg pe_sem).to2 fun σ H g m Q S hm q => (ha.sem S hm q).mono fun v H1 ⟨d, m1, s1, r1, q1⟩ => by
    unfold uNeg at q1
    dsimp only at q1
    split at q1
    · cases r1
      exact ⟨_, rfl, P2.go s1 (.same s1.mem (.int _) q1)⟩
    · exact q1.elim
/-! ### order: ints, texts -/
def oCmp (f : Int → Int → Bool) (h : List Nat → List Nat → Bool) : R22 := fun x y m Q => match x, y with
  | .int i, .int j => Q (.bl (f i j)) m
  | .str i, .str j => Q (.bl (h i.cps.toList j.cps.toList)) m
  | _, _ => False
def rCmp (f : Int → Int → Bool) (h : List Nat → List Nat → Bool) : R2 := fun x y H Q => rI0 (fun i j => .bl (f i j)) x y H Q ∨ ∃ i j, x = .str i ∧ y = .str j ∧ Q (.bl (h i.cps.toList j.cps.toList)) H
theorem cv_cmp {f : Int → Int → Bool} {h : List Nat → List Nat → Bool} : Cv2 K (rCmp f h) (oCmp f h) := fun H m dx dy x y Q Q' hm rx ry q k => by
  unfold oCmp at q
  split at q
  · cases rx; cases ry
    exact .inl ⟨_, _, rfl, rfl, k _ _ (.same hm (.bl _) q)⟩
  · cases rx; cases ry
    exact .inr ⟨_, _, rfl, rfl, k _ _ (.same hm (.bl _) q)⟩
  · exact q.elim
abbrev ltN (i j : List Nat) : Bool := decide (i < j)
abbrev oLtU : R22 := oCmp (fun i j => decide (i < j)) fun i j => decide (i < j)
abbrev oLeU : R22 := oCmp (fun i j => decide (i ≤ j)) fun i j => !decide (j < i)
abbrev oGtU : R22 := oCmp (fun i j => decide (j < i)) fun i j => decide (j < i)
abbrev oGeU : R22 := oCmp (fun i j => decide (j ≤ i)) fun i j => !decide (i < j)
theorem op_ltU : OpR X (compareOp .Lt) (rCmp (fun i j => decide (i < j)) fun i j => decide (i < j)) := op_lt.or op_lt_str
theorem op_leU : OpR X (compareOp .LtE) (rCmp (fun i j => decide (i ≤ j)) fun i j => !decide (j < i)) := op_le.or op_le_str
theorem op_gtU : OpR X (compareOp .Gt) (rCmp (fun i j => decide (j < i)) fun i j => decide (j < i)) := op_gt.or op_gt_str
theorem op_geU : OpR X (compareOp .GtE) (rCmp (fun i j => decide (j ≤ i)) fun i j => !decide (i < j)) := op_ge.or op_ge_str
theorem ltU (ha : PE2 X ω a ta) (hb : PE2 X ω b tb) : PE2 X ω (.Compare a [.Lt] [b] pos) (tOp2 oLtU ta tb) := q_cmp op_ltU cv_cmp ha hb (nomark _)
theorem leU (ha : PE2 X ω a ta) (hb : PE2 X ω b tb) : PE2 X ω (.Compare a [.LtE] [b] pos) (tOp2 oLeU ta tb) := q_cmp op_leU cv_cmp ha hb (nomark _)
theorem gtU (ha : PE2 X ω a ta) (hb : PE2 X ω b tb) : PE2 X ω (.Compare a [.Gt] [b] pos) (tOp2 oGtU ta tb) := q_cmp op_gtU cv_cmp ha hb (nomark _)
theorem geU (ha : PE2 X ω a ta) (hb : PE2 X ω b tb) : PE2 X ω (.Compare a [.GtE] [b] pos) (tOp2 oGeU ta tb) := q_cmp op_geU cv_cmp ha hb (nomark _)
/-- a value that is a bool, as a test -/
def tTU (t : TE2) : TT2 := fun g m Q => t g m fun x m1 => match x with | .bl k => Q k m1 | _ => False
theorem tT_of {t : TE2} (mono : ∀ g m Q Q', (∀ a b, Q a b → Q' a b) → t g m Q → t g m Q') {g : Sl} {m : M} {Q : Bool → M → Prop} (h : tTU t g m Q) : tT2 t g m Q := mono _ _ _ _ (fun x m1 h => by
  split at h
  · exact ⟨_, rfl, h⟩
  · exact h.elim) h
theorem testC {op : CmpOp} {r : R2} {r2 : R22} (ho : OpR X (compareOp op) r) (hc : Cv2 X.K r r2) (ha : PE2 X ω a ta) (hb : PE2 X ω b tb) (hm : behindInMarks op b = false) : PT2 X ω (.Compare a [op] [b] pos) (tTU (tOp2 r2 ta tb)) :=
  (pt_cmpR ho pe_sem pe_sem hm).to2 fun σ H g m Q S hm q =>
    (ha.sem S hm q).mono fun x H1 ⟨dx, m1, s1, r1, q1⟩ => (hb.sem (S.mono s1.ex) s1.mem q1).mono fun y H2 ⟨dy, m2, s2, r2', q2⟩ =>
      hc H2 m2 dx dy x y _ _ s2.mem (r1.mono s2.ex) r2' q2 fun v H' ⟨d, m', s', rv, q'⟩ => by
        dsimp only at q'
        split at q'
        · cases rv
          exact ⟨_, rfl, m', (s1.trans s2).trans s', q'⟩
        · exact q'.elim
theorem testV {e : Expr} {t : TE2} (h : PE2 X ω e t) (he : ∀ whole, isTrue e X.env whole = (do let v ← whole; standAt e.pos; holding [v] (truthy v)) := by intro _; rfl) : PT2 X ω e (tTU t) :=
  (pt_val pe_sem he).to2 fun σ H g m Q S hm q => (h.sem S hm q).mono fun v H1 ⟨d, m1, s1, r1, q1⟩ => by
    dsimp only at q1
    split at q1
    · cases r1
      exact ⟨_, rfl, m1, s1, q1⟩
    · exact q1.elim
theorem tltU (ha : PE2 X ω a ta) (hb : PE2 X ω b tb) : PT2 X ω (.Compare a [.Lt] [b] pos) (tTU (tOp2 oLtU ta tb)) := testC op_ltU cv_cmp ha hb (nomark _)
theorem tleU (ha : PE2 X ω a ta) (hb : PE2 X ω b tb) : PT2 X ω (.Compare a [.LtE] [b] pos) (tTU (tOp2 oLeU ta tb)) := testC op_leU cv_cmp ha hb (nomark _)
theorem tgtU (ha : PE2 X ω a ta) (hb : PE2 X ω b tb) : PT2 X ω (.Compare a [.Gt] [b] pos) (tTU (tOp2 oGtU ta tb)) := testC op_gtU cv_cmp ha hb (nomark _)
theorem tgeU (ha : PE2 X ω a ta) (hb : PE2 X ω b tb) : PT2 X ω (.Compare a [.GtE] [b] pos) (tTU (tOp2 oGeU ta tb)) := testC op_geU cv_cmp ha hb (nomark _)
theorem teqU {k : Nat} (hr : Room k X.A) (ha : PE2 X ω a ta) (hb : PE2 X ω b tb) : PT2 X ω (.Compare a [.Eq] [b] pos) (tTU (tOp2 oEq ta tb)) := testC (op_eqD hr.units) cv_eq ha hb (nomark _)
theorem tneU {k : Nat} (hr : Room k X.A) (ha : PE2 X ω a ta) (hb : PE2 X ω b tb) : PT2 X ω (.Compare a [.NotEq] [b] pos) (tTU (tOp2 oNe ta tb)) := testC (op_neD hr.units) cv_ne ha hb (nomark _)
/-! ### is: None, truths -/
def oIsU : R22 := fun x y m Q => match y with
  | .non => Q (.bl (isNon x)) m
  | .bl j => match x with | .bl i => Q (.bl (decide (i = j))) m | _ => False
  | _ => False
def oIsNotU : R22 := fun x y m Q => match y with
  | .non => Q (.bl (!isNon x)) m
  | .bl j => match x with | .bl i => Q (.bl (!decide (i = j))) m | _ => False
  | _ => False
theorem cv_isU : Cv2 K (fun x y H Q => (y = .non ∧ Q (.bl (decide (x = .non))) H) ∨ rIsB x y H Q) oIsU := fun H m dx dy x y Q Q' hm rx ry h k => by
  unfold oIsU at h
  split at h
  · cases ry
    exact .inl ⟨rfl, by rw [isNon_rep rx]; exact k _ _ (.same hm (.bl _) h)⟩
  · split at h
    · cases rx; cases ry
      exact .inr ⟨_, _, rfl, rfl, k _ _ (.same hm (.bl _) h)⟩
    · exact h.elim
  · exact h.elim
theorem cv_isNotU : Cv2 K (fun x y H Q => (y = .non ∧ Q (.bl (!decide (x = .non))) H) ∨ rNotB x y H Q) oIsNotU := fun H m dx dy x y Q Q' hm rx ry h k => by
  unfold oIsNotU at h
  split at h
  · cases ry
    exact .inl ⟨rfl, by rw [isNon_rep rx]; exact k _ _ (.same hm (.bl _) h)⟩
  · split at h
    · cases rx; cases ry
      exact .inr ⟨_, _, rfl, rfl, k _ _ (.same hm (.bl _) h)⟩
    · exact h.elim
  · exact h.elim
theorem isU (ha : PE2 X ω a ta) (hb : PE2 X ω b tb) : PE2 X ω (.Compare a [.Is] [b] pos) (tOp2 oIsU ta tb) := q_cmp (op_isN.or op_isBl) cv_isU ha hb (nomark _)
theorem isNotU (ha : PE2 X ω a ta) (hb : PE2 X ω b tb) : PE2 X ω (.Compare a [.IsNot] [b] pos) (tOp2 oIsNotU ta tb) := q_cmp (op_notN.or op_notBl) cv_isNotU ha hb (nomark _)
theorem tisU (ha : PE2 X ω a ta) (hb : PE2 X ω b tb) : PT2 X ω (.Compare a [.Is] [b] pos) (tTU (tOp2 oIsU ta tb)) := testC (op_isN.or op_isBl) cv_isU ha hb (nomark _)
theorem tisNotU (ha : PE2 X ω a ta) (hb : PE2 X ω b tb) : PT2 X ω (.Compare a [.IsNot] [b] pos) (tTU (tOp2 oIsNotU ta tb)) := testC (op_notN.or op_notBl) cv_isNotU ha hb (nomark _)
/-! ### in: flat things in a list or a tuple, one sign in a text -/
def flatD : D → Bool | .non => true | .bl _ => true | .int _ => true | .str _ => true | _ => false
def vOf : D → V | .non => .non | .bl b => .bl b | .int i => .int i | .str x => .str x | .ty n => .ty n | .ref a => .ref a | _ => .non
theorem flat_rep {G : Hp} {x : V} {d : D} (r : Rep K G x d) (h : flatD d = true) : x = vOf d ∧ flatV x = true := by
  cases r <;> first | exact ⟨rfl, rfl⟩ | (exact absurd h (by simp [flatD]))
theorem flat_reps {G : Hp} : ∀ {vs : List V} {ds : List D}, Reps K G vs ds → ds.all flatD = true → vs = ds.map vOf ∧ vs.all flatV = true
  | _, _, .nil, _ => ⟨rfl, rfl⟩
  | _, _, .cons r t, h => by
    rw [List.all_cons, Bool.and_eq_true] at h
    have ⟨h1, h2⟩ := flat_rep r h.1
    have ⟨h3, h4⟩ := flat_reps t h.2
    refine ⟨by rw [List.map_cons, ← h1, ← h3], by rw [List.all_cons, h2, h4]; rfl⟩
def inD (x : D) (xs : List D) : Bool := inV (vOf x) (xs.map vOf)
@[irreducible] def oInU (neg : Bool) : R22 := fun x y m Q => Box <| match res m y with
  | .str z => match x with
    | .str ⟨⟨[c]⟩⟩ => Q (.bl (if neg then !decide (c ∈ z.cps.toList) else decide (c ∈ z.cps.toList))) m
    | _ => False
  | .tup ds => (flatD x = true ∧ ds.all flatD = true) ∧ Q (.bl (if neg then !inD x ds else inD x ds)) m
  | .lst ds => (flatD x = true ∧ ds.all flatD = true) ∧ Q (.bl (if neg then !inD x ds else inD x ds)) m
  | .rol ds => (flatD x = true ∧ ds.all flatD = true) ∧ Q (.bl (if neg then !inD x ds else inD x ds)) m
  | _ => False
def rInU (K : PySem.W.Frag) (neg : Bool) : R2 := fun x y H Q => (∃ (c : Nat) (z : Str), x = .str ⟨#[c]⟩ ∧ y = .str z ∧ Q (.bl (if neg then !decide (c ∈ z.cps.toList) else decide (c ∈ z.cps.toList))) H) ∨ rIn K neg x y H Q
theorem cv_inU {neg : Bool} : Cv2 K (rInU K neg) (oInU neg) := fun H m dx dy x y Q Q' hm rx ry h k => by
  have seq : ∀ ds : List D, itsD (res m dy) = some ds → (flatD dx = true ∧ ds.all flatD = true) ∧ Q (.bl (if neg then !inD dx ds else inD dx ds)) m → rInU K neg x y H Q' := fun ds e ⟨⟨h1, h2⟩, h3⟩ => by
    obtain ⟨a, vs, rfl, h4, h5⟩ := itsOf ry hm e
    have ⟨e1, f1⟩ := flat_rep rx h1
    have ⟨e2, f2⟩ := flat_reps h5 h2
    refine .inr ⟨a, vs, rfl, h4, f1, f2, ?_⟩
    have q := k _ _ (.same hm (.bl _) h3)
    rw [e1, e2]
    exact q
  unfold oInU at h; replace h := h.out
  split at h
  · rename_i z e
    split at h
    · cases rx
      exact .inl ⟨_, z, rfl, repS ry hm e, k _ _ (.same hm (.bl _) h)⟩
    · exact h.elim
  · rename_i ds e
    exact seq ds (by rw [e] <;> rfl) h
  · rename_i ds e
    exact seq ds (by rw [e] <;> rfl) h
  · rename_i ds e
    exact seq ds (by rw [e] <;> rfl) h
  · exact h.elim
theorem op_inU : OpR X (compareOp .In) (rInU X.K false) := OpR.or (fun pins s σ H x y v u Q I rx ry h => op_in_sign pins s σ H x y v u Q I rx ry h) op_in_seq
theorem op_notInU : OpR X (compareOp .NotIn) (rInU X.K true) := OpR.or (fun pins s σ H x y v u Q I rx ry h => op_notIn_sign pins s σ H x y v u Q I rx ry h) op_notIn_seq
theorem inU (ha : PE2 X ω a ta) (hb : PE2 X ω b tb) (hm : behindInMarks .In b = false) : PE2 X ω (.Compare a [.In] [b] pos) (tOp2 (oInU false) ta tb) := q_cmp op_inU cv_inU ha hb hm
theorem notInU (ha : PE2 X ω a ta) (hb : PE2 X ω b tb) (hm : behindInMarks .NotIn b = false) : PE2 X ω (.Compare a [.NotIn] [b] pos) (tOp2 (oInU true) ta tb) := q_cmp op_notInU cv_inU ha hb hm
theorem tinU (ha : PE2 X ω a ta) (hb : PE2 X ω b tb) (hm : behindInMarks .In b = false) : PT2 X ω (.Compare a [.In] [b] pos) (tTU (tOp2 (oInU false) ta tb)) := testC op_inU cv_inU ha hb hm
theorem tnotInU (ha : PE2 X ω a ta) (hb : PE2 X ω b tb) (hm : behindInMarks .NotIn b = false) : PT2 X ω (.Compare a [.NotIn] [b] pos) (tTU (tOp2 (oInU true) ta tb)) := testC op_notInU cv_inU ha hb hm

/-! ### items -/
def ixD : D → Option (List D) := itsD
@[irreducible] def oIxU : R22 := fun x y m Q => Box <| match res m x, y with
  | .tup ds, .int i => ∃ d, atI ds i = some d ∧ Q d m
  | .lst ds, .int i => ∃ d, atI ds i = some d ∧ Q d m
  | .rol ds, .int i => ∃ d, atI ds i = some d ∧ Q d m
  | .str z, .int i => ∃ c, z.length ≤ sizeLine ∧ atI z.cps.toList i = some c ∧ Q (.str ⟨#[c]⟩) m
  | _, _ => False
theorem cv_ixU : Cv2 K (rIx K) oIxU := fun H m dx dy x y Q Q' hm rx ry h k => by
  unfold oIxU at h; replace h := h.out
  split at h
  · rename_i ds i e
    obtain ⟨d, h1, h2⟩ := h
    exact .inr (.inl (cv_ixT H m dx _ x y Q Q' hm rx ry ⟨ds, i, d, e, rfl, h1, h2⟩ k))
  · rename_i ds i e
    obtain ⟨d, h1, h2⟩ := h
    exact .inl (cv_ixL H m dx _ x y Q Q' hm rx ry ⟨ds, i, d, by rw [e] <;> rfl, rfl, h1, h2⟩ k)
  · rename_i ds i e
    obtain ⟨d, h1, h2⟩ := h
    exact .inl (cv_ixL H m dx _ x y Q Q' hm rx ry ⟨ds, i, d, by rw [e] <;> rfl, rfl, h1, h2⟩ k)
  · rename_i z i e
    obtain ⟨c, h1, h2, h3⟩ := h
    cases ry
    exact .inr (.inr ⟨z, i, c, repS rx hm e, rfl, h1, h2, k _ _ (.same hm (.str _) h3)⟩)
  · exact h.elim
theorem ixU (ha : PE2 X ω a ta) (hb : PE2 X ω b tb) (hs : PlainIx b) : PE2 X ω (.Subscript a b pos) (tOp2 oIxU ta tb) := q_ix ix_seq cv_ixU ha hb hs
theorem tixU (ha : PE2 X ω a ta) (hb : PE2 X ω b tb) (hs : PlainIx b) : PT2 X ω (.Subscript a b pos) (tTU (tOp2 oIxU ta tb)) := testV (ixU ha hb hs)
/-! ### slices -/
@[irreducible] def sU : D → Option Int → Option Int → M → Kd → Prop := fun x lo hi m Q => Box <| match res m x with
  | .lst xs => Q (.lst (cutD xs lo hi)) m
  | .rol xs => Q (.lst (cutD xs lo hi)) m
  | .tup xs => Q (.tup (cutD xs lo hi)) m
  | .str z => z.length ≤ sizeLine ∧ Q (.str (cutS z lo hi)) m
  | _ => False
theorem cs_U : CvS K (fun x lo hi H Q => rSlL K x lo hi H Q ∨ rSlA K x lo hi H Q ∨ rSlS x lo hi H Q) sU := fun H m d v lo hi Q Q' hm r h k => by
  unfold sU at h; replace h := h.out
  split at h
  · rename_i xs e
    exact .inl (cs_lst H m d v lo hi Q Q' hm r ⟨xs, by rw [e] <;> rfl, h⟩ k)
  · rename_i xs e
    exact .inl (cs_lst H m d v lo hi Q Q' hm r ⟨xs, by rw [e] <;> rfl, h⟩ k)
  · rename_i xs e
    have tr := repT r e
    obtain ⟨a1, v1, rfl, h1, r1⟩ := tupOf r e
    refine .inr (.inl ⟨a1, v1, rfl, h1, fun ⟨h2, h3⟩ => ?_, fun _ p hp => k _ _ (.new hm hp (.tup (SqT.of (Step.new_at hm hp)) ((r1.cut lo hi).mono (Step.new hm hp).ex)) h)⟩)
    rw [r1.length] at h2 h3
    have ec : cutD xs lo hi = xs := by
      unfold cutD
      rw [h2, h3, List.drop_zero, Nat.sub_zero, List.take_length]
    rw [ec] at h
    exact k _ _ (.same hm tr h)
  · rename_i z e
    exact .inr (.inr ⟨z, repS r hm e, h.1, k _ _ (.same hm (.str _) h.2)⟩)
  · exact h.elim
theorem slU {e : Expr} {lo hi : Option Expr} {p2 pos : Pos} {te : TE2} {tl th : TO2} (he : PE2 X ω e te) (hl : PO2 X ω lo tl) (hh : PO2 X ω hi th) : PE2 X ω (.Subscript e (.Slice lo hi none p2) pos) (tSl2 sU te tl th) :=
  q_slice (SlR.or sl_list (SlR.or sl_tupA sl_str)) cs_U he hl hh
def tPartU (t : TE2) : TO2 := fun g m Q => t g m fun x m1 => match x with | .int i => Q (some i) m1 | _ => False
theorem poU {e : Expr} {te : TE2} (h : PE2 X ω e te) : PO2 X ω (some e) (tPartU te) := ⟨_, po_some pe_sem, fun S hm q k => (h.sem S hm q).mono fun v H1 ⟨d, m1, s1, r1, q1⟩ => by
  dsimp only at q1
  split at q1
  · cases r1
    exact ⟨_, rfl, k _ _ _ s1 q1⟩
  · exact q1.elim⟩
end

/-! ### and, or, not, if by br -/
section
variable {X : Cx} {ω : Bx} {a b c : Expr} {rest : List Expr} {t u : TT2} {ta tb : TE2} {pos : Pos}
def tAndU (t u : TT2) : TT2 := fun g m Q => t g m fun c m1 => br c (u g m1 Q) (Q false m1)
def tOrU (t u : TT2) : TT2 := fun g m Q => t g m fun c m1 => br c (Q true m1) (u g m1 Q)
theorem PW2.imp {e : Expr} {t u : TT2} (h : PW2 X ω e t) (k : ∀ g m Q, u g m Q → t g m Q) : PW2 X ω e u := ⟨fun S hm q => h.sem S hm (k _ _ _ q)⟩
theorem andW (ha : PT2 X ω a t) (hb : PW2 X ω (.BoolOp .And (b :: rest) pos) u) : PW2 X ω (.BoolOp .And (a :: b :: rest) pos) (tAndU t u) :=
  (pw_and pt_sem pw_sem).to2 fun σ H g m Q S hm q => (ha.sem S hm q).mono fun k H1 ⟨m1, s1, q1⟩ => by
    cases k with
    | true => have q1 := br_t q1; refine iteT ?_; exact semW.mono (hb.sem (S.mono s1.ex) s1.mem q1) fun _ _ h => P2T.go s1 h
    | false => have q1 := br_f q1; refine iteF ?_; exact ⟨m1, s1, q1⟩
theorem orW (ha : PT2 X ω a t) (hb : PW2 X ω (.BoolOp .Or (b :: rest) pos) u) : PW2 X ω (.BoolOp .Or (a :: b :: rest) pos) (tOrU t u) :=
  (pw_or pt_sem pw_sem).to2 fun σ H g m Q S hm q => (ha.sem S hm q).mono fun k H1 ⟨m1, s1, q1⟩ => by
    cases k with
    | false => have q1 := br_f q1; refine iteF ?_; exact semW.mono (hb.sem (S.mono s1.ex) s1.mem q1) fun _ _ h => P2T.go s1 h
    | true => have q1 := br_t q1; refine iteT ?_; exact ⟨m1, s1, q1⟩
def tAndVU (ta tb : TE2) : TE2 := fun g m Q => ta g m fun x m1 => match x with | .bl c => br c (tb g m1 Q) (Q (.bl false) m1) | _ => False
def tOrVU (ta tb : TE2) : TE2 := fun g m Q => ta g m fun x m1 => match x with | .bl c => br c (Q (.bl true) m1) (tb g m1 Q) | _ => False
def tNotVU (ta : TE2) : TE2 := fun g m Q => ta g m fun x m1 => match x with | .bl c => Q (.bl (!c)) m1 | _ => False
theorem andV (ha : PE2 X ω a ta) (hb : PE2 X ω (.BoolOp .And (b :: rest) pos) tb) : PE2 X ω (.BoolOp .And (a :: b :: rest) pos) (tAndVU ta tb) :=
  (pe_and pe_sem pe_sem).to2 fun σ H g m Q S hm q => (ha.sem S hm q).mono fun x H1 ⟨d, m1, s1, r1, q1⟩ => by
    dsimp only at q1
    split at q1
    · rename_i c
      cases r1
      refine ⟨c, rfl, ?_⟩
      cases c with
      | true => have q1 := br_t q1; refine iteT ?_; exact (hb.sem (S.mono s1.ex) s1.mem q1).mono fun _ _ h => P2.go s1 h
      | false => have q1 := br_f q1; refine iteF ?_; exact P2.go s1 (.same s1.mem (.bl _) q1)
    · exact q1.elim
theorem orV (ha : PE2 X ω a ta) (hb : PE2 X ω (.BoolOp .Or (b :: rest) pos) tb) : PE2 X ω (.BoolOp .Or (a :: b :: rest) pos) (tOrVU ta tb) :=
  (pe_or pe_sem pe_sem).to2 fun σ H g m Q S hm q => (ha.sem S hm q).mono fun x H1 ⟨d, m1, s1, r1, q1⟩ => by
    dsimp only at q1
    split at q1
    · rename_i c
      cases r1
      refine ⟨c, rfl, ?_⟩
      cases c with
      | false => have q1 := br_f q1; refine iteF ?_; exact (hb.sem (S.mono s1.ex) s1.mem q1).mono fun _ _ h => P2.go s1 h
      | true => have q1 := br_t q1; refine iteT ?_; exact P2.go s1 (.same s1.mem (.bl _) q1)
    · exact q1.elim
theorem notV (ha : PE2 X ω a ta) : PE2 X ω (.UnaryOp .Not a pos) (tNotVU ta) :=
  (pe_not pe_sem).to2 fun σ H g m Q S hm q => (ha.sem S hm q).mono fun x H1 ⟨d, m1, s1, r1, q1⟩ => by
    dsimp only at q1
    split at q1
    · cases r1
      exact ⟨_, rfl, P2.go s1 (.same s1.mem (.bl _) q1)⟩
    · exact q1.elim
def tIfU (t : TT2) (ta tb : TE2) : TE2 := fun g m Q => t g m fun c m1 => br c (ta g m1 Q) (tb g m1 Q)
theorem ifE (hc : PT2 X ω c t) (ha : PE2 X ω a ta) (hb : PE2 X ω b tb) : PE2 X ω (.IfExp c a b pos) (tIfU t ta tb) :=
  (pe_ifExp pt_sem pe_sem pe_sem).to2 fun σ H g m Q S hm q => (hc.sem S hm q).mono fun k H1 ⟨m1, s1, q1⟩ => by
    cases k with
    | true => have q1 := br_t q1; refine iteT ?_; exact (ha.sem (S.mono s1.ex) s1.mem q1).mono fun _ _ h => P2.go s1 h
    | false => have q1 := br_f q1; refine iteF ?_; exact (hb.sem (S.mono s1.ex) s1.mem q1).mono fun _ _ h => P2.go s1 h
def tIfSU (c : TT2) (t u : TS2) : TS2 := fun E g m => c g m fun b m1 => br b (t E g m1) (u E g m1)
theorem ifS {t u : TS2} {c : Expr} {a b : List Stmt} {tc : TT2} (hc : PT2 X ω c tc) (ha : PSs2 X ω a t) (hb : PSs2 X ω b u) : PS2 X ω (.If c a b pos) (tIfSU tc t u) :=
  (ps_if pt_sem pss_sem pss_sem).to2 fun σ H g m E S hm q => (hc.sem S hm q).mono fun k H1 ⟨m1, s1, q1⟩ => by
    cases k with
    | true => have q1 := br_t q1; refine iteT ?_; exact cE_go s1 (ha.sem (S.mono s1.ex) s1.mem q1)
    | false => have q1 := br_f q1; refine iteF ?_; exact cE_go s1 (hb.sem (S.mono s1.ex) s1.mem q1)
def tWhileU (c : TT2) (tb : TS2) : TS2 := fun E g m => ∃ W : Nat → Sl → M → Prop, (∃ n, W n g m) ∧ ∀ n g m, W n g m →
  c g m fun b m1 => br b (tb { E with nx := fun g' m' => ∃ n', n' < n ∧ W n' g' m', ct := fun g' m' => ∃ n', n' < n ∧ W n' g' m', bk := E.nx } g m1) (E.nx g m1)
theorem whileS {c : Expr} {body : List Stmt} {tc : TT2} {tb : TS2} (hp : PassesOwn (model X.prog X.w) X.A X.env X.xe) (hc : PT2 X ω c tc) (hb : PSs2 X ω body tb) : PS2 X ω (.While c body [] pos) (tWhileU tc tb) :=
  (ps_while hp pt_sem pss_sem).to2 fun σ H g m E S hm ⟨W, ⟨n0, w0⟩, turn⟩ => by
    refine ⟨fun n σ' H' => ∃ g' m', Step X.K m H m' H' ∧ SlotOk X.K ω g' σ' (hid m' H') ∧ W n g' m', ⟨n0, g, m, .refl hm, S, w0⟩, ?_⟩
    rintro n σ1 H1 ⟨g1, m1, s1, S1, w1⟩
    refine (hc.sem S1 s1.mem (turn n g1 m1 w1)).mono fun b H2 ⟨m2, s2, q2⟩ => ?_
    cases b with
    | true =>
      have q2 := br_t q2
      refine iteT ⟨fun σ' H' => ∃ n', n' < n ∧ ∃ g' m', Step X.K m H m' H' ∧ SlotOk X.K ω g' σ' (hid m' H') ∧ W n' g' m', fun _ _ h => h, ?_⟩
      refine semSs.mono (hb.sem (S1.mono s2.ex) s2.mem q2) ?_ (fun _ _ q => P2.go (s1.trans s2) q) (fun _ _ q => P2S.go (s1.trans s2) q) ?_
      · rintro σ3 H3 ⟨g3, m3, s3, S3, n3, l3, w3⟩
        exact ⟨n3, l3, g3, m3, (s1.trans s2).trans s3, S3, w3⟩
      · rintro σ3 H3 ⟨g3, m3, s3, S3, n3, l3, w3⟩
        exact ⟨n3, l3, g3, m3, (s1.trans s2).trans s3, S3, w3⟩
    | false =>
      have q2 := br_f q2
      exact iteF ⟨g1, m2, s1.trans s2, S1.mono s2.ex, q2⟩
end

/-! ### built-ins by what they are given -/
section
variable {K : PySem.W.Frag}
def kAbs : RC2 := fun xs m Q => match xs with | [.int i] => Q (.int (if i < 0 then -i else i)) m | _ => False
theorem kc_abs : CvC K (fun xs H Q => ∃ i, xs = [.int i] ∧ Q (.int (if i < 0 then -i else i)) H) kAbs := fun H m ds vs Q Q' hm r h k => by
  unfold kAbs at h
  split at h
  · exact cc_abs H m _ vs Q Q' hm r ⟨_, rfl, h⟩ k
  · exact h.elim
def kMax2 : RC2 := fun xs m Q => match xs with | [.int i, .int j] => Q (.int (if j > i then j else i)) m | _ => False
def kMin2 : RC2 := fun xs m Q => match xs with | [.int i, .int j] => Q (.int (if j < i then j else i)) m | _ => False
theorem kc_max2 : CvC K (fun xs H Q => ∃ i j, xs = [.int i, .int j] ∧ Q (.int (if j > i then j else i)) H) kMax2 := fun H m ds vs Q Q' hm r h k => by
  unfold kMax2 at h
  split at h
  · exact cc_max2 H m _ vs Q Q' hm r ⟨_, _, rfl, h⟩ k
  · exact h.elim
theorem kc_min2 : CvC K (fun xs H Q => ∃ i j, xs = [.int i, .int j] ∧ Q (.int (if j < i then j else i)) H) kMin2 := fun H m ds vs Q Q' hm r h k => by
  unfold kMin2 at h
  split at h
  · exact cc_min2 H m _ vs Q Q' hm r ⟨_, _, rfl, h⟩ k
  · exact h.elim
/-- int of an int, a bool, a text -/
def kInt : RC2 := fun xs m Q => match xs with
  | [.int i] => Q (.int i) m
  | [.bl k] => Q (.int (if k then 1 else 0)) m
  | [.str a] => ∃ n, PySem.intText? a = some n ∧ a.length ≤ 640 ∧ Q (.int n) m
  | _ => False
theorem kc_int : CvC K (fun xs H Q => ((∃ i, xs = [.int i] ∧ Q (.int i) H) ∨ ∃ k, xs = [.bl k] ∧ Q (.int (if k then 1 else 0)) H) ∨ ∃ a n, xs = [.str a] ∧ PySem.intText? a = some n ∧ a.length ≤ 640 ∧ Q (.int n) H) kInt := fun H m ds vs Q Q' hm r h k => by
  unfold kInt at h
  split at h
  · exact .inl (cc_int1 H m _ vs Q Q' hm r (.inl ⟨_, rfl, h⟩) k)
  · exact .inl (cc_int1 H m _ vs Q Q' hm r (.inr ⟨_, rfl, h⟩) k)
  · obtain ⟨n, h1, h2, h3⟩ := h
    cases r with | cons r1 r2 => cases r1; cases r2; exact .inr ⟨_, n, rfl, h1, h2, k _ _ (.same hm (.int _) h3)⟩
  · exact h.elim
def kStr : RC2 := fun xs m Q => match xs with | [.int i] => i.natAbs.log2 < 1920 ∧ Q (.str (toString i)) m | _ => False
theorem kc_str : CvC K (fun xs H Q => ∃ i : Int, xs = [V.int i] ∧ i.natAbs.log2 < 1920 ∧ Q (V.str (toString i)) H) kStr := fun H m ds vs Q Q' hm r h k => by
  unfold kStr at h
  split at h
  · exact cc_strI H m _ vs Q Q' hm r ⟨_, rfl, h.1, h.2⟩ k
  · exact h.elim
/-- len: of a list, a tuple, a text -/
@[irreducible] def kLen : RC2 := fun xs m Q => Box <| match xs with
  | [x] => match res m x with
    | .str z => z.length ≤ sizeLine ∧ Q (.int z.length) m
    | .tup ds => Q (.int ds.length) m
    | .lst ds => Q (.int ds.length) m
    | .rol ds => Q (.int ds.length) m
    | _ => False
  | _ => False
theorem kc_len : CvC K (fun xs H Q => ∃ x n, xs = [x] ∧ LenV K x H n ∧ Q (.int n) H) kLen := fun H m ds vs Q Q' hm r h k => by
  unfold kLen at h; replace h := h.out
  split at h
  · rename_i x
    split at h
    · rename_i z e
      exact cc_len H m _ vs Q Q' hm r ⟨x, z.length, rfl, by rw [e]; exact if_pos h.1, h.2⟩ k
    · rename_i z e
      exact cc_len H m _ vs Q Q' hm r ⟨x, _, rfl, by rw [e] <;> rfl, h⟩ k
    · rename_i z e
      exact cc_len H m _ vs Q Q' hm r ⟨x, _, rfl, by rw [e] <;> rfl, h⟩ k
    · rename_i z e
      exact cc_len H m _ vs Q Q' hm r ⟨x, _, rfl, by rw [e] <;> rfl, h⟩ k
    · exact h.elim
  · exact h.elim
@[irreducible] def kSum : RC2 := fun xs m Q => Box <| match xs with | [x] => ∃ ns : List Int, lsD (res m x) = some (ns.map D.int) ∧ Q (.int ns.sum) m | _ => False
theorem kc_sum : CvC K (rSum K) kSum := fun H m ds vs Q Q' hm r h k => by
  unfold kSum at h; replace h := h.out
  split at h
  · obtain ⟨ns, h1, h2⟩ := h
    exact cc_sum H m _ vs Q Q' hm r ⟨_, ns, rfl, h1, h2⟩ k
  · exact h.elim
@[irreducible] def kAll : RC2 := fun xs m Q => Box <| match xs with | [x] => ∃ bs : List Bool, lsD (res m x) = some (bs.map D.bl) ∧ Q (.bl (bs.all id)) m | _ => False
@[irreducible] def kAny : RC2 := fun xs m Q => Box <| match xs with | [x] => ∃ bs : List Bool, lsD (res m x) = some (bs.map D.bl) ∧ Q (.bl (bs.any id)) m | _ => False
theorem kc_all : CvC K (rAll K) kAll := fun H m ds vs Q Q' hm r h k => by
  unfold kAll at h; replace h := h.out
  split at h
  · obtain ⟨ns, h1, h2⟩ := h
    exact cc_all H m _ vs Q Q' hm r ⟨_, ns, rfl, h1, h2⟩ k
  · exact h.elim
theorem kc_any : CvC K (rAny K) kAny := fun H m ds vs Q Q' hm r h k => by
  unfold kAny at h; replace h := h.out
  split at h
  · obtain ⟨ns, h1, h2⟩ := h
    exact cc_any H m _ vs Q Q' hm r ⟨_, ns, rfl, h1, h2⟩ k
  · exact h.elim
@[irreducible] def kIts (f : List D → D) : RC2 := fun xs m Q => Box <| match xs with
  | [x] => match res m x with
    | .lst ds => Q (f ds) m
    | .rol ds => Q (f ds) m
    | .tup ds => Q (f ds) m
    | _ => False
  | _ => False
abbrev kTuple : RC2 := kIts .tup
abbrev kList : RC2 := kIts .lst
theorem kIts_of {f : List D → D} {ds : List D} {m : M} {Q : Kd} (h : kIts f ds m Q) : ∃ x es, ds = [x] ∧ itsD (res m x) = some es ∧ Q (f es) m := by
  unfold kIts at h; replace h := h.out
  split at h
  · rename_i x
    split at h
    · rename_i es e
      exact ⟨x, es, rfl, by rw [e] <;> rfl, h⟩
    · rename_i es e
      exact ⟨x, es, rfl, by rw [e] <;> rfl, h⟩
    · rename_i es e
      exact ⟨x, es, rfl, by rw [e] <;> rfl, h⟩
    · exact h.elim
  · exact h.elim
theorem kc_tuple : CvC K (fun xs H Q => ∃ p ys, xs = [.ref p] ∧ ((SqL K H p ys ∧ ∀ l, H l = none → Q (.ref l) (upd H l (.tup ys))) ∨ (SqT K H p ys ∧ Q (.ref p) H))) kTuple := fun H m ds vs Q Q' hm r h k => cc_tuple H m ds vs Q Q' hm r (kIts_of h) k
theorem kc_list : CvC K (fun xs H Q => ∃ p ys, xs = [.ref p] ∧ (SqL K H p ys ∨ SqT K H p ys) ∧ ∀ l, H l = none → Q (.ref l) (upd H l (.lst ys))) kList := fun H m ds vs Q Q' hm r h k => cc_list H m ds vs Q Q' hm r (kIts_of h) k
def Ty.of : String → Option Ty
  | "bool" => some .bl | "int" => some .int | "str" => some .str | "tuple" => some .tup | "list" => some .lst | "dict" => some .dic | _ => none
theorem Ty.of_name {s : String} {T : Ty} (h : Ty.of s = some T) : s = T.name ∧ T ≠ .non := by
  unfold Ty.of at h
  split at h <;> first | (cases h; exact ⟨rfl, by decide⟩) | cases h
def kIsi : RC2 := fun xs m Q => match xs with
  | [x, .ty s] => match Ty.of s with
    | some T => match tyD m x with
      | some t => Q (.bl (isT t T)) m
      | none => False
    | none => False
  | _ => False
theorem kc_isi : CvC K (rIsi K) kIsi := fun H m ds vs Q Q' hm r h k => by
  unfold kIsi at h
  split at h
  · split at h
    · rename_i T e
      split at h
      · rename_i t e2
        have ⟨e3, h3⟩ := Ty.of_name e
        subst e3
        exact cc_isi H m _ vs Q Q' hm r ⟨_, T, t, rfl, h3, e2, h⟩ k
      · exact h.elim
    · exact h.elim
  · exact h.elim
end
end Z

/-! Z7: defs of the text, calls, built-ins by their names. -/
namespace Z
open PySem PySem.Spec PyProof.Rows L2

/-- a def as it stands behind the top -/
structure DefAt (K : PySem.W.Frag) (mg : Str → Option Value) (x : Str) (st : Stmt) (ps : List Str) : Prop where
  ex : ∃ (f : Addr) (fd : FuncData), FunZ K x x st f fd ∧ mg x = some (.ref f) ∧ Binds K fd ps []
/-- .. and what it promises -/
structure DefOk (P : Program) (w : World) (K : PySem.W.Frag) (mg : Str → Option Value) (base : Heap) (k : Nat) (x : Str) (sp : Sp2) : Prop where
  ex : ∃ (f : Addr) (fd : FuncData) (ps : List Str), FnOk P w K mg base CX0 k f fd ps (lift K sp) ∧ mg x = some (.ref f) ∧ PySem.W.keepIn K (.ref f) = true ∧ Binds K fd ps []
section
variable {P : Program} {w : World} {K : PySem.W.Frag} {mg : Str → Option Value} {base : Heap}
/-- the slots at a def's entry -/
def st0 (n : Nat) (ds : List D) : Sl := ds.map some ++ List.replicate (n - ds.length) none
theorem def_ok {x : Str} {st : Stmt} {ps N : List Str} {k : Nat} {sp : Sp2} (A : DefAt K mg x st ps) (S : FnScope N ps (defScope st)) (len : ∀ ds m Q E, sp ds m Q E → ds.length = ps.length)
    (body : ∀ (f : Addr) (cdv : Value) (A : Around) (outer : List Env) (s : Shared) (H : Hp) (E : XK), Room k (A.deeper (envOfC x (defScope st) s.heap.objs.size f cdv)) →
      ∃ t, PSs2 (cxOf CX0 P w K mg base N x (defScope st) f cdv A outer s H E).nox Bx.no (defBody st) t ∧ ∀ ds m Q E2, sp ds m Q E2 → t { nx := fun _ m' => Q .non m', rt := Q } (st0 N.length ds) m) :
    DefOk P w K mg base (k + 1) x sp := by
  obtain ⟨f, fd, F, hm, hb⟩ := A.ex
  exact ⟨f, fd, ps, fun_ok F S len fun cdv A outer s H E hr => body f cdv A outer s H E hr, hm, F.kp, hb⟩
theorem DefOk.imp {x : Str} {k : Nat} {sp sp' : Sp2} (h : DefOk P w K mg base k x sp) (i : ∀ ds m Q E, sp' ds m Q E → sp ds m Q E) : DefOk P w K mg base k x sp' := by
  obtain ⟨f, fd, ps, F, h1, h2, h3⟩ := h.ex
  exact ⟨f, fd, ps, F.imp fun vs H Q E ⟨ds, m, Q2, E2, a, b, c, d, e⟩ => ⟨ds, m, Q2, E2, a, b, i _ _ _ _ c, d, e⟩, h1, h2, h3⟩
end
def tCallU (sp : Sp2) (t : TA2) : TE2 := fun g m Q => t g m fun ds m1 => sp ds m1 Q no2
section
variable {X : Cx} {ω : Bx} {k kk : Nat} {sp : Sp2} {x : Str} {p pos : Pos} {e e2 : Expr} {es : List Expr} {t : TA2} {te te2 : TE2}
theorem callU (D : DefOk X.prog X.w X.K X.mg X.base k x sp) (hr : Room kk X.A) (hg : Gl X x) (ha : PA2 X ω (e :: es) t) (hk : k ≤ kk := by decide) (hdb : (x == ("__debug__" : Str)) = false := by decide)
    (he : starEach (e :: es) X.env = (false, eval e X.env) :: starEach es X.env := by rfl) (hpl : (backTo pos (starEach es X.env)).any (·.1) = false := by rfl) : PE2 X ω (.Call (.Name x p) (e :: es) [] pos) (tCallU sp t) := by
  obtain ⟨f, fd, ps, F, h1, h2, h3⟩ := D.ex
  exact (q_call (dd := []) F (hr.mono hk) hg h1 h2 h3 .nil (fun _ => .nil) ha hdb he hpl).imp fun g m Q h => by
    show t g m fun ds m1 => sp (ds ++ []) m1 Q no2
    simp only [List.append_nil]
    exact h
theorem callU0 (D : DefOk X.prog X.w X.K X.mg X.base k x sp) (hr : Room kk X.A) (hg : Gl X x) (hk : k ≤ kk := by decide) (hdb : (x == ("__debug__" : Str)) = false := by decide) : PE2 X ω (.Call (.Name x p) [] [] pos) (tCallU sp tNil2) := by
  obtain ⟨f, fd, ps, F, h1, h2, h3⟩ := D.ex
  exact (q_call0 (dd := []) F (hr.mono hk) hg h1 h2 h3 .nil (fun _ => .nil) hdb).imp fun g m Q h => h
theorem bt_len : bootBuiltins "len" = some (.builtin "len") := by decide +kernel
theorem bt_abs : bootBuiltins "abs" = some (.builtin "abs") := by decide +kernel
theorem bt_max : bootBuiltins "max" = some (.builtin "max") := by decide +kernel
theorem bt_min : bootBuiltins "min" = some (.builtin "min") := by decide +kernel
theorem bt_sum : bootBuiltins "sum" = some (.builtin "sum") := by decide +kernel
theorem bt_all : bootBuiltins "all" = some (.builtin "all") := by decide +kernel
theorem bt_any : bootBuiltins "any" = some (.builtin "any") := by decide +kernel
theorem bt_isinstance : bootBuiltins "isinstance" = some (.builtin "isinstance") := by decide +kernel
theorem bt_int : bootBuiltins "int" = some (.type "int") := by decide +kernel
theorem bt_str : bootBuiltins "str" = some (.type "str") := by decide +kernel
theorem bt_bool : bootBuiltins "bool" = some (.type "bool") := by decide +kernel
theorem bt_tuple : bootBuiltins "tuple" = some (.type "tuple") := by decide +kernel
theorem bt_list : bootBuiltins "list" = some (.type "list") := by decide +kernel
theorem bt_dict : bootBuiltins "dict" = some (.type "dict") := by decide +kernel
theorem lenU (hg : Gl X "len") (hm : X.mg "len" = none) (ha : PA2 X ω (e :: es) t) (he : starEach (e :: es) X.env = (false, eval e X.env) :: starEach es X.env := by rfl) (hpl : (backTo pos (starEach es X.env)).any (·.1) = false := by rfl) : PE2 X ω (.Call (.Name "len" p) (e :: es) [] pos) (tCB2 kLen t) :=
  q_callB call_len kc_len hg hm bt_len ha (by decide) (by decide) he hpl
theorem absU (hg : Gl X "abs") (hm : X.mg "abs" = none) (ha : PA2 X ω (e :: es) t) (he : starEach (e :: es) X.env = (false, eval e X.env) :: starEach es X.env := by rfl) (hpl : (backTo pos (starEach es X.env)).any (·.1) = false := by rfl) : PE2 X ω (.Call (.Name "abs" p) (e :: es) [] pos) (tCB2 kAbs t) :=
  q_callB call_abs kc_abs hg hm bt_abs ha (by decide) (by decide) he hpl
theorem maxU (hc : X.calm = true) (hg : Gl X "max") (hm : X.mg "max" = none) (ha : PA2 X ω (e :: es) t) (he : starEach (e :: es) X.env = (false, eval e X.env) :: starEach es X.env := by rfl) (hpl : (backTo pos (starEach es X.env)).any (·.1) = false := by rfl) : PE2 X ω (.Call (.Name "max" p) (e :: es) [] pos) (tCB2 kMax2 t) :=
  q_callB (call_max2 hc) kc_max2 hg hm bt_max ha (by decide) (by decide) he hpl
theorem minU (hc : X.calm = true) (hg : Gl X "min") (hm : X.mg "min" = none) (ha : PA2 X ω (e :: es) t) (he : starEach (e :: es) X.env = (false, eval e X.env) :: starEach es X.env := by rfl) (hpl : (backTo pos (starEach es X.env)).any (·.1) = false := by rfl) : PE2 X ω (.Call (.Name "min" p) (e :: es) [] pos) (tCB2 kMin2 t) :=
  q_callB (call_min2 hc) kc_min2 hg hm bt_min ha (by decide) (by decide) he hpl
theorem sumU (hc : X.calm = true) (hg : Gl X "sum") (hm : X.mg "sum" = none) (ha : PA2 X ω (e :: es) t) (he : starEach (e :: es) X.env = (false, eval e X.env) :: starEach es X.env := by rfl) (hpl : (backTo pos (starEach es X.env)).any (·.1) = false := by rfl) : PE2 X ω (.Call (.Name "sum" p) (e :: es) [] pos) (tCB2 kSum t) :=
  q_callB (cr_sum hc) kc_sum hg hm bt_sum ha (by decide) (by decide) he hpl
theorem allU (hc : X.calm = true) (hg : Gl X "all") (hm : X.mg "all" = none) (ha : PA2 X ω (e :: es) t) (he : starEach (e :: es) X.env = (false, eval e X.env) :: starEach es X.env := by rfl) (hpl : (backTo pos (starEach es X.env)).any (·.1) = false := by rfl) : PE2 X ω (.Call (.Name "all" p) (e :: es) [] pos) (tCB2 kAll t) :=
  q_callB (cr_all hc) kc_all hg hm bt_all ha (by decide) (by decide) he hpl
theorem anyU (hc : X.calm = true) (hg : Gl X "any") (hm : X.mg "any" = none) (ha : PA2 X ω (e :: es) t) (he : starEach (e :: es) X.env = (false, eval e X.env) :: starEach es X.env := by rfl) (hpl : (backTo pos (starEach es X.env)).any (·.1) = false := by rfl) : PE2 X ω (.Call (.Name "any" p) (e :: es) [] pos) (tCB2 kAny t) :=
  q_callB (cr_any hc) kc_any hg hm bt_any ha (by decide) (by decide) he hpl
theorem isiU (hg : Gl X "isinstance") (hm : X.mg "isinstance" = none) (ha : PA2 X ω (e :: es) t) (he : starEach (e :: es) X.env = (false, eval e X.env) :: starEach es X.env := by rfl) (hpl : (backTo pos (starEach es X.env)).any (·.1) = false := by rfl) : PE2 X ω (.Call (.Name "isinstance" p) (e :: es) [] pos) (tCB2 kIsi t) :=
  q_callB call_isi kc_isi hg hm bt_isinstance ha (by decide) (by decide) he hpl
theorem intU (hg : Gl X "int") (hm : X.mg "int" = none) (ha : PA2 X ω (e :: es) t) (he : starEach (e :: es) X.env = (false, eval e X.env) :: starEach es X.env := by rfl) (hpl : (backTo pos (starEach es X.env)).any (·.1) = false := by rfl) : PE2 X ω (.Call (.Name "int" p) (e :: es) [] pos) (tCB2 kInt t) :=
  q_callTy (call_int1.or call_int_str) kc_int hg hm bt_int ha (by decide) (by decide) he hpl
theorem strU (hg : Gl X "str") (hm : X.mg "str" = none) (ha : PA2 X ω (e :: es) t) (he : starEach (e :: es) X.env = (false, eval e X.env) :: starEach es X.env := by rfl) (hpl : (backTo pos (starEach es X.env)).any (·.1) = false := by rfl) : PE2 X ω (.Call (.Name "str" p) (e :: es) [] pos) (tCB2 kStr t) :=
  q_callTy call_str_int kc_str hg hm bt_str ha (by decide) (by decide) he hpl
theorem tupleU (hg : Gl X "tuple") (hm : X.mg "tuple" = none) (ha : PA2 X ω (e :: es) t) (he : starEach (e :: es) X.env = (false, eval e X.env) :: starEach es X.env := by rfl) (hpl : (backTo pos (starEach es X.env)).any (·.1) = false := by rfl) : PE2 X ω (.Call (.Name "tuple" p) (e :: es) [] pos) (tCB2 kTuple t) :=
  q_callTy call_tuple_of kc_tuple hg hm bt_tuple ha (by decide) (by decide) he hpl
theorem listU (hg : Gl X "list") (hm : X.mg "list" = none) (ha : PA2 X ω (e :: es) t) (he : starEach (e :: es) X.env = (false, eval e X.env) :: starEach es X.env := by rfl) (hpl : (backTo pos (starEach es X.env)).any (·.1) = false := by rfl) : PE2 X ω (.Call (.Name "list" p) (e :: es) [] pos) (tCB2 kList t) :=
  q_callTy call_list_of kc_list hg hm bt_list ha (by decide) (by decide) he hpl
end
/-! ### the law's end -/
/-- what is asked of the law's def -/
def spLaw : Sp2 := fun ds m Q _ => ∃ ns : List Int, ds = [.rol (ns.map D.int)] ∧ ns.length ≤ 63 ∧ ∀ m', Q (.bl true) m'
theorem Reps.of_vints {K : PySem.W.Frag} {G : Hp} (ns : List Int) : Reps K G (ns.map V.int) (ns.map D.int) := Reps.of_ints ns
theorem only_hid {H : Hp} (h : Only H) {K : PySem.W.Frag} {a : Addr} {xs : List V} (s : SqL K H a xs) : SqL K (hid noM H) a xs := by rw [hid_no]; exact s
end Z

/-! Z8: walks over sequences, comprehensions stored, chains, the law's end. -/
namespace Z
open PySem PySem.Spec PyProof.Rows L2

/-! ### a list or a tuple walked -/
def iSeqV (K : PySem.W.Frag) (tl : TE) : TI := fun σ H R => tl σ H fun x H1 => (∃ a, x = .ref a ∧ (((∃ xs, SqL K H1 a xs) ∧ R (Itl K a) H1) ∨ ((∃ xs, SqT K H1 a xs) ∧ R (Itt K a) H1))) ∨ ∃ z, x = .str z ∧ R (Its z) H1
section
variable {X : Cx} {ω : Bx} {tg l : Expr} {pos : Pos}
theorem pi_seq {tl : TE} (hl : PE X l tl) : PI X tg l (iSeqV X.K tl) := by
  refine ⟨fun pins s σ H R I h => ?_⟩
  refine thn (hl.run pins s σ H _ I h) fun v s1 ⟨x, H1, I1, r1, q1⟩ => ?_
  rcases q1 with ⟨a, e, q⟩ | ⟨z, ez, q⟩
  case inr =>
    subst ez
    obtain ⟨tz, rfl⟩ := r1
    have there : ∀ (o : Obj), o.isFreed = false → (s1.heap.push o).get? s1.heap.objs.size = some o := fun o h => Heap.get?_push_size _ h
    cases ascii : z.cps.all (· < 128) with
    | false => exact wpAny_pyIter_wide ascii (pi_one (tk := s1.toks) I1 _ (turn_str _ z tz "str_iterator" (.inr rfl)) ⟨_, there _ rfl, rfl, rfl⟩ q)
    | true => exact wpAny_pyIter_ascii ascii (pi_one (tk := s1.toks) I1 _ (turn_str _ z tz "str_ascii_iterator" (.inl rfl)) ⟨_, there _ rfl, rfl, rfl⟩ q)
  subst e
  cases r1
  rcases q with ⟨⟨xs, hq⟩, q⟩ | ⟨⟨xs, hq⟩, q⟩
  · obtain ⟨its, rv, p, hz⟩ := I1.list hq
    refine wpAny_pyIter_list p.isList ?_
    refine ⟨s1.heap.objs.size, [s1.heap.objs.size], _, _, H1, rfl, I1.kept (t' := s1.toks) fun b o e => Heap.get?_push_of_some _ e, turn_list a _, ⟨_, Heap.get?_push_size _ rfl, rfl, rfl⟩, fun b hb => ?_, q⟩
    have e : b = s1.heap.objs.size := by simpa using hb
    subst e
    exact I1.fpOk (Nat.le_refl _) (I1.hok.fresh (Nat.le_refl _))
  · obtain ⟨its, rv, p, hz⟩ := I1.tuple hq
    refine wpAny_pyIter_tuple (show s1.heap.IsTuple a its.toArray from p) ?_
    refine ⟨s1.heap.objs.size, [s1.heap.objs.size], _, _, H1, rfl, I1.kept (t' := s1.toks) fun b o e => Heap.get?_push_of_some _ e, turn_tuple a _, ⟨_, Heap.get?_push_size _ rfl, rfl, rfl⟩, fun b hb => ?_, q⟩
    have e : b = s1.heap.objs.size := by simpa using hb
    subst e
    exact I1.fpOk (Nat.le_refl _) (I1.hok.fresh (Nat.le_refl _))
/-- a text's signs -/
def sgD (z : Str) : List D := z.cps.toList.map fun c => .str ⟨#[c]⟩
/-- the list must stand as it is at each turn; a tuple, a text does -/
@[irreducible] def seqK (R : List D → (M → Prop) → M → Prop) (d : D) (m1 : M) : Prop := Box <| match res m1 d with
  | .tup ds => R ds (fun _ => True) m1
  | .lst ds => R ds (fun m' => lsD (res m' d) = some ds) m1
  | .rol ds => R ds (fun m' => lsD (res m' d) = some ds) m1
  | .str z => R (sgD z) (fun _ => True) m1
  | _ => False
theorem seqK_str {R : List D → (M → Prop) → M → Prop} {d : D} {m1 : M} {z : Str} (e : res m1 d = .str z) (h : R (sgD z) (fun _ => True) m1) : seqK R d m1 := by unfold seqK; refine ⟨?_⟩; rw [e]; exact h
theorem seqK_tup {R : List D → (M → Prop) → M → Prop} {d : D} {m1 : M} {ds : List D} (e : res m1 d = .tup ds) (h : R ds (fun _ => True) m1) : seqK R d m1 := by unfold seqK; refine ⟨?_⟩; rw [e]; exact h
theorem seqK_lst {R : List D → (M → Prop) → M → Prop} {d : D} {m1 : M} {ds : List D} (e : lsD (res m1 d) = some ds) (h : R ds (fun m' => lsD (res m' d) = some ds) m1) : seqK R d m1 := by
  unfold seqK; refine ⟨?_⟩
  split
  · rename_i q; rw [q] at e; cases e
  · rename_i q; rw [q] at e; cases e; exact h
  · rename_i q; rw [q] at e; cases e; exact h
  · rename_i q; rw [q] at e; cases e
  · rename_i q1 q2 q3 q4
    unfold lsD at e
    split at e
    · exact absurd (by assumption) (q2 _)
    · exact absurd (by assumption) (q3 _)
    · cases e
def iSeqU (tl : TE2) : TI2 := fun g m R => tl g m fun d m1 => seqK R d m1
theorem seqU {tl : TE2} (hl : PE2 X ω l tl) : PI2 X ω tg l (iSeqU tl) :=
  (pi_seq pe_sem).to2 fun σ H g m R S hm q => (hl.sem S hm q).mono fun v H1 ⟨d, m1, s1, r1, q1⟩ => by
    have lst : ∀ ds, lsD (res m1 d) = some ds → R ds (fun m' => lsD (res m' d) = some ds) m1 → ∃ a, v = .ref a ∧ (((∃ xs, SqL X.K H1 a xs) ∧ (∃ ds keep m', Step X.K m H m' H1 ∧ Walks2 X.K (Itl X.K a) ds keep m' H1 ∧ R ds keep m')) ∨ ((∃ xs, SqT X.K H1 a xs) ∧ (∃ ds keep m', Step X.K m H m' H1 ∧ Walks2 X.K (Itt X.K a) ds keep m' H1 ∧ R ds keep m'))) := fun ds e q1 => by
      obtain ⟨a, vs, rfl, h1, h2⟩ := lstOf r1 s1.mem e
      refine ⟨a, rfl, .inl ⟨⟨vs, h1⟩, ds, _, m1, s1, ⟨fun i m' H' st hk hi => ?_, fun i m' H' st hk hi => ?_⟩, q1⟩⟩
      · obtain ⟨b, ws, e2, h3, h4⟩ := lstOf (r1.mono st.ex) st.mem hk
        cases e2
        obtain ⟨d', w, hd, hw, rw'⟩ := h4.inj_get hi
        refine ⟨⟨ws, w, h3, hw⟩, fun v H'' y => ?_⟩
        obtain ⟨rfl, hy⟩ := y
        have := hy ws h3
        rw [hw] at this; cases this
        exact ⟨d', hd, .refl st.mem, rw'⟩
      · obtain ⟨b, ws, e2, h3, h4⟩ := lstOf (r1.mono st.ex) st.mem hk
        cases e2
        exact ⟨ws, h3, by rw [h4.length]; exact hi⟩
    dsimp only at q1
    unfold seqK at q1; replace q1 := q1.out
    split at q1
    · rename_i ds e
      have hx := repT r1 e
      obtain ⟨a, vs, rfl, h1, h2⟩ := tupOf r1 e
      refine .inl ⟨a, rfl, .inr ⟨⟨vs, h1⟩, ds, _, m1, s1, ⟨fun i m' H' st hk hi => ?_, fun i m' H' st hk hi => ?_⟩, q1⟩⟩
      · obtain ⟨b, ws, e2, h3, h4⟩ := tupOf (m := m') (hx.mono st.ex) rfl
        cases e2
        obtain ⟨d', w, hd, hw, rw'⟩ := h4.inj_get hi
        refine ⟨⟨ws, w, h3, hw⟩, fun v H'' y => ?_⟩
        obtain ⟨rfl, hy⟩ := y
        have := hy ws h3
        rw [hw] at this; cases this
        exact ⟨d', hd, .refl st.mem, rw'⟩
      · obtain ⟨b, ws, e2, h3, h4⟩ := tupOf (m := m') (hx.mono st.ex) rfl
        cases e2
        exact ⟨ws, h3, by rw [h4.length]; exact hi⟩
    · rename_i ds e
      exact .inl (lst ds (by rw [e] <;> rfl) q1)
    · rename_i ds e
      exact .inl (lst ds (by rw [e] <;> rfl) q1)
    · rename_i z e
      have hv : v = .str z := repS r1 s1.mem e
      refine .inr ⟨z, hv, sgD z, _, m1, s1, ⟨fun i m' H' st hk hi => ?_, fun i m' H' st hk hi => ?_⟩, q1⟩
      · unfold sgD at hi
        rw [List.length_map, Array.length_toList] at hi
        refine ⟨hi, fun w H'' y => ?_⟩
        obtain ⟨rfl, c, hc, rfl⟩ := y
        exact ⟨_, by unfold sgD; rw [List.getElem?_map, Array.getElem?_toList, hc] <;> rfl, .refl st.mem, .str _⟩
      · unfold sgD at hi
        rw [List.length_map, Array.length_toList] at hi
        exact hi
    · exact q1.elim
/-- range by what it is given -/
def iRngU (ta : TA2) : TI2 := fun g m R => ta g m fun ds m1 => match ds with
  | [.int j] => (-(2 ^ 62) ≤ j ∧ j < 2 ^ 62) ∧ R (rngD 0 j.toNat) (fun _ => True) m1
  | _ => False
def iRngU2 (ta : TA2) : TI2 := fun g m R => ta g m fun ds m1 => match ds with
  | [.int i, .int j] => (-(2 ^ 62) ≤ i ∧ i < 2 ^ 62 ∧ -(2 ^ 62) ≤ j ∧ j < 2 ^ 62) ∧ R (rngD i (j - i).toNat) (fun _ => True) m1
  | _ => False
theorem rngU {a : Expr} {ta : TA2} {p pos : Pos} (hg : Gl X "range") (hm : X.mg "range" = none) (ha : PA2 X ω [a] ta) (hs : starEach [a] X.env = [(false, eval a X.env)] := by rfl) : PI2 X ω tg (.Call (.Name "range" p) [a] [] pos) (iRngU ta) :=
  (pi_range1 hg hm pa_sem hs).to2 fun σ H g m R S hm q => (ha.sem S hm q).mono fun vs H1 ⟨ds, m1, s1, r1, q1⟩ => by
    dsimp only at q1
    split at q1
    · cases r1 with | cons r1 r2 => cases r1; cases r2; exact ⟨_, rfl, q1.1.1, q1.1.2, _, _, m1, s1, walks_rng, q1.2⟩
    · exact q1.elim
theorem rngU2 {a b : Expr} {ta : TA2} {p pos : Pos} (hg : Gl X "range") (hm : X.mg "range" = none) (ha : PA2 X ω [a, b] ta) (hs : starEach [a, b] X.env = [(false, eval a X.env), (false, eval b X.env)] := by rfl) (hs2 : starEach [b] X.env = [(false, eval b X.env)] := by rfl) :
    PI2 X ω tg (.Call (.Name "range" p) [a, b] [] pos) (iRngU2 ta) :=
  (pi_range2 hg hm pa_sem hs hs2).to2 fun σ H g m R S hm q => (ha.sem S hm q).mono fun vs H1 ⟨ds, m1, s1, r1, q1⟩ => by
    dsimp only at q1
    split at q1
    · cases r1 with | cons r1 r2 => cases r1; cases r2 with | cons r1 r2 => cases r1; cases r2; exact ⟨_, _, rfl, q1.1, _, _, m1, s1, walks_rng, q1.2⟩
    · exact q1.elim
end

/-! ### a comprehension stored to a local on one line -/
section
variable {X : Cx} {ω : Bx}
theorem setLc {i : Nat} {y : Str} {py : Pos} {elt tg iter : Expr} {ifs : List Expr} {scope : Scope} {own : List (Str × Nat)} {pos spos : Pos} {ti : TI2} {g : TG2} {tt : TT2} {te : TE2} (hc : X.calm = true) (hN : X.N.Nodup) (hy : X.N[i]? = some y) (hyl : X.env.scope.names.lookup y = some .local)
    (hsw : swapsWith (.ListComp elt [⟨tg, iter, ifs, 0⟩] scope pos) (some (.Name y py)) spos.line X.env = pure true) (hi : PI2 X ω tg iter ti) (ok : BlkOk X.N X.env.scope scope own)
    (hg : ∀ (s : Shared) (H : Hp) (C : Addr) (cl : List (Str × Addr)) (fp : List Addr), PGc (X.blk s H scope (compEnvC scope cl C X.env) fp) ω tg (own.map (·.2)) g)
    (ht : ∀ (s : Shared) (H : Hp) (C : Addr) (cl : List (Str × Addr)) (fp : List Addr), PTs2 (X.blk s H scope (compEnvC scope cl C X.env) fp) ω ifs tt)
    (he : ∀ (s : Shared) (H : Hp) (C : Addr) (cl : List (Str × Addr)) (fp : List Addr), PE2 (X.blk s H scope (compEnvC scope cl C X.env) fp) ω elt te) (hs : ∀ x, foldedSetIterable iter X.env x = pure x := by intro _; rfl) :
    PS2 X ω (.Assign [.Name y py] (.ListComp elt [⟨tg, iter, ifs, 0⟩] scope pos) spos) (tAsg2 (tLc2 ti g tt te (own.map (·.2))) (gName2 i)) := by
  have h := ps_setLc (X := X) (i := i) (y := y) (py := py) (spos := spos) (elt := elt) (tg := tg) (iter := iter) (ifs := ifs) (scope := scope) (own := own) (pos := pos)
    (g := fun v σ H Q => ∀ s0 H0 C cl fp, semG (X.blk s0 H0 scope (compEnvC scope cl C X.env) fp) tg v σ H Q)
    (tt := fun σ H Q => ∀ s0 H0 C cl fp pins s, Inv (X.blk s0 H0 scope (compEnvC scope cl C X.env) fp) pins σ H s → wpAny (model X.prog X.w) X.A (forIn ifs true fun c r => if r = true then do let ok ← isTrue c (compEnvC scope cl C X.env) (eval c (compEnvC scope cl C X.env)); pure (ForInStep.yield ok) else pure (ForInStep.yield r)) (TP (X.blk s0 H0 scope (compEnvC scope cl C X.env) fp) pins σ Q) (fun _ _ => False) s)
    (te := fun σ H Q => ∀ s0 H0 C cl fp, semE (X.blk s0 H0 scope (compEnvC scope cl C X.env) fp) elt σ H Q)
    hc hN hy hyl hsw (pi_sem (X := X) (tg := tg) (iter := iter)) ok
    (fun s0 H0 C cl fp => ⟨fun pins s σ H v u Q I r z => z s0 H0 C cl fp pins s u I r⟩) (fun s0 H0 C cl fp => ⟨fun pins s σ H Q I z => z s0 H0 C cl fp pins s I⟩) (fun s0 H0 C cl fp => ⟨fun pins s σ H Q I z => z s0 H0 C cl fp pins s I⟩) hs
  refine h.to2 fun σ H gg m E S hm q => ?_
  show tLc _ _ _ _ _ σ H (fun x H1 => gName i x σ H1 (cE X.K ω m H E).nx)
  refine (hi.sem S hm q).mono fun J H1 ⟨ds, keep, m1, s1, wk, q1⟩ => fun Dl hD => ?_
  obtain ⟨hlen, W, w0, turn⟩ := LcG.out q1
  refine ⟨fun i n H' => n = ds.length - i ∧ i ≤ ds.length ∧ ∃ acc m', m' Dl = none ∧ acc.length ≤ i ∧ Step X.K m1 H1 (upM m' Dl (.lst acc)) H' ∧ W i acc m',
    ⟨ds.length, by simp, Nat.zero_le _, [], m1, s1.mem.fresh hD, Nat.le_refl _, Step.newM (c := .lst []) s1.mem hD ⟨[], upd_same, .nil⟩, w0⟩, ?_⟩
  rintro j n H' ⟨rfl, hi', acc, m', hmD, hal, st, w'⟩
  obtain ⟨hk, he'⟩ := turn j acc m' w'
  obtain ⟨kp, ht'⟩ := hk Dl hmD
  by_cases hlt : j < ds.length
  · obtain ⟨hgo, hy⟩ := wk.go j _ H' st kp hlt
    refine .inr ⟨hgo, fun H2 => ∃ acc m', m' Dl = none ∧ acc.length ≤ j + 1 ∧ Step X.K m1 H1 (upM m' Dl (.lst acc)) H2 ∧ W (j + 1) acc m', fun H2 ⟨acc2, m2, a, b, c, d⟩ => ⟨ds.length - (j + 1), by omega, rfl, hlt, acc2, m2, a, b, c, d⟩, fun v H2 y => ?_⟩
    obtain ⟨d, hd, st2, rv⟩ := hy v H2 y
    have st12 := st.trans st2
    intro s0 H0 C cl fp
    have SW : SlotOk X.K ω (wipe2 gg (own.map (·.2))) (L2.wipe σ (own.map (·.2))) (hid (upM m' Dl (.lst acc)) H2) := ((S.mono s1.ex).mono st12.ex).wipe _
    refine ((hg s0 H0 C cl fp).sem SW st12.mem rv (ht' d hd)).mono fun σ3 H3 ⟨⟨g3, m3, s3, S3, q3⟩, hw⟩ => ⟨?_, ?_⟩
    · rw [hw]
      have ww : ∀ vs : List Nat, L2.wipe (L2.wipe σ vs) vs = L2.wipe σ vs := fun vs => by
        have gen : ∀ us : List Nat, (∀ u ∈ us, u ∈ vs) → L2.wipe (L2.wipe σ us) vs = L2.wipe σ vs := by
          intro us
          induction us with
          | nil => intro _; rfl
          | cons u us ih =>
            intro hu
            show L2.wipe ((L2.wipe σ us).set u none) vs = _
            rw [wipe_set (hu u List.mem_cons_self)]
            exact ih fun z hz => hu z (List.mem_cons_of_mem _ hz)
        exact gen vs fun _ z => z
      exact ww _
    · intro s0 H0 C cl fp pins s I
      refine thn ((ht s0 H0 C cl fp).sem S3 s3.mem q3 pins s I) fun b s4 ⟨H4, I4, m4, st4, q4⟩ => ⟨H4, I4, ?_⟩
      have st14 := (st12.trans s3).trans st4
      cases b with
      | true =>
        rw [if_pos rfl] at q4
        refine iteT ?_
        intro s0 H0 C cl fp
        refine ((he s0 H0 C cl fp).sem (S3.mono st4.ex) st4.mem q4).mono fun yv H5 ⟨yd, m5', st5, ry, m5, e5, hm5, w5⟩ => ?_
        subst e5
        have st15 := st14.trans st5
        obtain ⟨accV, ha, hr⟩ := st15.mem Dl _ upM_same
        refine ⟨accV, ha, by rw [hr.length]; omega, acc ++ [yd], m5, hm5, by rw [List.length_append, List.length_singleton]; omega, ?_, w5⟩
        have stn := Step.upM (c := .lst (acc ++ [yd])) (o := .lst (accV ++ [yv])) st15.mem upM_same ⟨_, upd_same, hr.append (.cons ry .nil)⟩
        rw [upM_upM] at stn
        exact st15.trans stn
      | false =>
        rw [if_neg Bool.false_ne_true] at q4
        refine iteF ?_
        obtain ⟨m5, e5, hm5, w5⟩ := q4
        subst e5
        exact ⟨acc, m5, hm5, by omega, st14, w5⟩
  · have e : j = ds.length := by omega
    have ⟨sv, rp⟩ := Step.asVal st hmD
    have st' := s1.trans sv
    exact .inl ⟨wk.stop j _ H' st kp (by omega), ⟨_, m', st', (S.mono st'.ex).set rp, he' e⟩⟩

/-! ### a op b op c -/
def tChainU (r r' : R22) (ta tb tc : TE2) : TE2 := fun g m Q => ta g m fun x m1 => tb g m1 fun y m2 => r x y m2 fun z m3 => match z with
  | .bl k => br k (tc g m3 fun w m4 => r' y w m4 Q) (Q (.bl false) m3)
  | _ => False
theorem chainV {a b c : Expr} {ta tb tc : TE2} {pos : Pos} {op op' : CmpOp} {r r' : R2} {r2 r2' : R22} (ho : OpR X (compareOp op) r) (ho' : OpR X (compareOp op') r') (hcv : Cv2 X.K r r2) (hcv' : Cv2 X.K r' r2') (ha : PE2 X ω a ta) (hb : PE2 X ω b tb) (hc : PE2 X ω c tc)
    (hm : lastMarks [op, op'] [b, c] = false := by with_unfolding_all rfl) : PE2 X ω (.Compare a [op, op'] [b, c] pos) (tChainU r2 r2' ta tb tc) :=
  (pe_chain ho ho' pe_sem pe_sem pe_sem hm).to2 fun σ H g m Q S hmm q =>
    (ha.sem S hmm q).mono fun x H1 ⟨dx, m1, s1, r1, q1⟩ => (hb.sem (S.mono s1.ex) s1.mem q1).mono fun y H2 ⟨dy, m2, s2, ry, q2⟩ =>
      hcv H2 m2 dx dy x y _ _ s2.mem (r1.mono s2.ex) ry q2 fun v H3 ⟨dv, m3, s3, rv, q3⟩ => by
        dsimp only at q3
        split at q3
        · rename_i k
          cases rv
          refine ⟨k, rfl, ?_⟩
          cases k with
          | true => have q3 := br_t q3; exact iteT ((hc.sem (((S.mono s1.ex).mono s2.ex).mono s3.ex) s3.mem q3).mono fun w H4 ⟨dw, m4, s4, rw', q4⟩ => hcv' H4 m4 dy dw y w _ _ s4.mem ((ry.mono s3.ex).mono s4.ex) rw' q4 fun _ _ h => P2.go (((s1.trans s2).trans s3).trans s4) h)
          | false => have q3 := br_f q3; exact iteF (P2.go ((s1.trans s2).trans s3) (.same s3.mem (.bl _) q3))
        · exact q3.elim
theorem chainT {a b c : Expr} {ta tb tc : TE2} {pos : Pos} {op op' : CmpOp} {r r' : R2} {r2 r2' : R22} (ho : OpR X (compareOp op) r) (ho' : OpR X (compareOp op') r') (hcv : Cv2 X.K r r2) (hcv' : Cv2 X.K r' r2') (ha : PE2 X ω a ta) (hb : PE2 X ω b tb) (hc : PE2 X ω c tc)
    (hm : lastMarks [op, op'] [b, c] = false := by with_unfolding_all rfl) : PT2 X ω (.Compare a [op, op'] [b, c] pos) (tTU (tChainU r2 r2' ta tb tc)) :=
  (pt_chain ho ho' pe_sem pe_sem pe_sem hm).to2 fun σ H g m Q S hmm q =>
    (ha.sem S hmm q).mono fun x H1 ⟨dx, m1, s1, r1, q1⟩ => (hb.sem (S.mono s1.ex) s1.mem q1).mono fun y H2 ⟨dy, m2, s2, ry, q2⟩ =>
      hcv H2 m2 dx dy x y _ _ s2.mem (r1.mono s2.ex) ry q2 fun v H3 ⟨dv, m3, s3, rv, q3⟩ => by
        dsimp only at q3
        split at q3
        · rename_i k
          cases rv
          refine ⟨k, rfl, ?_⟩
          cases k with
          | true => have q3 := br_t q3; exact iteT ((hc.sem (((S.mono s1.ex).mono s2.ex).mono s3.ex) s3.mem q3).mono fun w H4 ⟨dw, m4, s4, rw', q4⟩ => hcv' H4 m4 dy dw y w _ _ s4.mem ((ry.mono s3.ex).mono s4.ex) rw' q4 fun v5 H5 ⟨d5, m5, s5, r5, q5⟩ => by
              dsimp only at q5
              split at q5
              · cases r5
                exact ⟨_, rfl, _, (((s1.trans s2).trans s3).trans s4).trans s5, q5⟩
              · exact q5.elim)
          | false => have q3 := br_f q3; exact iteF ⟨false, rfl, m3, (s1.trans s2).trans s3, q3⟩
        · exact q3.elim
end

/-! ### the law's end -/
theorem walkZ {l : PySem.W.OpenLaw} {k : Nat} {q : Program} {loose : List Str} {XP : (Str → Option Value) → Heap → Prop} {YP : World → Heap → Prop} {d : DefRec} {K : Params → PySem.W.Frag} {x : Str}
    (hn : l.most = some 63) (hdf : d.params.defaults = []) (hr : Room k callerA)
    (hY : ∀ (w : World) (h : Heap), YP w h → (K w.params).In h)
    (F : ∀ (w : World) (mg : Str → Option Value) (fa : Addr) (h : Heap), (K w.params).In h → h.Ns mainGlobals mg → mg d.name = some (.ref fa) →
      ∃ fd : FuncData, (∀ (s : Shared) (u : Value), BindsTo s fd ⟨[u], []⟩ [(x, u)]) ∧
        ∀ base : Heap, (K w.params).In base → base.Ns mainGlobals mg → FnOk l.prog w (K w.params) mg base CX0 k fa fd [x] (lift (K w.params) spLaw)) :
    PySem.W.WalkO q loose XP YP l.row.toRowW d [] (fun f vs => PySem.call f vs) :=
  L2.walk_of (n := 63) (K := K) (CX := fun _ => CX0) (sp := fun w => lift (K w.params) spLaw) hn (by decide) hdf hr hY F
    (fun w H a ns hl hO hS => ⟨[.rol (ns.map D.int)], noM, fun d _ => d = .bl true, no2, .no, .cons (.rol (only_hid hO hS) (Reps.of_ints ns)) .nil, ⟨ns, rfl, hl, fun _ => rfl⟩, fun v H' ⟨d, m', _, r, e⟩ => by
      subst e
      cases r
      rfl, fun _ _ _ _ z => z⟩) (fun _ _ _ _ _ h => h)
end Z

/-! Z9: promises by the number of what is given. -/
namespace Z
open PySem PySem.Spec PyProof.Rows L2
def sp0 (p : M → Kd → Prop) : Sp2 := fun ds m Q _ => match ds with | [] => p m Q | _ => False
def sp1 (p : D → M → Kd → Prop) : Sp2 := fun ds m Q _ => match ds with | [a] => p a m Q | _ => False
def sp2 (p : D → D → M → Kd → Prop) : Sp2 := fun ds m Q _ => match ds with | [a, b] => p a b m Q | _ => False
def sp3 (p : D → D → D → M → Kd → Prop) : Sp2 := fun ds m Q _ => match ds with | [a, b, c] => p a b c m Q | _ => False
def sp4 (p : D → D → D → D → M → Kd → Prop) : Sp2 := fun ds m Q _ => match ds with | [a, b, c, d] => p a b c d m Q | _ => False
def sp5 (p : D → D → D → D → D → M → Kd → Prop) : Sp2 := fun ds m Q _ => match ds with | [a, b, c, d, e] => p a b c d e m Q | _ => False
section
variable {P : Program} {w : World} {K : PySem.W.Frag} {mg : Str → Option Value} {base : Heap} {x : Str} {st : Stmt} {f : Addr} {fd : FuncData} {N ps : List Str} {k : Nat}
theorem DefAt.ok {sp : Sp2} (A : DefAt K mg x st ps) (h : ∀ f fd, FunZ K x x st f fd → FnOk P w K mg base CX0 k f fd ps (lift K sp)) : DefOk P w K mg base k x sp := by
  obtain ⟨f, fd, F, hm, hb⟩ := A.ex
  exact ⟨f, fd, ps, h f fd F, hm, F.kp, hb⟩
abbrev BodyAt (P : Program) (w : World) (K : PySem.W.Frag) (mg : Str → Option Value) (base : Heap) (N : List Str) (x : Str) (st : Stmt) (f : Addr) (k : Nat) (R : TS2 → Prop) : Prop :=
  ∀ (cdv : Value) (A : Around) (outer : List Env) (s : Shared) (H : Hp) (E : XK), Room k (A.deeper (envOfC x (defScope st) s.heap.objs.size f cdv)) →
      ∃ t, PSs2 (cxOf CX0 P w K mg base N x (defScope st) f cdv A outer s H E).nox Bx.no (defBody st) t ∧ R t
abbrev Ew (Q : Kd) : Ends2 := { nx := fun _ m' => Q .non m', rt := Q }
theorem fn0 {p : M → Kd → Prop} (F : FunZ K x x st f fd) (S : FnScope N ps (defScope st)) (hl : ps.length = 0) (body : BodyAt P w K mg base N x st f k fun t => ∀ m Q, p m Q → t (Ew Q) (st0 N.length []) m) : FnOk P w K mg base CX0 (k + 1) f fd ps (lift K (sp0 p)) := by
  refine fun_ok F S (fun ds m Q E h => ?_) fun cdv A outer s H E hr => ?_
  · unfold sp0 at h
    split at h
    · exact hl.symm
    · exact h.elim
  · obtain ⟨t, h1, h2⟩ := body cdv A outer s H E hr
    refine ⟨t, h1, fun ds m Q E2 h => ?_⟩
    unfold sp0 at h
    split at h
    · exact h2 _ _ h
    · exact h.elim
theorem fn1 {p : D → M → Kd → Prop} (F : FunZ K x x st f fd) (S : FnScope N ps (defScope st)) (hl : ps.length = 1) (body : BodyAt P w K mg base N x st f k fun t => ∀ a m Q, p a m Q → t (Ew Q) (st0 N.length [a]) m) : FnOk P w K mg base CX0 (k + 1) f fd ps (lift K (sp1 p)) := by
  refine fun_ok F S (fun ds m Q E h => ?_) fun cdv A outer s H E hr => ?_
  · unfold sp1 at h
    split at h
    · exact hl.symm
    · exact h.elim
  · obtain ⟨t, h1, h2⟩ := body cdv A outer s H E hr
    refine ⟨t, h1, fun ds m Q E2 h => ?_⟩
    unfold sp1 at h
    split at h
    · exact h2 _ _ _ h
    · exact h.elim
theorem fn2 {p : D → D → M → Kd → Prop} (F : FunZ K x x st f fd) (S : FnScope N ps (defScope st)) (hl : ps.length = 2) (body : BodyAt P w K mg base N x st f k fun t => ∀ a b m Q, p a b m Q → t (Ew Q) (st0 N.length [a, b]) m) : FnOk P w K mg base CX0 (k + 1) f fd ps (lift K (sp2 p)) := by
  refine fun_ok F S (fun ds m Q E h => ?_) fun cdv A outer s H E hr => ?_
  · unfold sp2 at h
    split at h
    · exact hl.symm
    · exact h.elim
  · obtain ⟨t, h1, h2⟩ := body cdv A outer s H E hr
    refine ⟨t, h1, fun ds m Q E2 h => ?_⟩
    unfold sp2 at h
    split at h
    · exact h2 _ _ _ _ h
    · exact h.elim
theorem fn3 {p : D → D → D → M → Kd → Prop} (F : FunZ K x x st f fd) (S : FnScope N ps (defScope st)) (hl : ps.length = 3) (body : BodyAt P w K mg base N x st f k fun t => ∀ a b c m Q, p a b c m Q → t (Ew Q) (st0 N.length [a, b, c]) m) : FnOk P w K mg base CX0 (k + 1) f fd ps (lift K (sp3 p)) := by
  refine fun_ok F S (fun ds m Q E h => ?_) fun cdv A outer s H E hr => ?_
  · unfold sp3 at h
    split at h
    · exact hl.symm
    · exact h.elim
  · obtain ⟨t, h1, h2⟩ := body cdv A outer s H E hr
    refine ⟨t, h1, fun ds m Q E2 h => ?_⟩
    unfold sp3 at h
    split at h
    · exact h2 _ _ _ _ _ h
    · exact h.elim
theorem fn4 {p : D → D → D → D → M → Kd → Prop} (F : FunZ K x x st f fd) (S : FnScope N ps (defScope st)) (hl : ps.length = 4) (body : BodyAt P w K mg base N x st f k fun t => ∀ a b c d m Q, p a b c d m Q → t (Ew Q) (st0 N.length [a, b, c, d]) m) : FnOk P w K mg base CX0 (k + 1) f fd ps (lift K (sp4 p)) := by
  refine fun_ok F S (fun ds m Q E h => ?_) fun cdv A outer s H E hr => ?_
  · unfold sp4 at h
    split at h
    · exact hl.symm
    · exact h.elim
  · obtain ⟨t, h1, h2⟩ := body cdv A outer s H E hr
    refine ⟨t, h1, fun ds m Q E2 h => ?_⟩
    unfold sp4 at h
    split at h
    · exact h2 _ _ _ _ _ _ h
    · exact h.elim
theorem fn5 {p : D → D → D → D → D → M → Kd → Prop} (F : FunZ K x x st f fd) (S : FnScope N ps (defScope st)) (hl : ps.length = 5) (body : BodyAt P w K mg base N x st f k fun t => ∀ a b c d e m Q, p a b c d e m Q → t (Ew Q) (st0 N.length [a, b, c, d, e]) m) : FnOk P w K mg base CX0 (k + 1) f fd ps (lift K (sp5 p)) := by
  refine fun_ok F S (fun ds m Q E h => ?_) fun cdv A outer s H E hr => ?_
  · unfold sp5 at h
    split at h
    · exact hl.symm
    · exact h.elim
  · obtain ⟨t, h1, h2⟩ := body cdv A outer s H E hr
    refine ⟨t, h1, fun ds m Q E2 h => ?_⟩
    unfold sp5 at h
    split at h
    · exact h2 _ _ _ _ _ _ _ h
    · exact h.elim
/-- the law's def, any promise of one argument -/
theorem fnL (F : FunZ K x x st f fd) (S : FnScope N ps (defScope st)) (hl : ps.length = 1) (body : BodyAt P w K mg base N x st f k fun t => ∀ (ns : List Int) m Q, ns.length ≤ 63 → (∀ m', Q (.bl true) m') → t (Ew Q) (st0 N.length [.rol (ns.map D.int)]) m) : FnOk P w K mg base CX0 (k + 1) f fd ps (lift K spLaw) := by
  refine fun_ok F S (fun ds m Q E ⟨ns, h, _⟩ => ?_) fun cdv A outer s H E hr => ?_
  · rw [h]; exact hl.symm
  · obtain ⟨t, h1, h2⟩ := body cdv A outer s H E hr
    refine ⟨t, h1, fun ds m Q E2 ⟨ns, e, hn, q⟩ => ?_⟩
    subst e
    exact h2 ns m Q hn q
end
end Z

/-! Z10: dicts. -/
namespace Z
open PySem PySem.Spec PyProof.Rows L2
section
variable {X : Cx} {ω : Bx} {pos : Pos}
/-- {} -/
def tDnew : TE2 := fun _ m Q => Q (.dic [] []) m
def tDnewM : TE2 := fun _ m Q => ∀ p, m p = none → Q (.ref p) (upM m p (.dic [] []))
theorem q_dnew : PE2 X ω (.Dict [] [] pos) tDnew := pe_dnewK.to2 fun σ H g m Q S hm q => fun p hp => .new hm hp (.dic (vs := []) (.inl (Step.new_at hm hp)) rfl .nil) q
theorem q_dnewM : PE2 X ω (.Dict [] [] pos) tDnewM := pe_dnewK.to2 fun σ H g m Q S hm q => fun p hp => ⟨.ref p, _, Step.newM (c := .dic [] []) hm hp ⟨[], upd_same, rfl, .nil⟩, .ref p, q p (hm.fresh hp)⟩
/-- the pairs of a display -/
def tPairs2 : List (TE2 × TE2) → Sl → M → (List (D × D) → M → Prop) → Prop
  | [], _, m, Q => Q [] m
  | (tk, tv) :: r, g, m, Q => tk g m fun x m1 => tv g m1 fun y m2 => tPairs2 r g m2 fun ps m3 => Q ((x, y) :: ps) m3
structure PPs2 (X : Cx) (ω : Bx) (pos : Pos) (keys : List (Option Expr)) (values : List Expr) (trs : List (TE2 × TE2)) : Prop where
  ex : ∃ us : List (TE × TE), PPs X pos keys values us ∧ ∀ {σ : St} {H : Hp} {g : Sl} {m : M} {Q : List (D × D) → M → Prop} {Q' : List (V × V) → Hp → Prop}, SlotOk X.K ω g σ (hid m H) → MemOk X.K m H → tPairs2 trs g m Q →
    (∀ ps m' H' ps', Step X.K m H m' H' → Reps X.K (hid m' H') (ps'.map (·.1)) (ps.map (·.1)) → Reps X.K (hid m' H') (ps'.map (·.2)) (ps.map (·.2)) → Q ps m' → Q' ps' H') → tPairs us σ H Q'
theorem qps_nil : PPs2 X ω pos [] [] [] := ⟨[], pps_nil, fun S hm q k => k [] _ _ [] (.refl hm) .nil .nil q⟩
theorem qps_cons {k v : Expr} {ks : List (Option Expr)} {vs : List Expr} {tk tv : TE2} {trs : List (TE2 × TE2)} (hk : PE2 X ω k tk) (hv : PE2 X ω v tv) (hr : PPs2 X ω pos ks vs trs) : PPs2 X ω pos (some k :: ks) (v :: vs) ((tk, tv) :: trs) := by
  obtain ⟨us, h1, h2⟩ := hr.ex
  refine ⟨_, pps_cons pe_sem pe_sem h1, fun {σ H g m Q Q'} S hm q kk => ?_⟩
  refine (hk.sem S hm q).mono fun x H1 ⟨dx, m1, s1, r1, q1⟩ => (hv.sem (S.mono s1.ex) s1.mem q1).mono fun y H2 ⟨dy, m2, s2, r2, q2⟩ => ?_
  refine h2 ((S.mono s1.ex).mono s2.ex) s2.mem q2 fun ps m' H' ps' st ra rb q3 => ?_
  exact kk ((dx, dy) :: ps) m' H' ((x, y) :: ps') ((s1.trans s2).trans st) (.cons ((r1.mono s2.ex).mono st.ex) ra) (.cons (r2.mono st.ex) rb) q3
def keyD : D → Option Key | .int i => some (.inl i) | .str x => some (.inr x) | _ => none
def keysD : List D → Option (List Key)
  | [] => some []
  | d :: r => match keyD d, keysD r with | some k, some ks => some (k :: ks) | _, _ => none
theorem keysD_rep {K : PySem.W.Frag} {G : Hp} : ∀ {ds : List D} {vs : List V} {ks : List Key}, Reps K G vs ds → keysD ds = some ks → vs = ks.map kV
  | [], _, _, .nil, h => by cases h; rfl
  | d :: r, _, ks, .cons a t, h => by
    unfold keysD at h
    cases e1 : keyD d with
    | none => rw [e1] at h; cases h
    | some k =>
      cases e2 : keysD r with
      | none => rw [e1, e2] at h; cases h
      | some ks' =>
        rw [e1, e2] at h; cases h
        rw [List.map_cons, ← keysD_rep t e2]
        congr 1
        unfold keyD at e1
        cases a <;> first | (cases e1; rfl) | cases e1
/-- a display with unlike keys -/
def tDisp2 (trs : List (TE2 × TE2)) : TE2 := fun g m Q => ∀ p, m p = none → tPairs2 trs g (upM m p (.dic [] [])) fun ps m2 => ∃ m3 ks, m2 = upM m3 p (.dic [] []) ∧ m3 p = none ∧ keysD (ps.map (·.1)) = some ks ∧ ks.Nodup ∧ ks.length ≤ 15 ∧ Q (.dic ks (ps.map (·.2))) m3
theorem merge_nodup : ∀ (more kvs : List (Key × V)), ((kvs ++ more).map (·.1)).Nodup → mergeK kvs more = kvs ++ more
  | [], kvs, _ => by show kvs = kvs ++ []; rw [List.append_nil]
  | p :: r, kvs, h => by
    show mergeK (putK kvs p.1 p.2) r = _
    have hv : valV kvs p.1 = none := by
      cases e : valV kvs p.1 with
      | none => rfl
      | some v =>
        exfalso
        have h2 : (kvs.any fun kv => decide (kv.1 = p.1)) = true := by rw [valV_any, e] <;> rfl
        obtain ⟨q, hq, eq⟩ := List.any_eq_true.mp h2
        rw [List.map_append, List.nodup_append] at h
        exact h.2.2 q.1 (List.mem_map.mpr ⟨q, hq, rfl⟩) p.1 (by simp) (of_decide_eq_true eq)
    rw [putK_new p.2 hv]
    have e : kvs ++ [(p.1, p.2)] ++ r = kvs ++ p :: r := by simp
    rw [merge_nodup r _ (by rw [e]; exact h), e]
theorem zip_of : ∀ (ps : List (V × V)) (ks : List Key), ps.map (·.1) = ks.map kV → ps = (ks.zip (ps.map (·.2))).map fun kv => (kV kv.1, kv.2)
  | [], [], _ => rfl
  | [], _ :: _, h => by simp at h
  | _ :: _, [], h => by simp at h
  | p :: ps, k :: ks, h => by
    have h1 : p.1 = kV k := (List.cons.inj h).1
    have h2 := zip_of ps ks (List.cons.inj h).2
    show p :: ps = (kV k, p.2) :: _
    rw [← h1]
    congr 1
theorem q_disp {keys : List (Option Expr)} {values : List Expr} {trs : List (TE2 × TE2)} (h : PPs2 X ω pos keys values trs) (hall : keys.all (·.isSome) = true := by rfl) (hl : keys.length = values.length := by rfl) (h0 : keys ≠ [] := by (intro z; cases z))
    (h15 : keys.length ≤ 15 := by decide) : PE2 X ω (.Dict keys values pos) (tDisp2 trs) := by
  obtain ⟨us, h1, h2⟩ := h.ex
  refine (pe_disp h1 hall hl h0 h15).to2 fun σ H g m Q S hm q => fun p hp => ?_
  have st0 : Step X.K m H (upM m p (.dic [] [])) (upd H p (.dK [])) := Step.newM (c := .dic [] []) hm hp ⟨[], upd_same, rfl, .nil⟩
  refine h2 (S.mono st0.ex) st0.mem (q p (hm.fresh hp)) fun ps m2 H2 ps' st ra rb ⟨m3, ks, e, hm3, hk, hnd, hle, q3⟩ => ?_
  subst e
  obtain ⟨vs0, hh, hl0, r0⟩ := st.mem p _ upM_same
  cases r0
  have e1 := keysD_rep ra hk
  have hlen : (ps'.map (·.2)).length = ks.length := by
    have := congrArg List.length e1
    simpa using this
  refine ⟨hh, ks.zip (ps'.map (·.2)), zip_of _ _ e1, by rw [List.length_zip, hlen]; omega, ?_⟩
  have em : mergeK [] (ks.zip (ps'.map (·.2))) = ks.zip (ps'.map (·.2)) := merge_nodup _ _ (by
    rw [List.nil_append, List.map_fst_zip (by omega)]
    exact hnd)
  rw [em]
  have st2 := Step.upM (c := .dic ks (ps.map (·.2))) (o := .dK (ks.zip (ps'.map (·.2)))) st.mem upM_same ⟨_, upd_same, by omega, rb⟩
  rw [upM_upM] at st2
  have st3 := (st0.trans st).trans st2
  obtain ⟨ws, g1, g2, g3⟩ := st3.mem p _ upM_same
  have stv : Step X.K (upM m3 p (.dic ks (ps.map (·.2)))) (upd H2 p (.dK (ks.zip (ps'.map (·.2))))) m3 (upd H2 p (.dK (ks.zip (ps'.map (·.2))))) := Step.sub st3.mem fun a c z => by rw [upM_ne (ne_ofM z hm3)]; exact z
  exact ⟨_, m3, st3.trans stv, .dic (.inl (hid_of hm3 g1)) g2 (g3.mono stv.ex), q3⟩
end
end Z

/-! Z11: isinstance with a built-in type; steps of readings. -/
namespace Z
open PySem PySem.Spec PyProof.Rows L2
section
variable {X : Cx} {ω : Bx} {p pos : Pos} {e e2 : Expr} {te : TE2}
@[irreducible] def isiK (T : Ty) (Q : Kd) (x : D) (m1 : M) : Prop := Box <| match tyD m1 x with | some t => Q (.bl (isT t T)) m1 | none => False
theorem isiK_of {T t : Ty} {Q : Kd} {x : D} {m1 : M} (e : tyD m1 x = some t) (q : Q (.bl (isT t T)) m1) : isiK T Q x m1 := by unfold isiK; refine ⟨?_⟩; rw [e]; exact q
def tIsi (T : Ty) (te : TE2) : TE2 := fun g m Q => te g m fun x m1 => isiK T Q x m1
theorem isiB (T : Ty) (hT : T ≠ .non) (hg : Gl X "isinstance") (hm : X.mg "isinstance" = none) (ha : PE2 X ω e te) (hb : PE2 X ω e2 (tC2 (.ty T.name))) (he : starEach [e, e2] X.env = (false, eval e X.env) :: starEach [e2] X.env := by rfl) (he2 : starEach [e2] X.env = (false, eval e2 X.env) :: starEach [] X.env := by rfl) (hpl : (backTo pos (starEach [e2] X.env)).any (·.1) = false := by rfl) :
    PE2 X ω (.Call (.Name "isinstance" p) [e, e2] [] pos) (tIsi T te) := by
  have h := q_callB (pos := pos) (p := p) call_isi (cc_isi (K := X.K)) hg hm bt_isinstance (qa_cons ha (qa_cons hb qa_nil he2) he) (by decide) (by decide) he hpl
  refine ⟨fun {σ H g m Q} S hmm q => ?_⟩
  have q' : te g m fun x m1 => isiK T Q x m1 := q
  have hb' := (pe_callB (pos := pos) (p := p) call_isi hg hm bt_isinstance (pa_cons (pe_sem (X := X) (e := e)) (pa_cons (pe_sem (X := X) (e := e2)) pa_nil he2) he) (by decide) (by decide) he hpl)
  intro pins s I
  refine hb'.run pins s σ H _ I ?_
  refine (ha.sem S hmm q').mono fun v H1 ⟨d, m1, s1, r1, q1⟩ => ?_
  refine (hb.sem (Q := fun d2 m2 => d2 = .ty T.name ∧ m2 = m1) (S.mono s1.ex) s1.mem ⟨rfl, rfl⟩).mono fun v2 H2 ⟨d2, m2, s2, r2, e2', em⟩ => ?_
  subst e2'; subst em
  have r1' := r1.mono s2.ex
  cases et : tyD m2 d with
  | none => unfold isiK at q1; replace q1 := q1.out; rw [et] at q1; exact q1.elim
  | some t =>
    unfold isiK at q1; replace q1 := q1.out
    rw [et] at q1
    exact cc_isi H2 m2 [d, .ty T.name] [v, v2] Q _ s2.mem (.cons r1' (.cons r2 .nil)) ⟨d, T, t, rfl, hT, et, q1⟩ fun _ _ h => P2.go (s1.trans s2) h
end
/-! ### readings, where a value is known by an equation -/
section
variable {m : M} {Q : Kd} {x y : D}
theorem kLen_tup {ds : List D} (e : res m x = .tup ds) (q : Q (.int ds.length) m) : kLen [x] m Q := by unfold kLen; refine ⟨?_⟩; simp only [e]; exact q
theorem kLen_lst {ds : List D} (e : res m x = .lst ds) (q : Q (.int ds.length) m) : kLen [x] m Q := by unfold kLen; refine ⟨?_⟩; simp only [e]; exact q
theorem kLen_str {z : Str} (e : res m x = .str z) (h : z.length ≤ sizeLine) (q : Q (.int z.length) m) : kLen [x] m Q := by unfold kLen; refine ⟨?_⟩; simp only [e]; exact ⟨h, q⟩
theorem ix_t {ds : List D} {i : Int} {d : D} (e : res m x = .tup ds) (h : atI ds i = some d) (q : Q d m) : oIxU x (.int i) m Q := by unfold oIxU; refine ⟨?_⟩; simp only [e]; exact ⟨d, h, q⟩
theorem ix_l {ds : List D} {i : Int} {d : D} (e : res m x = .lst ds) (h : atI ds i = some d) (q : Q d m) : oIxU x (.int i) m Q := by unfold oIxU; refine ⟨?_⟩; simp only [e]; exact ⟨d, h, q⟩
theorem ix_n {ds : List D} {i : Nat} {d : D} (e : itsD (res m x) = some ds) (h : ds[i]? = some d) (q : Q d m) : oIxU x (.int (i : Int)) m Q := by
  unfold oIxU; refine ⟨?_⟩
  cases e' : res m x with
  | tup es => rw [e'] at e; cases e; exact ⟨d, atI_nat h, q⟩
  | lst es => rw [e'] at e; cases e; exact ⟨d, atI_nat h, q⟩
  | rol es => rw [e'] at e; cases e; exact ⟨d, atI_nat h, q⟩
  | _ => rw [e'] at e; cases e
theorem eq_of {b : Bool} (h1 : okD 60 (res m x) = true) (h2 : okD 60 (res m y) = true) (e : eqD (res m x) (res m y) = b) (q : Q (.bl b) m) : oEq x y m Q := by unfold oEq; refine ⟨?_⟩; exact ⟨h1, h2, by rw [e]; exact q⟩
theorem ne_of {b : Bool} (h1 : okD 60 (res m x) = true) (h2 : okD 60 (res m y) = true) (e : eqD (res m x) (res m y) = b) (q : Q (.bl (!b)) m) : oNe x y m Q := by unfold oNe; refine ⟨?_⟩; exact ⟨h1, h2, by rw [e]; exact q⟩
theorem eqD_int {i j : Int} : eqD (.int i) (.int j) = decide (i = j) := by simp only [eqD, py, PyData.eqv]; exact Bool.beq_eq_decide_eq _ _
theorem eqD_str {i j : Str} : eqD (.str i) (.str j) = decide (i = j) := by simp only [eqD, py, PyData.eqv]; exact Bool.beq_eq_decide_eq _ _
theorem eqD_bl {i j : Bool} : eqD (.bl i) (.bl j) = decide (i = j) := by simp only [eqD, py, PyData.eqv]; exact Bool.beq_eq_decide_eq _ _
/-- == of two ints, as it is asked -/
theorem eqI {i j : Int} (q : Q (.bl (decide (i = j))) m) : oEq (.int i) (.int j) m Q := eq_of (m := m) (x := .int i) (y := .int j) rfl rfl eqD_int q
theorem neI {i j : Int} (q : Q (.bl (!decide (i = j))) m) : oNe (.int i) (.int j) m Q := ne_of (m := m) (x := .int i) (y := .int j) rfl rfl eqD_int q
theorem eqB {i j : Bool} (q : Q (.bl (decide (i = j))) m) : oEq (.bl i) (.bl j) m Q := eq_of (m := m) (x := .bl i) (y := .bl j) rfl rfl eqD_bl q
theorem neB {i j : Bool} (q : Q (.bl (!decide (i = j))) m) : oNe (.bl i) (.bl j) m Q := ne_of (m := m) (x := .bl i) (y := .bl j) rfl rfl eqD_bl q
theorem res_up {c : C} {p : Addr} (h : m p = none) {e : D} (q : res m x = e) (hr : ∀ a, e ≠ .ref a) : res (upM m p c) x = e := by
  cases x with
  | ref b =>
    by_cases hb : b = p
    · subst hb
      unfold res at q
      simp only [h] at q
      exact absurd q.symm (hr _)
    · rw [← q]
      unfold res
      simp only [upM_ne hb]
  | _ => exact q
theorem ty_up {c : C} {p : Addr} (h : m p = none) {t : Ty} (q : tyD m x = some t) : tyD (upM m p c) x = some t := by
  have e : res (upM m p c) x = res m x := res_up h rfl fun a ha => by
    unfold tyD at q
    rw [ha] at q
    cases q
  unfold tyD at q ⊢
  rw [e]
  exact q
end
/-! ### comprehensions of pure items -/
/-- what may be owned besides while an item is reckoned -/
def Ext (m mm : M) : Prop := ∃ Dl acc, m Dl = none ∧ mm = upM m Dl (.lst acc)
theorem Ext.ty {m mm : M} (h : Ext m mm) {x : D} {t : Ty} (q : tyD m x = some t) : tyD mm x = some t := by
  obtain ⟨Dl, acc, h1, rfl⟩ := h
  exact ty_up h1 q
theorem Ext.res {m mm : M} (h : Ext m mm) {x e : D} (q : Z.res m x = e) (hr : ∀ a, e ≠ .ref a) : Z.res mm x = e := by
  obtain ⟨Dl, acc, h1, rfl⟩ := h
  exact res_up h1 q hr
theorem Ext.at {m mm : M} (h : Ext m mm) {p : Addr} {c : C} (q : m p = some c) : mm p = some c := by
  obtain ⟨Dl, acc, h1, rfl⟩ := h
  rw [upM_ne (ne_ofM q h1)]
  exact q
theorem lc_gen {tg : TG2} {tt : TT2} {te : TE2} {vs : List Nat} {g : Sl} {m1 : M} {ds : List D} {keep : M → Prop} {Q : Kd} (en : D → Sl) (p : D → Bool) (F : D → D) (hl : ds.length ≤ sizeLine) (hk : ∀ mm, Ext m1 mm → keep mm)
    (hg : ∀ d ∈ ds, ∀ mm, Ext m1 mm → ∀ k : Sl → M → Prop, k (en d) mm → tg d (wipe2 g vs) mm k) (ht : ∀ d ∈ ds, ∀ mm, Ext m1 mm → ∀ k : Bool → M → Prop, k (p d) mm → tt (en d) mm k)
    (he : ∀ d ∈ ds, p d = true → ∀ mm, Ext m1 mm → ∀ k : Kd, k (F d) mm → te (en d) mm k) (hq : Q (.lst ((ds.filter p).map F)) m1) : LcG tg tt te vs g Q ds keep m1 := by
  unfold LcG; refine ⟨?_⟩
  refine ⟨hl, fun i acc m' => acc = ((ds.take i).filter p).map F ∧ m' = m1, ⟨rfl, rfl⟩, ?_⟩
  rintro i acc m' ⟨rfl, rfl⟩
  refine ⟨fun Dl hD => ⟨hk _ ⟨Dl, _, hD, rfl⟩, fun d hd => ?_⟩, fun e => by rw [e, List.take_length]; exact hq⟩
  have hm := List.mem_of_getElem? hd
  have et : ds.take (i + 1) = ds.take i ++ [d] := by rw [List.take_add_one, hd] <;> rfl
  refine hg d hm _ ⟨Dl, _, hD, rfl⟩ _ (ht d hm _ ⟨Dl, _, hD, rfl⟩ _ ?_)
  by_cases hp : p d = true
  · rw [if_pos hp]
    refine he d hm hp _ ⟨Dl, _, hD, rfl⟩ _ ⟨m', rfl, hD, ?_, rfl⟩
    rw [et, List.filter_append, List.filter_cons, if_pos hp, List.map_append]
    rfl
  · rw [if_neg hp]
    refine ⟨m', rfl, hD, ?_, rfl⟩
    rw [et, List.filter_append, List.filter_cons, if_neg hp, List.map_append]
    exact (List.append_nil _).symm
theorem lc_map {te : TE2} {j : Nat} {g : Sl} {m1 : M} {ds : List D} {keep : M → Prop} {Q : Kd} (F : D → D) (hl : ds.length ≤ sizeLine) (hk : ∀ mm, Ext m1 mm → keep mm)
    (he : ∀ d ∈ ds, ∀ mm, Ext m1 mm → ∀ k : Kd, k (F d) mm → te ((wipe2 g [j]).set j (some d)) mm k) (hq : Q (.lst (ds.map F)) m1) : LcG (gName2 j) tYes2 te [j] g Q ds keep m1 := by
  refine lc_gen (fun d => (wipe2 g [j]).set j (some d)) (fun _ => true) F hl hk (fun d _ mm _ k h => h) (fun d _ mm _ k h => h) (fun d hd _ mm hm k h => he d hd mm hm k h) ?_
  rw [List.filter_eq_self.mpr fun _ _ => rfl]
  exact hq
theorem lc_fil {tt : TT2} {te : TE2} {j : Nat} {g : Sl} {m1 : M} {ds : List D} {keep : M → Prop} {Q : Kd} (p : D → Bool) (F : D → D) (hl : ds.length ≤ sizeLine) (hk : ∀ mm, Ext m1 mm → keep mm)
    (ht : ∀ d ∈ ds, ∀ mm, Ext m1 mm → ∀ k : Bool → M → Prop, k (p d) mm → tt ((wipe2 g [j]).set j (some d)) mm k)
    (he : ∀ d ∈ ds, p d = true → ∀ mm, Ext m1 mm → ∀ k : Kd, k (F d) mm → te ((wipe2 g [j]).set j (some d)) mm k) (hq : Q (.lst ((ds.filter p).map F)) m1) : LcG (gName2 j) tt te [j] g Q ds keep m1 :=
  lc_gen (fun d => (wipe2 g [j]).set j (some d)) p F hl hk (fun d _ mm _ k h => h) ht he hq
theorem kAll_of {m : M} {Q : Kd} {x : D} (bs : List Bool) (e : lsD (res m x) = some (bs.map D.bl)) (q : Q (.bl (bs.all id)) m) : kAll [x] m Q := by unfold kAll; refine ⟨?_⟩; exact ⟨bs, e, q⟩
theorem kAny_of {m : M} {Q : Kd} {x : D} (bs : List Bool) (e : lsD (res m x) = some (bs.map D.bl)) (q : Q (.bl (bs.any id)) m) : kAny [x] m Q := by unfold kAny; refine ⟨?_⟩; exact ⟨bs, e, q⟩
theorem kSum_of {m : M} {Q : Kd} {x : D} (ns : List Int) (e : lsD (res m x) = some (ns.map D.int)) (q : Q (.int ns.sum) m) : kSum [x] m Q := by unfold kSum; refine ⟨?_⟩; exact ⟨ns, e, q⟩
end Z

/-! Z12: what the laws share: drawing states, sizes. -/
namespace Z
open PySem PySem.Spec PyProof.Rows L2
theorem cokL {i j : Int} (h : -(2 ^ 64) < i ∧ i < 2 ^ 64) : COk i j := .inl (.inl h)
theorem cokR {i j : Int} (h : -(2 ^ 64) < j ∧ j < 2 ^ 64) : COk i j := .inl (.inr h)
theorem cokN {i j : Int} {a b : Nat} (h1 : i.natAbs < 2 ^ a) (h2 : j.natAbs < 2 ^ b) (h : a + b ≤ 1000000 := by decide) (ha : 0 < a := by decide) (hb : 0 < b := by decide) : COk i j := by
  have l : ∀ (n k : Nat), 0 < k → n < 2 ^ k → n.log2 < k := fun n k hk hn => by
    by_cases h0 : n = 0
    · subst h0; simpa using hk
    · exact (Nat.log2_lt h0).mpr hn
  have e1 := l _ _ ha h1
  have e2 := l _ _ hb h2
  exact .inr (by unfold CMulW; omega)
theorem szN (n : Nat) (h : n ≤ 16777216 := by decide) : n ≤ sizeLine := h
theorem lg_lt {n k : Nat} (hk : 0 < k) (hn : n < 2 ^ k) : n.log2 < k := by
  by_cases h0 : n = 0
  · subst h0; simpa using hk
  · exact (Nat.log2_lt h0).mpr hn
theorem lg9 {n k : Nat} (hn : n < 2 ^ k) (hk : k ≤ 9000 := by decide) : n.log2 < 9000 := by
  refine lg_lt (by decide) (Nat.lt_of_lt_of_le hn (Nat.pow_le_pow_right (by decide) hk))
theorem lg_mono {n m k : Nat} (h : n ≤ m) (h2 : m.log2 < k) : n.log2 < k := by
  by_cases h0 : n = 0
  · subst h0; rw [Nat.log2_zero]; omega
  · exact (Nat.log2_lt h0).mpr (Nat.lt_of_le_of_lt h ((Nat.log2_lt (by omega)).mp h2))
theorem gcd_pos_r {a b : Int} (h : 0 < b) : 0 < (Int.gcd a b : Int) := by
  have : 0 < Nat.gcd a.natAbs b.natAbs := Nat.gcd_pos_of_pos_right _ (by omega)
  exact Int.ofNat_lt.mpr this
theorem gcd_le_r {a b : Int} (h : 0 < b) : Int.gcd a b ≤ b.natAbs := Nat.gcd_le_right _ (by omega)
theorem gcd_abs {a b : Int} : Int.gcd (if a < 0 then -a else a) b = Int.gcd a b := by
  split
  · exact Int.neg_gcd
  · rfl
theorem gcd_step {i j : Int} (hi : 0 ≤ i) (hj : 0 < j) : Int.gcd j (i % j) = Int.gcd i j := by
  obtain ⟨a, rfl⟩ := Int.eq_ofNat_of_zero_le hi
  obtain ⟨b, rfl⟩ := Int.eq_ofNat_of_zero_le (Int.le_of_lt hj)
  show Nat.gcd b ((a : Int) % (b : Int)).natAbs = Nat.gcd a b
  rw [show ((a : Int) % (b : Int)).natAbs = a % b from rfl, Nat.gcd_comm b, ← Nat.gcd_rec, Nat.gcd_comm]
/-- a pair in lowest terms -/
def low (a b : Int) : D := .tup [.int (a / Int.gcd a b), .int (b / Int.gcd a b)]
theorem res_at {m : M} {p : Addr} {ds : List D} (h : m p = some (.lst ds)) : res m (.ref p) = .lst ds := by
  unfold res
  simp only [h]
section
variable {m : M} {Q : Kd} {x y : D}
theorem kLen_rol {ds : List D} (e : res m x = .rol ds) (q : Q (.int ds.length) m) : kLen [x] m Q := by unfold kLen; refine ⟨?_⟩; simp only [e]; exact q
theorem modI {i j : Int} (h : 0 < j) (q : Q (.int (i % j)) m) : oModU (.int i) (.int j) m Q := by unfold oModU oI; refine ⟨?_⟩; exact ⟨h, q⟩
theorem divI {i j : Int} (h : 0 < j) (h2 : j.natAbs.log2 < 9000) (q : Q (.int (i / j)) m) : oDivU (.int i) (.int j) m Q := by unfold oDivU oI; refine ⟨?_⟩; exact ⟨⟨h, h2⟩, q⟩
theorem mulI {i j : Int} (h : COk i j) (q : Q (.int (i * j)) m) : oMulU (.int i) (.int j) m Q := by unfold oMulU; refine ⟨?_⟩; exact ⟨h, q⟩
theorem mulS {z : Str} {n : Int} (h1 : n ≤ 100000) (h2 : -100000 ≤ n) (h3 : z.length ≤ 100) (q : Q (.str ⟨(List.replicate n.toNat z.cps.toList).flatten.toArray⟩) m) : oMulU (.str z) (.int n) m Q := by unfold oMulU; refine ⟨?_⟩; exact ⟨⟨h1, h2, h3⟩, q⟩
theorem powI {i j : Int} (h : 0 ≤ j) (h2 : j ≤ 1000000) (h3 : i.natAbs < 2 ^ 64) (q : Q (.int (i ^ j.toNat)) m) : oPowU (.int i) (.int j) m Q := by unfold oPowU oI; refine ⟨?_⟩; exact ⟨⟨h, h2, h3⟩, q⟩
end
theorem eqD_pair {a b c d : Int} : eqD (.tup [.int a, .int b]) (.tup [.int c, .int d]) = (decide (a = c) && decide (b = d)) := by
  simp [eqD, py, pys, PyData.eqv, PyData.eqvAll, Bool.beq_eq_decide_eq]
theorem low_is {a b : Int} (hb : 0 < b) : (decide (a / (Int.gcd a b : Int) = a) && decide (b / (Int.gcd a b : Int) = b)) = decide (Int.gcd a b = 1) := by
  have hg := gcd_pos_r (a := a) hb
  generalize Int.gcd a b = g at *
  by_cases h : g = 1
  · subst h; simp
  · have h1 : ¬ b / (g : Int) = b := by
      intro e
      have : b / (g : Int) < b := Int.ediv_lt_self_of_pos_of_ne_one hb (by omega)
      omega
    simp [h, h1]
theorem rng_of {lo : Int} {n i : Nat} {d : D} (h : (rngD lo n)[i]? = some d) : i < n ∧ d = .int (lo + (i : Int)) := by
  have hi : i < n := by
    by_cases q : i < n
    · exact q
    · rw [List.getElem?_eq_none (by rw [rngD_len]; omega)] at h; cases h
  rw [rngD_get hi] at h
  cases h
  exact ⟨hi, rfl⟩
theorem rng0_of {n i : Nat} {d : D} (h : (rngD 0 n)[i]? = some d) : i < n ∧ d = .int (i : Int) := by
  obtain ⟨h1, h2⟩ := rng_of h
  rw [Int.zero_add] at h2
  exact ⟨h1, h2⟩
theorem low_num {a b : Int} {N : Nat} (ha : a.natAbs < N) (hb : b.natAbs < N) (hb0 : 0 < b) : ∃ i j : Int, low a b = .tup [.int i, .int j] ∧ i.natAbs < N ∧ j.natAbs < N ∧ 0 < j ∧ Int.gcd i j = 1 ∧ i * b = a * j := by
  have hg := gcd_pos_r (a := a) hb0
  refine ⟨_, _, rfl, Nat.lt_of_le_of_lt (Int.natAbs_ediv_le_natAbs _ _) ha, Nat.lt_of_le_of_lt (Int.natAbs_ediv_le_natAbs _ _) hb, Int.ediv_pos_of_pos_of_dvd hb0 (by omega) (Int.gcd_dvd_right ..), Int.gcd_ediv_gcd_ediv_gcd (by omega), ?_⟩
  obtain ⟨u, hu⟩ := Int.gcd_dvd_left a b
  obtain ⟨v, hv⟩ := Int.gcd_dvd_right a b
  generalize (Int.gcd a b : Int) = g at *
  rw [hu, hv, Int.mul_ediv_cancel_left _ (by omega), Int.mul_ediv_cancel_left _ (by omega)]
  rw [← Int.mul_assoc, Int.mul_comm u g]
/-! ### a power of ten from its text -/
theorem ten_list (k : Nat) : ((Str.ofString "1") ++ (⟨(List.replicate (k : Int).toNat (Str.ofString "0").cps.toList).flatten.toArray⟩ : Str) : Str).cps.toList = 49 :: List.replicate k 48 := by
  show ((Str.ofString "1").cps ++ (List.replicate k [48]).flatten.toArray).toList = _
  rw [Array.toList_append]
  show [49] ++ _ = _
  have : ∀ k : Nat, (List.replicate k [48]).flatten = List.replicate k 48 := fun k => by
    induction k with
    | zero => rfl
    | succ k ih => rw [List.replicate_succ, List.flatten_cons, ih]; rfl
  rw [this]
  rfl
theorem ten_val (k : Nat) : ∀ a : Nat, (List.replicate k 48).foldl (fun acc c => acc * 10 + (c - 48)) a = a * 10 ^ k := by
  induction k with
  | zero => intro a; simp
  | succ k ih =>
    intro a
    rw [List.replicate_succ, List.foldl_cons, ih]
    show (a * 10 + 0) * 10 ^ k = _
    rw [Nat.pow_succ]
    simp [Nat.mul_assoc, Nat.mul_comm, Nat.mul_left_comm]
theorem ten_len (k : Nat) : ((Str.ofString "1") ++ (⟨(List.replicate (k : Int).toNat (Str.ofString "0").cps.toList).flatten.toArray⟩ : Str) : Str).length = k + 1 := by
  have h := congrArg List.length (ten_list k)
  rw [Array.length_toList, List.length_cons, List.length_replicate] at h
  exact h
theorem ten_text (k : Nat) (hk : k ≤ 630) : intText? ((Str.ofString "1") ++ (⟨(List.replicate (k : Int).toNat (Str.ofString "0").cps.toList).flatten.toArray⟩ : Str)) = some (10 ^ k) := by
  have h := intText_digits (x := (Str.ofString "1") ++ (⟨(List.replicate (k : Int).toNat (Str.ofString "0").cps.toList).flatten.toArray⟩ : Str)) (by
    rw [ten_list]
    intro c hc
    rw [List.mem_cons] at hc
    rcases hc with rfl | hc
    · decide
    · rw [(List.mem_replicate.mp hc).2]; decide) (by rw [ten_list]; simp) (by rw [ten_len]; omega)
  rw [h, ten_list]
  have e : NumText.digitsVal (49 :: List.replicate k 48) = 10 ^ k := by
    unfold NumText.digitsVal
    rw [List.foldl_cons, ten_val]
    simp
  rw [e]
  simp
/-! ### a drawing state, as data -/
def DrSt (ds : List D) : Prop := ∃ a b c : Int, ds = [.int a, .int b, .int c] ∧ 0 ≤ b ∧ (a = 0 ∨ a ≠ 0 ∧ b < 2147483647)
def StAt (p : Addr) (m m' : M) : Prop := ∃ ds, DrSt ds ∧ m' = upM m p (.lst ds)
theorem StAt.at {p : Addr} {m m' : M} (h : StAt p m m') : ∃ ds, DrSt ds ∧ m' p = some (.lst ds) := by
  obtain ⟨ds, h1, rfl⟩ := h
  exact ⟨ds, h1, upM_same⟩
theorem StAt.self {p : Addr} {m m' : M} (h : StAt p m m') : StAt p m' m' := by
  obtain ⟨ds, h1, rfl⟩ := h
  exact ⟨ds, h1, upM_upM.symm⟩
theorem StAt.trans {p : Addr} {m m' m2 : M} (h : StAt p m m') (h2 : StAt p m' m2) : StAt p m m2 := by
  obtain ⟨ds, h1, rfl⟩ := h
  obtain ⟨ds2, h2, rfl⟩ := h2
  exact ⟨ds2, h2, upM_upM⟩
theorem StAt.ne {p a : Addr} {m m' : M} (h : StAt p m m') (ha : a ≠ p) : m' a = m a := by
  obtain ⟨ds, h1, rfl⟩ := h
  exact upM_ne ha
theorem StAt.mk {p : Addr} {m : M} {ds : List D} (h : m p = some (.lst ds)) (s : DrSt ds) : StAt p m m := ⟨ds, s, by
  funext b
  by_cases e : b = p
  · subst e; rw [h, upM_same]
  · rw [upM_ne e]⟩
end Z

/-! Z13: a statement that is never reached; zip. -/
namespace Z
open PySem PySem.Spec PyProof.Rows L2
def tNever2 : TS2 := fun _ _ _ => False
theorem qs_never {X : Cx} {ω : Bx} {s : Stmt} : PS2 X ω s tNever2 := ⟨fun S hm q => q.elim⟩
/-- pairs, as zip yields them -/
def zipD (xs ys : List D) : List D := (xs.zip ys).map fun p => .tup [p.1, p.2]
theorem zipD_len {xs ys : List D} : (zipD xs ys).length = min xs.length ys.length := by unfold zipD; rw [List.length_map, List.length_zip]
theorem zipD_get {xs ys : List D} {i : Nat} {x y : D} (h1 : xs[i]? = some x) (h2 : ys[i]? = some y) : (zipD xs ys)[i]? = some (.tup [x, y]) := by
  unfold zipD
  rw [List.getElem?_map, List.getElem?_zip_eq_some (z := (x, y)) |>.mpr ⟨h1, h2⟩]
  rfl
@[irreducible] def zipK (R : List D → (M → Prop) → M → Prop) (a b : D) (m1 : M) : Prop := Box <| match res m1 a, res m1 b with
  | .tup xs, .tup ys => R (zipD xs ys) (fun _ => True) m1
  | x, y => ∃ xs ys, lsD x = some xs ∧ lsD y = some ys ∧ R (zipD xs ys) (fun m' => lsD (res m' a) = some xs ∧ lsD (res m' b) = some ys) m1
def iZipU (ta : TA2) : TI2 := fun g m R => ta g m fun ds m1 => match ds with
  | [a, b] => zipK R a b m1
  | _ => False
theorem zipK_tup {R : List D → (M → Prop) → M → Prop} {a b : D} {m1 : M} {xs ys : List D} (e1 : res m1 a = .tup xs) (e2 : res m1 b = .tup ys) (h : R (zipD xs ys) (fun _ => True) m1) : zipK R a b m1 := by unfold zipK; refine ⟨?_⟩; rw [e1, e2]; exact h
theorem zipK_lst {R : List D → (M → Prop) → M → Prop} {a b : D} {m1 : M} {xs ys : List D} (e1 : lsD (res m1 a) = some xs) (e2 : lsD (res m1 b) = some ys) (h : R (zipD xs ys) (fun m' => lsD (res m' a) = some xs ∧ lsD (res m' b) = some ys) m1) : zipK R a b m1 := by
  unfold zipK; refine ⟨?_⟩
  split
  · rename_i q _; rw [q] at e1; cases e1
  · exact ⟨xs, ys, e1, e2, h⟩
section
variable {X : Cx} {ω : Bx} {e e2 : Expr}
theorem Reps.two {K : PySem.W.Frag} {G : Hp} {vs : List V} {a b : D} (r : Reps K G vs [a, b]) : ∃ v w, vs = [v, w] ∧ Rep K G v a ∧ Rep K G w b := by
  cases r with
  | cons r1 r2 =>
    cases r2 with
    | cons r2 r3 =>
      cases r3
      exact ⟨_, _, rfl, r1, r2⟩
theorem zip_step {K : PySem.W.Frag} {m : M} {H : Hp} (hm : MemOk K m H) {T : Addr} (hT : H T = none) {x y : V} {dx dy : D} (rx : Rep K (hid m H) x dx) (ry : Rep K (hid m H) y dy) :
    Step K m H m (upd H T (.tup [x, y])) ∧ Rep K (hid m (upd H T (.tup [x, y]))) (.ref T) (.tup [dx, dy]) := by
  have st := Step.new (K := K) hm hT (o := .tup [x, y])
  exact ⟨st, .tup (SqT.of (Step.new_at hm hT)) (.cons (rx.mono st.ex) (.cons (ry.mono st.ex) .nil))⟩
theorem zipU {ta : TA2} {p pos tpos : Pos} {elts : List Expr} {kk : Nat} (hg : Gl X "zip") (hm : X.mg "zip" = none) (ha : PA2 X ω [e, e2] ta)
    (hs : starEach [e, e2] X.env = (false, eval e X.env) :: starEach [e2] X.env := by rfl) (hpl : (backTo pos (starEach [e2] X.env)).any (·.1) = false := by rfl) :
    PI2 X ω (.Tuple elts kk tpos) (.Call (.Name "zip" p) [e, e2] [] pos) (iZipU ta) :=
  (RZ.pi_zipA hg hm pa_sem hs hpl).to2 fun σ H g m R S hmm q => (ha.sem S hmm q).mono fun vs H1 ⟨ds, m1, s1, r1, q1⟩ => by
    dsimp only at q1
    split at q1
    · rename_i a b
      obtain ⟨v1, v2, rfl, ra, rb⟩ := r1.two
      unfold zipK at q1; replace q1 := q1.out
      split at q1
      · rename_i xs ys e1 e2
        obtain ⟨A, us, rfl, h1, h2⟩ := tupOf ra e1
        obtain ⟨B, ws, rfl, h3, h4⟩ := tupOf rb e2
        have ta := repT ra e1
        have tb := repT rb e2
        refine ⟨A, B, us, ws, rfl, .inr ⟨h1, h3, _, _, m1, s1, ⟨fun i m' H' st hk hi => ?_, fun i m' H' st hk hi => ?_⟩, q1⟩⟩
        · obtain ⟨A', us', e3, k1, k2⟩ := tupOf (m := m') (ta.mono st.ex) rfl
          obtain ⟨B', ws', e4, k3, k4⟩ := tupOf (m := m') (tb.mono st.ex) rfl
          cases e3; cases e4
          rw [zipD_len] at hi
          obtain ⟨dx, x, hdx, hx, rx⟩ := k2.inj_get (i := i) (by omega)
          obtain ⟨dy, y, hdy, hy, ry⟩ := k4.inj_get (i := i) (by omega)
          refine ⟨⟨us', ws', x, y, k1, k3, hx, hy⟩, fun v H'' yy => ?_⟩
          obtain ⟨T, x', y', rfl, hT, rfl, g1, g2⟩ := yy
          have := g1 _ k1
          rw [hx] at this; cases this
          have := g2 _ k3
          rw [hy] at this; cases this
          obtain ⟨st2, rr⟩ := zip_step st.mem hT rx ry
          exact ⟨_, zipD_get hdx hdy, st2, rr⟩
        · obtain ⟨A', us', e3, k1, k2⟩ := tupOf (m := m') (ta.mono st.ex) rfl
          obtain ⟨B', ws', e4, k3, k4⟩ := tupOf (m := m') (tb.mono st.ex) rfl
          cases e3; cases e4
          rw [zipD_len] at hi
          exact ⟨us', ws', k1, k3, by rw [k2.length, k4.length]; omega⟩
      · obtain ⟨xs, ys, e1, e2, q1⟩ := q1
        obtain ⟨A, us, rfl, h1, h2⟩ := lstOf ra s1.mem e1
        obtain ⟨B, ws, rfl, h3, h4⟩ := lstOf rb s1.mem e2
        refine ⟨A, B, us, ws, rfl, .inl ⟨h1, h3, _, _, m1, s1, ⟨fun i m' H' st hk hi => ?_, fun i m' H' st hk hi => ?_⟩, q1⟩⟩
        · obtain ⟨A', us', e3, k1, k2⟩ := lstOf (ra.mono st.ex) st.mem hk.1
          obtain ⟨B', ws', e4, k3, k4⟩ := lstOf (rb.mono st.ex) st.mem hk.2
          cases e3; cases e4
          rw [zipD_len] at hi
          obtain ⟨dx, x, hdx, hx, rx⟩ := k2.inj_get (i := i) (by omega)
          obtain ⟨dy, y, hdy, hy, ry⟩ := k4.inj_get (i := i) (by omega)
          refine ⟨⟨us', ws', x, y, k1, k3, hx, hy⟩, fun v H'' yy => ?_⟩
          obtain ⟨T, x', y', rfl, hT, rfl, g1, g2⟩ := yy
          have := g1 _ k1
          rw [hx] at this; cases this
          have := g2 _ k3
          rw [hy] at this; cases this
          obtain ⟨st2, rr⟩ := zip_step st.mem hT rx ry
          exact ⟨_, zipD_get hdx hdy, st2, rr⟩
        · obtain ⟨A', us', e3, k1, k2⟩ := lstOf (ra.mono st.ex) st.mem hk.1
          obtain ⟨B', ws', e4, k3, k4⟩ := lstOf (rb.mono st.ex) st.mem hk.2
          cases e3; cases e4
          rw [zipD_len] at hi
          exact ⟨us', ws', k1, k3, by rw [k2.length, k4.length]; omega⟩
    · exact q1.elim
end
end Z

/-! Z14: fractions as data; comprehensions over a row of known things. -/
namespace Z
open PySem PySem.Spec PyProof.Rows L2
theorem LcG.mk {tg : TG2} {tt : TT2} {te : TE2} {vs : List Nat} {g : Sl} {Q : Kd} {ds : List D} {keep : M → Prop} {m1 : M} (hl : ds.length ≤ sizeLine) (W : Nat → List D → M → Prop) (h0 : W 0 [] m1) (h : ∀ i acc m', W i acc m' →
  (∀ Dl, m' Dl = none → keep (upM m' Dl (.lst acc)) ∧ ∀ d, ds[i]? = some d → tg d (wipe2 g vs) (upM m' Dl (.lst acc)) fun g2 m2 => tt g2 m2 fun b m3 =>
    if b = true then te g2 m3 fun y m4 => ∃ m5, m4 = upM m5 Dl (.lst acc) ∧ m5 Dl = none ∧ W (i + 1) (acc ++ [y]) m5 else ∃ m5, m3 = upM m5 Dl (.lst acc) ∧ m5 Dl = none ∧ W (i + 1) acc m5) ∧ (i = ds.length → Q (.lst acc) m')) : LcG tg tt te vs g Q ds keep m1 := by
  unfold LcG; refine ⟨?_⟩; exact ⟨hl, W, h0, h⟩
theorem lc_genA {α : Type} {tg : TG2} {tt : TT2} {te : TE2} {vs : List Nat} {g : Sl} {m1 : M} {ds : List D} {keep : M → Prop} {Q : Kd} (as : List α) (f : α → D) (e : ds = as.map f) (en : α → Sl) (p : α → Bool) (F : α → D) (hl : as.length ≤ sizeLine) (hk : ∀ mm, Ext m1 mm → keep mm)
    (hg : ∀ a ∈ as, ∀ mm, Ext m1 mm → ∀ k : Sl → M → Prop, k (en a) mm → tg (f a) (wipe2 g vs) mm k) (ht : ∀ a ∈ as, ∀ mm, Ext m1 mm → ∀ k : Bool → M → Prop, k (p a) mm → tt (en a) mm k)
    (he : ∀ a ∈ as, p a = true → ∀ mm, Ext m1 mm → ∀ k : Kd, k (F a) mm → te (en a) mm k) (hq : Q (.lst ((as.filter p).map F)) m1) : LcG tg tt te vs g Q ds keep m1 := by
  subst e
  refine LcG.mk (by rw [List.length_map]; exact hl) (fun i acc m' => acc = ((as.take i).filter p).map F ∧ m' = m1) ⟨rfl, rfl⟩ ?_
  rintro i acc m' ⟨rfl, rfl⟩
  refine ⟨fun Dl hD => ⟨hk _ ⟨Dl, _, hD, rfl⟩, fun d hd => ?_⟩, fun e => by rw [e, List.length_map, List.take_length]; exact hq⟩
  rw [List.getElem?_map] at hd
  cases ha : as[i]? with
  | none => rw [ha] at hd; cases hd
  | some a =>
    rw [ha] at hd
    cases hd
    have hm := List.mem_of_getElem? ha
    have et : as.take (i + 1) = as.take i ++ [a] := by rw [List.take_add_one, ha] <;> rfl
    refine hg a hm _ ⟨Dl, _, hD, rfl⟩ _ (ht a hm _ ⟨Dl, _, hD, rfl⟩ _ ?_)
    by_cases hp : p a = true
    · rw [if_pos hp]
      refine he a hm hp _ ⟨Dl, _, hD, rfl⟩ _ ⟨m', rfl, hD, ?_, rfl⟩
      rw [et, List.filter_append, List.filter_cons, if_pos hp, List.map_append]
      rfl
    · rw [if_neg hp]
      refine ⟨m', rfl, hD, ?_, rfl⟩
      rw [et, List.filter_append, List.filter_cons, if_neg hp, List.map_append]
      exact (List.append_nil _).symm
/-- every thing yields one -/
theorem lc_mapA {α : Type} {tg : TG2} {te : TE2} {vs : List Nat} {g : Sl} {m1 : M} {ds : List D} {keep : M → Prop} {Q : Kd} (as : List α) (f : α → D) (e : ds = as.map f) (en : α → Sl) (F : α → D) (hl : as.length ≤ sizeLine) (hk : ∀ mm, Ext m1 mm → keep mm)
    (hg : ∀ a ∈ as, ∀ mm, Ext m1 mm → ∀ k : Sl → M → Prop, k (en a) mm → tg (f a) (wipe2 g vs) mm k) (he : ∀ a ∈ as, ∀ mm, Ext m1 mm → ∀ k : Kd, k (F a) mm → te (en a) mm k) (hq : Q (.lst (as.map F)) m1) : LcG tg tYes2 te vs g Q ds keep m1 := by
  refine lc_genA as f e en (fun _ => true) F hl hk hg (fun a _ mm _ k h => h) (fun a h _ mm hm k q => he a h mm hm k q) ?_
  rw [List.filter_eq_self.mpr fun _ _ => rfl]
  exact hq
/-- a state beside: each item may move it -/
theorem lc_st {tg : TG2} {te : TE2} {vs : List Nat} {g : Sl} {m1 : M} {ds : List D} {keep : M → Prop} {Q : Kd} {p : Addr} (P : D → Prop) (hs : StAt p m1 m1) (hl : ds.length ≤ sizeLine) (hk : ∀ mm, keep mm)
    (he : ∀ d ∈ ds, ∀ mm, StAt p mm mm → ∀ k : Kd, (∀ y mm', P y → StAt p mm mm' → k y mm') → tg d (wipe2 g vs) mm fun g2 m2 => te g2 m2 k) (hq : ∀ ys m', ys.length = ds.length → (∀ y ∈ ys, P y) → StAt p m1 m' → Q (.lst ys) m') : LcG tg tYes2 te vs g Q ds keep m1 := by
  refine LcG.mk hl (fun i acc m' => acc.length = i ∧ (∀ y ∈ acc, P y) ∧ StAt p m1 m') ⟨rfl, fun _ h => (by cases h), hs⟩ ?_
  rintro i acc m' ⟨rfl, hP, hm⟩
  refine ⟨fun Dl hD => ⟨hk _, fun d hd => ?_⟩, fun e => hq _ _ e hP hm⟩
  have hmem := List.mem_of_getElem? hd
  obtain ⟨st, hst, hat⟩ := hm.at
  have hne : p ≠ Dl := ne_ofM hat hD
  have h2 : StAt p (upM m' Dl (.lst acc)) (upM m' Dl (.lst acc)) := StAt.mk (by rw [upM_ne hne]; exact hat) hst
  refine he d hmem _ h2 _ fun y mm' hy hmm => ?_
  obtain ⟨st', hst', rfl⟩ := hmm
  refine ⟨upM m' p (.lst st'), upM_comm hne.symm, by rw [upM_ne hne.symm]; exact hD, by simp, ?_, hm.trans ⟨st', hst', rfl⟩⟩
  intro z hz
  rw [List.mem_append] at hz
  rcases hz with hz | hz
  · exact hP z hz
  · rw [List.mem_singleton] at hz; subst hz; exact hy
/-! ### fractions -/
abbrev Fr := Int × Int
def nD (p : Fr) : D := .tup [.int p.1, .int p.2]
def lowP (a b : Int) : Fr := (a / Int.gcd a b, b / Int.gcd a b)
theorem low_nD (a b : Int) : low a b = nD (lowP a b) := rfl
/-- a number in lowest terms -/
def Lo (p : Fr) : Prop := 0 < p.2 ∧ Int.gcd p.1 p.2 = 1
def Bd (N : Nat) (p : Fr) : Prop := p.1.natAbs < 2 ^ N ∧ p.2.natAbs < 2 ^ N
theorem Bd.mono {N N' : Nat} {p : Fr} (h : Bd N p) (hn : N ≤ N') : Bd N' p := ⟨Nat.lt_of_lt_of_le h.1 (Nat.pow_le_pow_right (by decide) hn), Nat.lt_of_lt_of_le h.2 (Nat.pow_le_pow_right (by decide) hn)⟩
theorem lowP_lo {a b : Int} (hb : 0 < b) : Lo (lowP a b) := by
  have hg := gcd_pos_r (a := a) hb
  exact ⟨Int.ediv_pos_of_pos_of_dvd hb (by omega) (Int.gcd_dvd_right ..), Int.gcd_ediv_gcd_ediv_gcd (by omega)⟩
theorem lowP_bd {a b : Int} {N : Nat} (h : Bd N (a, b)) : Bd N (lowP a b) := ⟨Nat.lt_of_le_of_lt (Int.natAbs_ediv_le_natAbs _ _) h.1, Nat.lt_of_le_of_lt (Int.natAbs_ediv_le_natAbs _ _) h.2⟩
theorem lowP_eq {a b : Int} (hb : 0 < b) : (lowP a b).1 * b = a * (lowP a b).2 := by
  have hg := gcd_pos_r (a := a) hb
  show a / _ * b = a * (b / _)
  obtain ⟨u, hu⟩ := Int.gcd_dvd_left a b
  obtain ⟨v, hv⟩ := Int.gcd_dvd_right a b
  generalize (Int.gcd a b : Int) = g at *
  rw [hu, hv, Int.mul_ediv_cancel_left _ (by omega), Int.mul_ediv_cancel_left _ (by omega)]
  rw [← Int.mul_assoc, Int.mul_comm u g]
theorem bdMul {a b : Int} {i j : Nat} (h1 : a.natAbs < 2 ^ i) (h2 : b.natAbs < 2 ^ j) : (a * b).natAbs < 2 ^ (i + j) := by
  rw [Int.natAbs_mul, Nat.pow_add]
  exact Nat.mul_lt_mul'' h1 h2
theorem bdAdd {a b : Int} {i : Nat} (h1 : a.natAbs < 2 ^ i) (h2 : b.natAbs < 2 ^ i) : (a + b).natAbs < 2 ^ (i + 1) := by
  rw [Nat.pow_succ]
  have := Int.natAbs_add_le a b
  omega
theorem bdSub {a b : Int} {i : Nat} (h1 : a.natAbs < 2 ^ i) (h2 : b.natAbs < 2 ^ i) : (a - b).natAbs < 2 ^ (i + 1) := by
  rw [Int.sub_eq_add_neg]
  exact bdAdd h1 (by rw [Int.natAbs_neg]; exact h2)
/-- the number of a and b, b not 0 -/
def mkP (a b : Int) : Fr := if b < 0 then lowP (-a) (-b) else lowP a b
theorem mk_low (a b : Int) : (if b < 0 then low (-a) (-b) else low a b) = nD (mkP a b) := by
  unfold mkP
  split <;> rfl
theorem mkP_pos {a b : Int} (h : 0 < b) : mkP a b = lowP a b := if_neg (by omega)
theorem mkP_lo {a b : Int} (h : b ≠ 0) : Lo (mkP a b) := by
  unfold mkP
  split
  · exact lowP_lo (by omega)
  · exact lowP_lo (by omega)
theorem mkP_bd {a b : Int} {N : Nat} (h : Bd N (a, b)) : Bd N (mkP a b) := by
  unfold mkP
  split
  · exact lowP_bd ⟨by rw [Int.natAbs_neg]; exact h.1, by rw [Int.natAbs_neg]; exact h.2⟩
  · exact lowP_bd h
theorem mkP_eq {a b : Int} (h : b ≠ 0) : (mkP a b).1 * b = a * (mkP a b).2 := by
  unfold mkP
  split
  · have := lowP_eq (a := -a) (b := -b) (by omega)
    rw [Int.mul_neg, Int.neg_mul] at this
    omega
  · exact lowP_eq (by omega)
def plusP (p q : Fr) : Fr := lowP (p.1 * q.2 + q.1 * p.2) (p.2 * q.2)
def lessP (p q : Fr) : Fr := lowP (p.1 * q.2 - q.1 * p.2) (p.2 * q.2)
def timesP (p q : Fr) : Fr := lowP (p.1 * q.1) (p.2 * q.2)
def shareP (p q : Fr) : Fr := mkP (p.1 * q.2) (p.2 * q.1)
def gapP (p q : Fr) : Int := p.1 * q.2 - q.1 * p.2
def sgI (g : Int) : Int := (if decide (0 < g) = true then 1 else 0) - (if decide (g < 0) = true then 1 else 0)
theorem sgI_pos {g : Int} (h : 0 < g) : sgI g = 1 := by unfold sgI; rw [decide_eq_true h, decide_eq_false (by omega : ¬ g < 0)]; rfl
theorem sgI_neg {g : Int} (h : g < 0) : sgI g = -1 := by unfold sgI; rw [decide_eq_true h, decide_eq_false (by omega : ¬ 0 < g)]; rfl
theorem sgI_zero : sgI 0 = 0 := rfl
theorem sgI_cases (g : Int) : (0 < g ∧ sgI g = 1) ∨ (g = 0 ∧ sgI g = 0) ∨ (g < 0 ∧ sgI g = -1) := by
  rcases (by omega : 0 < g ∨ g = 0 ∨ g < 0) with h | h | h
  · exact .inl ⟨h, sgI_pos h⟩
  · subst h; exact .inr (.inl ⟨rfl, rfl⟩)
  · exact .inr (.inr ⟨h, sgI_neg h⟩)
theorem gapP_swap (p q : Fr) : gapP q p = -gapP p q := by unfold gapP; omega
theorem gapP_self (p : Fr) : gapP p p = 0 := by unfold gapP; omega
theorem sgI_neg' (g : Int) : sgI (-g) = -sgI g := by
  rcases sgI_cases g with ⟨h, e⟩ | ⟨h, e⟩ | ⟨h, e⟩
  · rw [e, sgI_neg (by omega)]
  · subst h; rfl
  · rw [e, sgI_pos (by omega)]; rfl
theorem pos_mul {a b : Int} (h1 : 0 < a) (h2 : 0 < b) : 0 < a * b := Int.mul_pos h1 h2
theorem zipD_map {xs ys : List Fr} : zipD (xs.map nD) (ys.map nD) = (xs.zip ys).map fun pq => .tup [nD pq.1, nD pq.2] := by
  unfold zipD
  rw [List.zip_map, List.map_map]
  rfl
end Z

/-! Z15: == of plain data is being the same. -/
namespace Z
open PySem PySem.Spec PyProof.Rows L2
mutual
def plD : D → Bool
  | .non => true | .int _ => true | .str _ => true
  | .tup ds => plDs ds | .lst ds => plDs ds
  | .bl _ => false | .ty _ => false | .ref _ => false | .rol _ => false | .dic _ _ => false | .exc _ => false | .ptu _ => false | .fdi _ _ => false
def plDs : List D → Bool
  | [] => true
  | d :: r => plD d && plDs r
end
theorem plDs_iff : ∀ {ds : List D}, plDs ds = true ↔ ∀ d ∈ ds, plD d = true
  | [] => by simp [plDs]
  | d :: r => by simp only [plDs, Bool.and_eq_true, plDs_iff (ds := r), List.forall_mem_cons]
mutual
theorem eqv_pl : ∀ (x y : D), plD x = true → plD y = true → (PyData.eqv (py x) (py y) = true ↔ x = y)
  | .non, y, _, h => by cases y <;> simp [plD, py, PyData.eqv] at h ⊢
  | .int i, y, _, h => by cases y <;> simp [plD, py, PyData.eqv] at h ⊢
  | .str i, y, _, h => by cases y <;> simp [plD, py, PyData.eqv] at h ⊢
  | .tup xs, y, hx, h => by
    cases y with
    | tup ys =>
      simp only [plD] at hx h
      simp only [py, PyData.eqv, eqvs_pl xs ys hx h, D.tup.injEq]
    | _ => simp [plD, py, PyData.eqv] at h ⊢
  | .lst xs, y, hx, h => by
    cases y with
    | lst ys =>
      simp only [plD] at hx h
      simp only [py, PyData.eqv, eqvs_pl xs ys hx h, D.lst.injEq]
    | _ => simp [plD, py, PyData.eqv] at h ⊢
  | .bl _, _, h, _ => by cases h
  | .ty _, _, h, _ => by cases h
  | .ref _, _, h, _ => by cases h
  | .rol _, _, h, _ => by cases h
  | .dic _ _, _, h, _ => by cases h
  | .exc _, _, h, _ => by cases h
  | .ptu _, _, h, _ => by cases h
  | .fdi _ _, _, h, _ => by cases h
theorem eqvs_pl : ∀ (xs ys : List D), plDs xs = true → plDs ys = true → (PyData.eqvAll (pys xs) (pys ys) = true ↔ xs = ys)
  | [], [], _, _ => by simp [pys, PyData.eqvAll]
  | [], _ :: _, _, _ => by simp [pys, PyData.eqvAll]
  | _ :: _, [], _, _ => by simp [pys, PyData.eqvAll]
  | x :: xs, y :: ys, hx, hy => by
    simp only [plDs, Bool.and_eq_true] at hx hy
    simp only [pys, PyData.eqvAll, Bool.and_eq_true, eqv_pl x y hx.1 hy.1, eqvs_pl xs ys hx.2 hy.2, List.cons.injEq]
end
theorem eqD_same {x : D} (h : plD x = true) : eqD x x = true := (eqv_pl x x h h).mpr rfl
theorem eqD_not {x y : D} (h : plD x = true) (h2 : plD y = true) (e : x ≠ y) : eqD x y = false := by
  cases q : eqD x y with
  | false => rfl
  | true => exact absurd ((eqv_pl x y h h2).mp q) e
theorem all_nD {R : Fr → Prop} : ∀ {ys : List D}, (∀ y ∈ ys, ∃ p : Fr, y = nD p ∧ R p) → ∃ ps : List Fr, ys = ps.map nD ∧ ∀ p ∈ ps, R p
  | [], _ => ⟨[], rfl, fun _ h => by cases h⟩
  | y :: ys, h => by
    obtain ⟨p, e, hp⟩ := h y List.mem_cons_self
    obtain ⟨ps, e2, h2⟩ := all_nD fun z hz => h z (List.mem_cons_of_mem _ hz)
    subst e e2
    refine ⟨p :: ps, rfl, fun q hq => ?_⟩
    rw [List.mem_cons] at hq
    rcases hq with rfl | hq
    · exact hp
    · exact h2 q hq
theorem cut_hi {α : Type} (xs : List α) (k : Nat) : cutD xs none (some (k : Int)) = xs.take k := by
  unfold cutD
  rw [HT.sIx_none, HT.sIx_nat, List.drop_zero, Nat.sub_zero]
  by_cases h : k ≤ xs.length
  · rw [Nat.min_eq_left h]
  · rw [Nat.min_eq_right (by omega), List.take_length, List.take_of_length_le (by omega)]
theorem cut_lo {α : Type} (xs : List α) (k : Nat) : cutD xs (some (k : Int)) none = xs.drop k := by
  unfold cutD
  rw [HT.sIx_none, HT.sIx_nat]
  by_cases h : k ≤ xs.length
  · rw [Nat.min_eq_left h, List.take_of_length_le (by rw [List.length_drop]; omega)]
  · rw [Nat.min_eq_right (by omega), Nat.sub_self, List.take_zero, List.drop_eq_nil_of_le (by omega)]
section
variable {m : M} {Q : Kd} {x y : D}
theorem sl_t {xs : List D} {lo hi : Option Int} (e : res m x = .tup xs) (q : Q (.tup (cutD xs lo hi)) m) : sU x lo hi m Q := by unfold sU; refine ⟨?_⟩; rw [e]; exact q
theorem sl_l {xs : List D} {lo hi : Option Int} (e : lsD (res m x) = some xs) (q : Q (.lst (cutD xs lo hi)) m) : sU x lo hi m Q := by
  unfold sU
  refine ⟨?_⟩
  cases h : res m x <;> rw [h] at e <;> first | (cases e; exact q) | cases e
theorem sl_s {z : Str} {lo hi : Option Int} (e : res m x = .str z) (h : z.length ≤ sizeLine) (q : Q (.str (cutS z lo hi)) m) : sU x lo hi m Q := by unfold sU; refine ⟨?_⟩; rw [e]; exact ⟨h, q⟩
/-- the same data -/
theorem eq_same {v : D} (e1 : res m x = v) (e2 : res m y = v) (p : plD v = true) (o : okD 60 v = true) (q : Q (.bl true) m) : oEq x y m Q := eq_of (by rw [e1]; exact o) (by rw [e2]; exact o) (by rw [e1, e2]; exact eqD_same p) q
theorem ne_same {v : D} (e1 : res m x = v) (e2 : res m y = v) (p : plD v = true) (o : okD 60 v = true) (q : Q (.bl false) m) : oNe x y m Q := ne_of (b := true) (by rw [e1]; exact o) (by rw [e2]; exact o) (by rw [e1, e2]; exact eqD_same p) q
theorem eq_pl {v w : D} (e1 : res m x = v) (e2 : res m y = w) (p : plD v = true) (p2 : plD w = true) (o : okD 60 v = true) (o2 : okD 60 w = true) (ht : v = w → Q (.bl true) m) (hf : v ≠ w → Q (.bl false) m) : oEq x y m Q := by
  by_cases h : v = w
  · subst h; exact eq_same e1 e2 p o (ht rfl)
  · exact eq_of (by rw [e1]; exact o) (by rw [e2]; exact o2) (by rw [e1, e2]; exact eqD_not p p2 h) (hf h)
theorem ne_pl {v w : D} (e1 : res m x = v) (e2 : res m y = w) (p : plD v = true) (p2 : plD w = true) (o : okD 60 v = true) (o2 : okD 60 w = true) (ht : v = w → Q (.bl false) m) (hf : v ≠ w → Q (.bl true) m) : oNe x y m Q := by
  by_cases h : v = w
  · subst h; exact ne_same e1 e2 p o (ht rfl)
  · exact ne_of (b := false) (by rw [e1]; exact o) (by rw [e2]; exact o2) (by rw [e1, e2]; exact eqD_not p p2 h) (hf h)
theorem mulL {xs : List D} {k : Int} (h1 : -(2 ^ 63) ≤ k) (h2 : k < 2 ^ 63) (h3 : xs.length * k.toNat ≤ sizeLine) (q : Q (.lst (List.replicate k.toNat xs).flatten) m) : oMulU (.lst xs) (.int k) m Q := by
  unfold oMulU; exact ⟨⟨⟨h1, h2, h3⟩, q⟩⟩
end
end Z

/-! Z16: a module's constants; calls by defaults; join; sorted. -/
namespace Z
open PySem PySem.Spec PyProof.Rows L2
/-- a written tuple of a module -/
theorem constT {K : PySem.W.Frag} {mg : Str → Option Value} {x : Str} {T : Addr} {od : Option Addr} {its : Array Value} {n : Nat} {sl : Array (Option Value)} {vs : List V} {ds : List D} (e : mg x = some (.ref T))
    (l : K.lookup T = some ⟨.type "tuple", od, .seq its n, sl⟩) (hv : Vals vs its.toList) (hs : its.size ≤ sizeLine) (hr : ∀ G, Reps K G vs ds) : ConstAt K mg x (.tup ds) :=
  ⟨.ref T, .ref T, e, rfl, fun G => .tup (.inr ⟨_, its, n, l, rfl, rfl, hs, hv⟩) (hr G)⟩
theorem constS {K : PySem.W.Frag} {mg : Str → Option Value} {x : Str} {z : Str} {t : Tok} (e : mg x = some (.str z t)) : ConstAt K mg x (.str z) := ⟨.str z, .str z t, e, ⟨t, rfl⟩, fun G => .str z⟩
theorem constI {K : PySem.W.Frag} {mg : Str → Option Value} {x : Str} {z : Int} {t : Tok} (e : mg x = some (.int z t)) : ConstAt K mg x (.int z) := ⟨.int z, .int z t, e, ⟨t, rfl⟩, fun G => .int z⟩
/-- a def whose last parameters have defaults, called without them -/
structure DefDf (P : Program) (w : World) (K : PySem.W.Frag) (mg : Str → Option Value) (base : Heap) (k : Nat) (x : Str) (sp : Sp2) (dd : List D) : Prop where
  ex : ∃ (f : Addr) (fd : FuncData) (ps : List Str) (dus : List Value) (dvs : List V), FnOk P w K mg base CX0 k f fd ps (lift K sp) ∧ mg x = some (.ref f) ∧ PySem.W.keepIn K (.ref f) = true ∧ Binds K fd ps dus ∧ Vals dvs dus ∧ ∀ G, Reps K G dvs dd
def tCallD (sp : Sp2) (dd : List D) (t : TA2) : TE2 := fun g m Q => t g m fun ds m1 => sp (ds ++ dd) m1 Q no2
section
variable {X : Cx} {ω : Bx} {k kk : Nat} {sp : Sp2} {x : Str} {p pos : Pos} {e o : Expr} {es : List Expr} {t : TA2} {te to : TE2} {dd : List D}
theorem callDU (D : DefDf X.prog X.w X.K X.mg X.base k x sp dd) (hr : Room kk X.A) (hg : Gl X x) (ha : PA2 X ω (e :: es) t) (hk : k ≤ kk := by decide) (hdb : (x == ("__debug__" : Str)) = false := by decide)
    (he : starEach (e :: es) X.env = (false, eval e X.env) :: starEach es X.env := by rfl) (hpl : (backTo pos (starEach es X.env)).any (·.1) = false := by rfl) : PE2 X ω (.Call (.Name x p) (e :: es) [] pos) (tCallD sp dd t) := by
  obtain ⟨f, fd, ps, dus, dvs, F, h1, h2, h3, h4, h5⟩ := D.ex
  exact (q_call (dd := dd) F (hr.mono hk) hg h1 h2 h3 h4 h5 ha hdb he hpl).imp fun g m Q h => h
/-! ### join -/
@[irreducible] def joinK (a : Str) (y : D) (m : M) (Q : Kd) : Prop := Box <| ∃ ys : List Str, itsD (res m y) = some (ys.map D.str) ∧ (ys.map (·.length)).sum + ys.length * a.length ≤ 16777216 ∧ Q (.str (Txt.join a ys)) m
theorem joinK_of {z : Str} {y : D} {m : M} {Q : Kd} (ys : List Str) (e : itsD (res m y) = some (ys.map D.str)) (h : (ys.map (·.length)).sum + ys.length * z.length ≤ 16777216) (q : Q (.str (Txt.join z ys)) m) : joinK z y m Q := by unfold joinK; exact ⟨⟨ys, e, h, q⟩⟩
def tJoin (to te : TE2) : TE2 := fun g m Q => to g m fun z m1 => match z with
  | .str a => te g m1 fun y m2 => joinK a y m2 Q
  | _ => False
theorem m_join1M {apos : Pos} (ho : PE2 X ω o to) (he : PE2 X ω e te) (hs : starEach [e] X.env = [(false, eval e X.env)] := by rfl) (hbase : attributeBase o "join" X.env (eval o X.env) = eval o X.env := by rfl) (hline : (apos.endLine == pos.line) = true := by rfl) :
    PE2 X ω (.Call (.Attribute o "join" apos) [e] [] pos) (tJoin to te) :=
  (pe_join pe_sem pe_sem hs hbase hline).to2 fun σ H g m Q S hm q => (ho.sem S hm q).mono fun v H1 ⟨d, m1, s1, r1, q1⟩ => by
    dsimp only at q1
    split at q1
    · rename_i a
      cases r1
      refine ⟨⟨a, rfl⟩, (he.sem (S.mono s1.ex) s1.mem q1).mono fun v2 H2 ⟨d2, m2, s2, r2, q2⟩ => ?_⟩
      unfold joinK at q2
      obtain ⟨ys, e2, h3, h4⟩ := q2.out
      obtain ⟨b, ws, rfl, k1, k2⟩ := itsOf r2 s2.mem e2
      have := Reps.strs k2
      subst this
      exact ⟨a, b, ys, rfl, rfl, k1, h3, P2.go (s1.trans s2) (.same s2.mem (.str _) h4)⟩
    · exact q1.elim
/-! ### sorted -/
@[irreducible] def sortK (x : D) (m : M) (Q : Kd) : Prop := Box <| (∃ ns : List Int, lsD (res m x) = some (ns.map D.int) ∧ ns.length < 64 ∧ ∀ ys : List Int, ys.Perm ns → ys.Pairwise (· ≤ ·) → Q (.lst (ys.map D.int)) m) ∨
  (∃ zs : List Str, lsD (res m x) = some (zs.map D.str) ∧ zs.length < 64 ∧ ∀ ys : List Str, ys.Perm zs → sortedS ys = true → Q (.lst (ys.map D.str)) m)
theorem sortK_s {x : D} {m : M} {Q : Kd} (zs : List Str) (e : lsD (res m x) = some (zs.map D.str)) (h : zs.length < 64) (q : ∀ ys : List Str, ys.Perm zs → sortedS ys = true → Q (.lst (ys.map D.str)) m) : sortK x m Q := by unfold sortK; exact ⟨.inr ⟨zs, e, h, q⟩⟩
theorem sortK_i {x : D} {m : M} {Q : Kd} (zs : List Int) (e : lsD (res m x) = some (zs.map D.int)) (h : zs.length < 64) (q : ∀ ys : List Int, ys.Perm zs → ys.Pairwise (· ≤ ·) → Q (.lst (ys.map D.int)) m) : sortK x m Q := by unfold sortK; exact ⟨.inl ⟨zs, e, h, q⟩⟩
def kSorted : RC2 := fun xs m Q => match xs with | [x] => sortK x m Q | _ => False
theorem kc_sorted {K : PySem.W.Frag} : CvC K (fun vs H Q => rSorted K vs H Q ∨ rSortedS K vs H Q) kSorted := fun H m ds vs Q Q' hm r h k => by
  unfold kSorted at h
  split at h
  · rename_i x
    unfold sortK at h
    cases r with
    | cons r1 r2 =>
      cases r2
      rcases h.out with ⟨ns, e, hl, q⟩ | ⟨zs, e, hl, q⟩
      · obtain ⟨a, ws, rfl, h1, h2⟩ := lstOf r1 hm e
        have := Reps.ints h2
        subst this
        exact .inl ⟨a, ns, rfl, h1, hl, fun ns' p hp hs hq => k _ _ (.new hm hq (.lst (Step.new_at hm hq) ((Reps.of_ints ns').mono (Step.new hm hq).ex)) (q ns' hp hs))⟩
      · obtain ⟨a, ws, rfl, h1, h2⟩ := lstOf r1 hm e
        have := Reps.strs h2
        subst this
        have rs : ∀ G (ys : List Str), Reps K G (ys.map V.str) (ys.map D.str) := fun G ys => by
          induction ys with
          | nil => exact .nil
          | cons y ys ih => exact .cons (.str y) ih
        exact .inr ⟨a, zs, rfl, h1, hl, fun ys p hp hs hq => k _ _ (.new hm hq (.lst (Step.new_at hm hq) (rs _ ys)) (q ys hp hs))⟩
  · exact h.elim
theorem bt_sorted : bootBuiltins "sorted" = some (.builtin "sorted") := by decide +kernel
theorem sortedU (hg : Gl X "sorted") (hm : X.mg "sorted" = none) (ha : PA2 X ω (e :: es) t) (he : starEach (e :: es) X.env = (false, eval e X.env) :: starEach es X.env := by rfl) (hpl : (backTo pos (starEach es X.env)).any (·.1) = false := by rfl) : PE2 X ω (.Call (.Name "sorted" p) (e :: es) [] pos) (tCB2 kSorted t) :=
  q_callB (cr_sorted.or cr_sortedS) kc_sorted hg hm bt_sorted ha (by decide) (by decide) he hpl
end
end Z

/-! Z17: a comprehension's list that is owned; texts. -/
namespace Z
open PySem PySem.Spec PyProof.Rows L2
def ownQ (Q : Kd) : Kd := fun d m => match d with
  | .lst acc => ∀ p, m p = none → Q (.ref p) (upM m p (.lst acc))
  | _ => False
def tLcM (ti : TI2) (tg : TG2) (tt : TT2) (te : TE2) (vs : List Nat) : TE2 := fun g m Q => ti g m fun ds keep m1 => LcG tg tt te vs g (ownQ Q) ds keep m1
section
variable {X : Cx} {ω : Bx}
theorem setLcM {i : Nat} {y : Str} {py : Pos} {elt tg iter : Expr} {ifs : List Expr} {scope : Scope} {own : List (Str × Nat)} {pos spos : Pos} {ti : TI2} {g : TG2} {tt : TT2} {te : TE2} (hc : X.calm = true) (hN : X.N.Nodup) (hy : X.N[i]? = some y) (hyl : X.env.scope.names.lookup y = some .local)
    (hsw : swapsWith (.ListComp elt [⟨tg, iter, ifs, 0⟩] scope pos) (some (.Name y py)) spos.line X.env = pure true) (hi : PI2 X ω tg iter ti) (ok : BlkOk X.N X.env.scope scope own)
    (hg : ∀ (s : Shared) (H : Hp) (C : Addr) (cl : List (Str × Addr)) (fp : List Addr), PGc (X.blk s H scope (compEnvC scope cl C X.env) fp) ω tg (own.map (·.2)) g)
    (ht : ∀ (s : Shared) (H : Hp) (C : Addr) (cl : List (Str × Addr)) (fp : List Addr), PTs2 (X.blk s H scope (compEnvC scope cl C X.env) fp) ω ifs tt)
    (he : ∀ (s : Shared) (H : Hp) (C : Addr) (cl : List (Str × Addr)) (fp : List Addr), PE2 (X.blk s H scope (compEnvC scope cl C X.env) fp) ω elt te) (hs : ∀ x, foldedSetIterable iter X.env x = pure x := by intro _; rfl) :
    PS2 X ω (.Assign [.Name y py] (.ListComp elt [⟨tg, iter, ifs, 0⟩] scope pos) spos) (tAsg2 (tLcM ti g tt te (own.map (·.2))) (gName2 i)) := by
  have h := ps_setLc (X := X) (i := i) (y := y) (py := py) (spos := spos) (elt := elt) (tg := tg) (iter := iter) (ifs := ifs) (scope := scope) (own := own) (pos := pos)
    (g := fun v σ H Q => ∀ s0 H0 C cl fp, semG (X.blk s0 H0 scope (compEnvC scope cl C X.env) fp) tg v σ H Q)
    (tt := fun σ H Q => ∀ s0 H0 C cl fp pins s, Inv (X.blk s0 H0 scope (compEnvC scope cl C X.env) fp) pins σ H s → wpAny (model X.prog X.w) X.A (forIn ifs true fun c r => if r = true then do let ok ← isTrue c (compEnvC scope cl C X.env) (eval c (compEnvC scope cl C X.env)); pure (ForInStep.yield ok) else pure (ForInStep.yield r)) (TP (X.blk s0 H0 scope (compEnvC scope cl C X.env) fp) pins σ Q) (fun _ _ => False) s)
    (te := fun σ H Q => ∀ s0 H0 C cl fp, semE (X.blk s0 H0 scope (compEnvC scope cl C X.env) fp) elt σ H Q)
    hc hN hy hyl hsw (pi_sem (X := X) (tg := tg) (iter := iter)) ok
    (fun s0 H0 C cl fp => ⟨fun pins s σ H v u Q I r z => z s0 H0 C cl fp pins s u I r⟩) (fun s0 H0 C cl fp => ⟨fun pins s σ H Q I z => z s0 H0 C cl fp pins s I⟩) (fun s0 H0 C cl fp => ⟨fun pins s σ H Q I z => z s0 H0 C cl fp pins s I⟩) hs
  refine h.to2 fun σ H gg m E S hm q => ?_
  show tLc _ _ _ _ _ σ H (fun x H1 => gName i x σ H1 (cE X.K ω m H E).nx)
  refine (hi.sem S hm q).mono fun J H1 ⟨ds, keep, m1, s1, wk, q1⟩ => fun Dl hD => ?_
  obtain ⟨hlen, W, w0, turn⟩ := LcG.out q1
  refine ⟨fun i n H' => n = ds.length - i ∧ i ≤ ds.length ∧ ∃ acc m', m' Dl = none ∧ acc.length ≤ i ∧ Step X.K m1 H1 (upM m' Dl (.lst acc)) H' ∧ W i acc m',
    ⟨ds.length, by simp, Nat.zero_le _, [], m1, s1.mem.fresh hD, Nat.le_refl _, Step.newM (c := .lst []) s1.mem hD ⟨[], upd_same, .nil⟩, w0⟩, ?_⟩
  rintro j n H' ⟨rfl, hi', acc, m', hmD, hal, st, w'⟩
  obtain ⟨hk, he'⟩ := turn j acc m' w'
  obtain ⟨kp, ht'⟩ := hk Dl hmD
  by_cases hlt : j < ds.length
  · obtain ⟨hgo, hy⟩ := wk.go j _ H' st kp hlt
    refine .inr ⟨hgo, fun H2 => ∃ acc m', m' Dl = none ∧ acc.length ≤ j + 1 ∧ Step X.K m1 H1 (upM m' Dl (.lst acc)) H2 ∧ W (j + 1) acc m', fun H2 ⟨acc2, m2, a, b, c, d⟩ => ⟨ds.length - (j + 1), by omega, rfl, hlt, acc2, m2, a, b, c, d⟩, fun v H2 y => ?_⟩
    obtain ⟨d, hd, st2, rv⟩ := hy v H2 y
    have st12 := st.trans st2
    intro s0 H0 C cl fp
    have SW : SlotOk X.K ω (wipe2 gg (own.map (·.2))) (L2.wipe σ (own.map (·.2))) (hid (upM m' Dl (.lst acc)) H2) := ((S.mono s1.ex).mono st12.ex).wipe _
    refine ((hg s0 H0 C cl fp).sem SW st12.mem rv (ht' d hd)).mono fun σ3 H3 ⟨⟨g3, m3, s3, S3, q3⟩, hw⟩ => ⟨?_, ?_⟩
    · rw [hw]
      have ww : ∀ vs : List Nat, L2.wipe (L2.wipe σ vs) vs = L2.wipe σ vs := fun vs => by
        have gen : ∀ us : List Nat, (∀ u ∈ us, u ∈ vs) → L2.wipe (L2.wipe σ us) vs = L2.wipe σ vs := by
          intro us
          induction us with
          | nil => intro _; rfl
          | cons u us ih =>
            intro hu
            show L2.wipe ((L2.wipe σ us).set u none) vs = _
            rw [wipe_set (hu u List.mem_cons_self)]
            exact ih fun z hz => hu z (List.mem_cons_of_mem _ hz)
        exact gen vs fun _ z => z
      exact ww _
    · intro s0 H0 C cl fp pins s I
      refine thn ((ht s0 H0 C cl fp).sem S3 s3.mem q3 pins s I) fun b s4 ⟨H4, I4, m4, st4, q4⟩ => ⟨H4, I4, ?_⟩
      have st14 := (st12.trans s3).trans st4
      cases b with
      | true =>
        rw [if_pos rfl] at q4
        refine iteT ?_
        intro s0 H0 C cl fp
        refine ((he s0 H0 C cl fp).sem (S3.mono st4.ex) st4.mem q4).mono fun yv H5 ⟨yd, m5', st5, ry, m5, e5, hm5, w5⟩ => ?_
        subst e5
        have st15 := st14.trans st5
        obtain ⟨accV, ha, hr⟩ := st15.mem Dl _ upM_same
        refine ⟨accV, ha, by rw [hr.length]; omega, acc ++ [yd], m5, hm5, by rw [List.length_append, List.length_singleton]; omega, ?_, w5⟩
        have stn := Step.upM (c := .lst (acc ++ [yd])) (o := .lst (accV ++ [yv])) st15.mem upM_same ⟨_, upd_same, hr.append (.cons ry .nil)⟩
        rw [upM_upM] at stn
        exact st15.trans stn
      | false =>
        rw [if_neg Bool.false_ne_true] at q4
        refine iteF ?_
        obtain ⟨m5, e5, hm5, w5⟩ := q4
        subst e5
        exact ⟨acc, m5, hm5, by omega, st14, w5⟩
  · have e : j = ds.length := by omega
    have st' := s1.trans st
    exact .inl ⟨wk.stop j _ H' st kp (by omega), ⟨_, _, st', (S.mono st'.ex).set (.ref Dl), he' e Dl hmD⟩⟩

end
/-! ### whole numbers' texts -/
def nT (n : Nat) : Str := Str.ofString (toString ((n : Nat) : Int))
theorem nT_len {n k : Nat} (hk : 0 < k) (h : n < 10 ^ k) : (nT n).length ≤ k := by
  have := TL.numL_len hk h
  rw [← TL.tl_num] at this
  exact this
theorem nT_inj {a b : Nat} (h : nT a = nT b) : a = b := TL.numL_inj (by rw [← TL.tl_num, ← TL.tl_num]; exact congrArg TL.tl h)
theorem nT_ne {n : Nat} : (nT n) ≠ Str.ofString "" := fun h => TL.numL_ne n (by rw [← TL.tl_num]; exact congrArg TL.tl h)
theorem okS {z : Str} (h : z.cps.all (· < 0x110000) = true) : okD 60 (.str z) = true := h
theorem str_len_append (a b : Str) : (a ++ b).length = a.length + b.length := Array.size_append
theorem str_append_assoc (a b c : Str) : a ++ b ++ c = a ++ (b ++ c) := TL.ext_tl (by rw [TL.tl_append, TL.tl_append, TL.tl_append, TL.tl_append, List.append_assoc])
theorem str_nil_append (a : Str) : Str.ofString "" ++ a = a := TL.ext_tl (by rw [TL.tl_append]; rfl)
theorem str_append_nil (a : Str) : a ++ Str.ofString "" = a := TL.ext_tl (by rw [TL.tl_append]; exact List.append_nil _)
theorem str_len_zero {a : Str} (h : a.length = 0) : a = Str.ofString "" := TL.ext_tl (List.eq_nil_of_length_eq_zero (by rw [show (TL.tl a).length = a.length from Array.length_toList]; exact h))
end Z

/-! Z18: a drawing state beside a list of one's own; further readings. -/
namespace Z
open PySem PySem.Spec PyProof.Rows L2
theorem StAt.grow {p l : Addr} {m m' : M} {c c' : C} (h : StAt p (upM m l c) m') (hne : l ≠ p) : StAt p (upM m l c') (upM m' l c') := by
  obtain ⟨st, h1, rfl⟩ := h
  refine ⟨st, h1, ?_⟩
  rw [upM_comm hne.symm, upM_upM]
theorem StAt.own {p l : Addr} {m m' : M} {c : C} (h : StAt p (upM m l c) m') (hne : l ≠ p) : m' l = some c := by
  obtain ⟨st, h1, rfl⟩ := h
  rw [upM_ne hne, upM_same]
theorem StAt.start {p l : Addr} {m : M} {c : C} (h : StAt p m m) (hl : m l = none) : StAt p (upM m l c) (upM m l c) ∧ l ≠ p := by
  obtain ⟨st, h1, h2⟩ := h.at
  have hne : p ≠ l := ne_ofM h2 hl
  exact ⟨StAt.mk (by rw [upM_ne hne]; exact h2) h1, hne.symm⟩
theorem StAt.drop {p l : Addr} {m m' : M} {c : C} (h : StAt p (upM m l c) m') (hl : m l = none) : ∃ m2, Sub m2 m' ∧ StAt p m m2 := by
  obtain ⟨st, h1, rfl⟩ := h
  refine ⟨upM m p (.lst st), fun a d q => ?_, st, h1, rfl⟩
  by_cases e : a = p
  · subst e
    rw [upM_same] at q ⊢
    exact q
  · rw [upM_ne e] at q ⊢
    rw [upM_ne (ne_ofM q hl)]
    exact q
section
variable {m : M} {Q : Kd} {x y : D}
theorem kTup_of {ds : List D} (e : itsD (res m x) = some ds) (q : Q (.tup ds) m) : kTuple [x] m Q := by
  unfold kTuple kIts
  refine ⟨?_⟩
  dsimp only
  cases h : res m x <;> rw [h] at e <;> first | (cases e; exact q) | cases e
theorem ix_s {z : Str} {i : Int} {c : Nat} (e : res m x = .str z) (hz : z.length ≤ sizeLine) (h : atI z.cps.toList i = some c) (q : Q (.str ⟨#[c]⟩) m) : oIxU x (.int i) m Q := by unfold oIxU; refine ⟨?_⟩; simp only [e]; exact ⟨c, hz, h, q⟩
theorem in_l {ds : List D} (e : itsD (res m y) = some ds) (h1 : flatD x = true) (h2 : ds.all flatD = true) (ht : Q (.bl true) m) (hf : Q (.bl false) m) : oInU false x y m Q := by
  unfold oInU
  refine ⟨?_⟩
  cases h : res m y <;> rw [h] at e <;> first
    | (cases e; refine ⟨⟨h1, h2⟩, ?_⟩; cases inD x ds <;> first | exact ht | exact hf)
    | cases e
end
end Z

/-! Z19: split, startswith. -/
namespace Z
open PySem PySem.Spec PyProof.Rows L2
@[irreducible] def splitK (a b : Str) (m : M) (Q : Kd) : Prop := Box <| (b.length == 0) = false ∧ a.length + 2 ≤ sizeLine ∧ Q (.lst ((Txt.split a b).map D.str)) m
theorem splitK_of {a b : Str} {m : M} {Q : Kd} (h : (b.length == 0) = false) (h2 : a.length + 2 ≤ sizeLine) (q : Q (.lst ((Txt.split a b).map D.str)) m) : splitK a b m Q := by unfold splitK; exact ⟨h, h2, q⟩
@[irreducible] def startK (a b : Str) (m : M) (Q : Kd) : Prop := Box <| Q (.bl (Txt.startswith a b)) m
theorem startK_of {a b : Str} {m : M} {Q : Kd} (q : Q (.bl (Txt.startswith a b)) m) : startK a b m Q := by unfold startK; exact ⟨q⟩
def tStr1 (k : Str → Str → M → Kd → Prop) (to te : TE2) : TE2 := fun g m Q => to g m fun z m1 => match z with
  | .str a => te g m1 fun y m2 => match y with
    | .str b => k a b m2 Q
    | _ => False
  | _ => False
section
variable {X : Cx} {ω : Bx} {o e : Expr} {to te : TE2} {apos pos : Pos}
theorem m_split1M (ho : PE2 X ω o to) (he : PE2 X ω e te) (hs : starEach [e] X.env = [(false, eval e X.env)] := by rfl) (hbase : attributeBase o "split" X.env (eval o X.env) = eval o X.env := by rfl) (hline : (apos.endLine == pos.line) = true := by rfl) :
    PE2 X ω (.Call (.Attribute o "split" apos) [e] [] pos) (tStr1 splitK to te) :=
  (pe_split pe_sem pe_sem hs hbase hline).to2 fun σ H g m Q S hm q => (ho.sem S hm q).mono fun v H1 ⟨d, m1, s1, r1, q1⟩ => by
    dsimp only at q1
    split at q1
    · rename_i a
      cases r1
      refine ⟨⟨a, rfl⟩, (he.sem (S.mono s1.ex) s1.mem q1).mono fun v2 H2 ⟨d2, m2, s2, r2, q2⟩ => ?_⟩
      dsimp only at q2
      split at q2
      · rename_i b
        cases r2
        unfold splitK at q2
        obtain ⟨h1, h2, h3⟩ := q2.out
        exact ⟨a, b, rfl, rfl, h1, h2, fun p hp => P2.go (s1.trans s2) (.new s2.mem hp (.lst (Step.new_at s2.mem hp) ((Reps.of_strs _).mono (Step.new s2.mem hp).ex)) h3)⟩
      · exact q2.elim
    · exact q1.elim
theorem pe_startswith (ho : PE X o (semE X o)) (he : PE X e (semE X e)) (hs : starEach [e] X.env = [(false, eval e X.env)] := by rfl) (hbase : attributeBase o "startswith" X.env (eval o X.env) = eval o X.env := by rfl) (hline : (apos.endLine == pos.line) = true := by rfl) :
    PE X (.Call (.Attribute o "startswith" apos) [e] [] pos) (tM1 (fun x xs H Q => ∃ a b, x = .str a ∧ xs = [.str b] ∧ Q (.bl (Txt.startswith a b)) H) (semE X o) (semE X e)) :=
  pe_m1 F.slot_str_startswith F.type_str_startswith mt_startswith ho he hs hbase hline
theorem m_startswith1M (ho : PE2 X ω o to) (he : PE2 X ω e te) (hs : starEach [e] X.env = [(false, eval e X.env)] := by rfl) (hbase : attributeBase o "startswith" X.env (eval o X.env) = eval o X.env := by rfl) (hline : (apos.endLine == pos.line) = true := by rfl) :
    PE2 X ω (.Call (.Attribute o "startswith" apos) [e] [] pos) (tStr1 startK to te) :=
  (pe_startswith pe_sem pe_sem hs hbase hline).to2 fun σ H g m Q S hm q => (ho.sem S hm q).mono fun v H1 ⟨d, m1, s1, r1, q1⟩ => by
    dsimp only at q1
    split at q1
    · rename_i a
      cases r1
      refine ⟨⟨a, rfl⟩, (he.sem (S.mono s1.ex) s1.mem q1).mono fun v2 H2 ⟨d2, m2, s2, r2, q2⟩ => ?_⟩
      dsimp only at q2
      split at q2
      · rename_i b
        cases r2
        unfold startK at q2
        exact ⟨a, b, rfl, rfl, P2.go (s1.trans s2) (.same s2.mem (.bl _) q2.out)⟩
      · exact q2.elim
    · exact q1.elim
/-- xs[::-1] of a list -/
@[irreducible] def revK (x : D) (m : M) (Q : Kd) : Prop := Box <| ∃ ds, lsD (res m x) = some ds ∧ Q (.lst ds.reverse) m
theorem revK_of {x : D} {m : M} {Q : Kd} {ds : List D} (e : lsD (res m x) = some ds) (q : Q (.lst ds.reverse) m) : revK x m Q := by unfold revK; exact ⟨⟨ds, e, q⟩⟩
def tRevU (te : TE2) : TE2 := fun g m Q => te g m fun x m1 => revK x m1 Q
theorem Reps.rev {K : PySem.W.Frag} {G : Hp} : ∀ {vs : List V} {ds : List D}, Reps K G vs ds → Reps K G vs.reverse ds.reverse
  | _, _, .nil => .nil
  | _, _, .cons a t => by
    rw [List.reverse_cons, List.reverse_cons]
    exact (Reps.rev t).append (.cons a .nil)
theorem revU {k : Nat} {p1 p2 p3 : Pos} (he : PE2 X ω e te) : PE2 X ω (.Subscript e (.Slice none none (some (.UnaryOp .USub (.Constant (.int 1) k p1) p2)) p3) pos) (tRevU te) :=
  (pe_revL pe_sem).to2 fun σ H g m Q S hm q => (he.sem S hm q).mono fun v H1 ⟨d, m1, s1, r1, q1⟩ => by
    unfold revK at q1
    obtain ⟨ds, e1, q2⟩ := q1.out
    obtain ⟨a, ws, rfl, k1, k2⟩ := lstOf r1 s1.mem e1
    exact ⟨a, ws, rfl, k1, fun p hp => P2.go s1 (.new s1.mem hp (.lst (Step.new_at s1.mem hp) (k2.rev.mono (Step.new s1.mem hp).ex)) q2)⟩
end
end Z

/-! Z20: two numbers in lowest terms of one value are the same. -/
namespace Z
open PySem PySem.Spec PyProof.Rows L2
theorem lo_dvd {a b d : Int} (h : Int.gcd a b = 1) (e : b ∣ a * d) : b ∣ d := by
  have h1 : b.natAbs ∣ a.natAbs * d.natAbs := by
    rw [← Int.natAbs_mul]
    exact Int.natAbs_dvd_natAbs.mpr e
  have h2 : Nat.Coprime b.natAbs a.natAbs := by
    show Nat.gcd _ _ = 1
    rw [Nat.gcd_comm]
    exact h
  exact Int.natAbs_dvd_natAbs.mp (h2.dvd_of_dvd_mul_left h1)
theorem lo_same {p q : Fr} (hp : Lo p) (hq : Lo q) (e : p.1 * q.2 = q.1 * p.2) : p = q := by
  obtain ⟨a, b⟩ := p
  obtain ⟨c, d⟩ := q
  obtain ⟨hb, g1⟩ := hp
  obtain ⟨hd, g2⟩ := hq
  have e : a * d = c * b := e
  have d1 : b ∣ d := lo_dvd g1 ⟨c, by rw [e, Int.mul_comm]⟩
  have d2 : d ∣ b := lo_dvd g2 ⟨a, by rw [← e, Int.mul_comm]⟩
  have hb : 0 < b := hb
  have hd : 0 < d := hd
  have l1 := Int.le_of_dvd hd d1
  have l2 := Int.le_of_dvd hb d2
  have eb : b = d := by omega
  subst eb
  have : a = c := Int.eq_of_mul_eq_mul_right (by omega) e
  rw [this]
end Z

/-! Z21: errors: raised, let through, caught and held. -/
namespace Z
open PySem PySem.Spec PyProof.Rows L2

/-! ### what a context wishes of an error -/
def wZ (K : PySem.W.Frag) (ω : Bx) : WX := fun c d σ H => d = none ∧ ∃ g m, SlotOk K ω g σ (hid m H) ∧ MemOk K m H ∧ ω.ex c g m
def TkE (X : Cx) (ω : Bx) : Prop := Takes X (wZ X.K ω)
theorem tk_no {X : Cx} : TkE X Bx.no := fun u s' ⟨_, _, _, _, _, _, _, _, _, _, _, _, _, _, _, _, w⟩ => by
  obtain ⟨_, _, _, _, _, z⟩ := w
  exact z.elim
/-- a def that may raise, and what it promises -/
structure DefOkX (P : Program) (w : World) (K : PySem.W.Frag) (mg : Str → Option Value) (base : Heap) (k : Nat) (x : Str) (sp : Sp2) : Prop where
  ex : ∃ (f : Addr) (fd : FuncData) (ps : List Str), FnOk P w K mg base (L2.CX P w) k f fd ps (lift K sp) ∧ mg x = some (.ref f) ∧ PySem.W.keepIn K (.ref f) = true ∧ Binds K fd ps []
def tCallX (E : Value → Sl → M → Prop) (sp : Sp2) (t : TA2) : TE2 := fun g m Q => t g m fun ds m1 => sp ds m1 Q fun c m' => E c g m'
section
variable {X : Cx} {ω : Bx} {k kk : Nat} {sp : Sp2} {x : Str} {p pos : Pos} {e : Expr} {es : List Expr} {t : TA2} {dd : List D}
theorem callX {kp : Hp} {Ee : Value → Sl → M → Prop} (tk : TkE X ⟨kp, Ee⟩) (F : DefOkX X.prog X.w X.K X.mg X.base k x sp) (hr : Room kk X.A) (hg : Gl X x) (ha : PA2 X ⟨kp, Ee⟩ (e :: es) t) (hk : k ≤ kk := by decide) (hdb : (x == ("__debug__" : Str)) = false := by decide)
    (he : starEach (e :: es) X.env = (false, eval e X.env) :: starEach es X.env := by rfl) (hpl : (backTo pos (starEach es X.env)).any (·.1) = false := by rfl) : PE2 X ⟨kp, Ee⟩ (.Call (.Name x p) (e :: es) [] pos) (tCallX Ee sp t) := by
  obtain ⟨f, fd, ps, G, h1, h2, h3⟩ := F.ex
  exact (pe_callS (E := WE (wZ X.K ⟨kp, Ee⟩)) G (hr.mono hk) hg h1 h2 h3 (fun σ => passAt tk σ) pa_sem hdb he hpl).to2 fun σ H g m Q S hmm q =>
    (ha.sem S hmm q).mono fun vs H1 ⟨ds, m1, s1, r1, q1⟩ => ⟨ds, m1, Q, fun c m' => Ee c g m', s1.mem, r1, q1, fun v H' h => P2.go s1 h, fun c m' H' st z => ⟨rfl, g, m', (S.mono s1.ex).mono st.ex, st.mem, z⟩⟩
theorem pass_no {X : Cx} : Passes (L2.CX X.prog X.w) X (fun _ _ _ => False) := fun _ _ _ _ _ _ _ ⟨_, _, _, _, _, _, _, _, _, _, _, _, z⟩ => z.elim
/-- called where it raises nothing -/
theorem callXn (F : DefOkX X.prog X.w X.K X.mg X.base k x sp) (hr : Room kk X.A) (hg : Gl X x) (ha : PA2 X ω (e :: es) t) (hk : k ≤ kk := by decide) (hdb : (x == ("__debug__" : Str)) = false := by decide)
    (he : starEach (e :: es) X.env = (false, eval e X.env) :: starEach es X.env := by rfl) (hpl : (backTo pos (starEach es X.env)).any (·.1) = false := by rfl) : PE2 X ω (.Call (.Name x p) (e :: es) [] pos) (tCallU sp t) := by
  obtain ⟨f, fd, ps, G, h1, h2, h3⟩ := F.ex
  exact (pe_call (E := fun _ _ _ => False) G (hr.mono hk) hg h1 h2 h3 .nil pass_no pa_sem hdb he hpl).to2 fun σ H g m Q S hmm q =>
    (ha.sem S hmm q).mono fun vs H1 ⟨ds, m1, s1, r1, q1⟩ => ⟨ds, m1, Q, no2, s1.mem, by rw [List.append_nil]; exact r1, q1, fun v H' h => P2.go s1 h, fun _ _ _ _ z => z.elim⟩
/-- .. with defaults left -/
structure DefDfX (P : Program) (w : World) (K : PySem.W.Frag) (mg : Str → Option Value) (base : Heap) (k : Nat) (x : Str) (sp : Sp2) (dd : List D) : Prop where
  ex : ∃ (f : Addr) (fd : FuncData) (ps : List Str) (dus : List Value) (dvs : List V), FnOk P w K mg base (L2.CX P w) k f fd ps (lift K sp) ∧ mg x = some (.ref f) ∧ PySem.W.keepIn K (.ref f) = true ∧ Binds K fd ps dus ∧ Vals dvs dus ∧ ∀ G, Reps K G dvs dd
theorem callDXn (F : DefDfX X.prog X.w X.K X.mg X.base k x sp dd) (hr : Room kk X.A) (hg : Gl X x) (ha : PA2 X ω (e :: es) t) (hk : k ≤ kk := by decide) (hdb : (x == ("__debug__" : Str)) = false := by decide)
    (he : starEach (e :: es) X.env = (false, eval e X.env) :: starEach es X.env := by rfl) (hpl : (backTo pos (starEach es X.env)).any (·.1) = false := by rfl) : PE2 X ω (.Call (.Name x p) (e :: es) [] pos) (tCallD sp dd t) := by
  obtain ⟨f, fd, ps, dus, dvs, G, h1, h2, h3, h4, h5⟩ := F.ex
  exact (pe_call (E := fun _ _ _ => False) G (hr.mono hk) hg h1 h2 h3 h4 pass_no pa_sem hdb he hpl).to2 fun σ H g m Q S hmm q =>
    (ha.sem S hmm q).mono fun vs H1 ⟨ds, m1, s1, r1, q1⟩ => ⟨ds ++ dd, m1, Q, no2, s1.mem, r1.append (h5 _), q1, fun v H' h => P2.go s1 h, fun _ _ _ _ z => z.elim⟩
end

/-! ### raise -/
/-- an own class of errors, as it stands behind the top -/
structure ExcAt (K : PySem.W.Frag) (mg : Str → Option Value) (x : Str) (C : Addr) : Prop where
  g : mg x = some (.ref C)
  q : PySem.W.excIn K C [.type "ValueError", .type "Exception", .type "BaseException", .type "object"] "ValueError.__new__" = true
  k : PySem.W.keepIn K (.ref C) = true
  b : PySem.W.subIn K (.ref C) (.type "BaseException") = some true
  t : PySem.W.typeIn K (.ref C) = some (.type "type")
def tRaise (E : Value → Sl → M → Prop) (C : Addr) : TS2 := fun _ g m => E (.ref C) g m
theorem raiseU {X : Cx} {kp : Hp} {Ee : Value → Sl → M → Prop} {x z : Str} {C : Addr} {j} {p p2 pos pos' : Pos} (hc : X.calm = true) (tk : TkE X ⟨kp, Ee⟩) (c : ExcAt X.K X.mg x C) (hg : Gl X x) (hdb : (x == ("__debug__" : Str)) = false := by decide) :
    PS2 X ⟨kp, Ee⟩ (.Raise (some (.Call (.Name x p) [.Constant (.str z) j p2] [] pos)) none pos') (tRaise Ee C) :=
  (ps_raise hc tk (pmk_own PySem.F.excBase_ValueError c.q c.g c.k (raises_own c.b c.t) hg hdb)).to2 fun σ H g m E S hm q => ⟨rfl, g, m, S, hm, q⟩

/-! ### isinstance of an error that is held -/
theorem call_isX {X : Cx} : CallR X (.builtin "isinstance") (fun xs H Q => ∃ a C c cv b, xs = [.ref a, c] ∧ ClsV c cv ∧ H a = some (ExD C a) ∧ ExcC X.K C ∧ PySem.W.kitOne X.K (.ref C) cv = some b ∧ Q (.bl b) H) := by
  intro pins s σ H xs us Q I r h
  obtain ⟨a, C, c, cv, b, rfl, k, ha, ec, e, q⟩ := h
  obtain ⟨u1, u2, rfl, r1, r2⟩ := vals2 r
  have e2 := k.eq r2
  subst e2
  cases (show u1 = Value.ref a from r1)
  obtain ⟨⟨oe, fs, hoe, ⟨hc, hd⟩, hf⟩, _, _⟩ := I.hok a _ ha
  have J : PySem.W.InstAt s.heap a oe C none := by
    obtain ⟨oc, od, oda, osl⟩ := oe
    dsimp only at hc hd hf
    subst hc hd hf
    exact ⟨hoe, rfl, rfl, trivial⟩
  exact PySem.W.kia_one (PySem.W.handS_kitx_exc ec.hg ec.hk ec.hs ec.hd ec.ha ec.hn ec.ht ec.hm) I.kIn J e (fun z => nomatch z) fun tk => ⟨.bl b, H, I.tok tk, rfl, q⟩
theorem call_isXT {X : Cx} : CallR X (.builtin "isinstance") (fun xs H Q => ∃ a C tp cs us b, xs = [.ref a, .ref tp] ∧ H tp = some (.tup cs) ∧ Paired ClsV cs us ∧ H a = some (ExD C a) ∧ ExcC X.K C ∧ PySem.W.kitAny X.K (.ref C) us = some b ∧ Q (.bl b) H) := by
  intro pins s σ H xs us Q I r h
  obtain ⟨a, C, tp, cs, ws, b, rfl, hT, k, ha, ec, e, q⟩ := h
  obtain ⟨u1, u2, rfl, r1, r2⟩ := vals2 r
  cases (show u2 = Value.ref tp from r2)
  cases (show u1 = Value.ref a from r1)
  obtain ⟨⟨oe, fs, hoe, ⟨hc, hd⟩, hf⟩, _, _⟩ := I.hok a _ ha
  have J : PySem.W.InstAt s.heap a oe C none := by
    obtain ⟨oc, od, oda, osl⟩ := oe
    dsimp only at hc hd hf
    subst hc hd hf
    exact ⟨hoe, rfl, rfl, trivial⟩
  obtain ⟨_, its, rv, ob, h1, h2, n, h3⟩ := (show ObjOk X.prog X.w H s.heap tp (.tup cs) from I.hok tp _ hT)
  have e3 := ClsV.all k rv
  subst e3
  obtain ⟨oc, od, dt, sl⟩ := ob
  simp only at h2 h3
  subst h2 h3
  exact PySem.W.kia_tup (PySem.W.handS_kitx_exc ec.hg ec.hk ec.hs ec.hd ec.ha ec.hn ec.ht ec.hm) I.kIn J h1 e (fun z => nomatch z) fun tk => ⟨.bl b, H, I.tok tk, rfl, q⟩
/-- classes, as data -/
def clsD : D → Option Value | .ty n => some (.type n) | .ref C => some (.ref C) | _ => none
theorem clsD_rep {K : PySem.W.Frag} {G : Hp} {v : V} {d : D} {u : Value} (r : Rep K G v d) (e : clsD d = some u) : ClsV v u := by
  unfold clsD at e
  cases r <;> first | (cases e; constructor) | cases e
@[irreducible] def isiXK (K : PySem.W.Frag) (x y : D) (m : M) (Q : Kd) : Prop := Box <| ∃ C u b, res m x = .exc C ∧ clsD y = some u ∧ ExcC K C ∧ PySem.W.kitOne K (.ref C) u = some b ∧ Q (.bl b) m
theorem isiX_of {K : PySem.W.Frag} {x y : D} {m : M} {Q : Kd} {C : Addr} {u : Value} {b : Bool} (e : res m x = .exc C) (e2 : clsD y = some u) (ec : ExcC K C) (h : PySem.W.kitOne K (.ref C) u = some b) (q : Q (.bl b) m) : isiXK K x y m Q := by unfold isiXK; exact ⟨⟨C, u, b, e, e2, ec, h, q⟩⟩
def kIsX (K : PySem.W.Frag) : RC2 := fun xs m Q => match xs with | [x, y] => isiXK K x y m Q | _ => False
theorem excOf {K : PySem.W.Frag} {m : M} {H : Hp} {v : V} {d : D} {C : Addr} (r : Rep K (hid m H) v d) (hm : MemOk K m H) (e : res m d = .exc C) : ∃ a, v = .ref a ∧ H a = some (ExD C a) := by
  have rr := repRes r hm
  rw [e] at rr
  cases rr with
  | exc h => exact ⟨_, rfl, h⟩
theorem kc_isX {X : Cx} : CvC X.K (fun xs H Q => ∃ a C c cv b, xs = [.ref a, c] ∧ ClsV c cv ∧ H a = some (ExD C a) ∧ ExcC X.K C ∧ PySem.W.kitOne X.K (.ref C) cv = some b ∧ Q (.bl b) H) (kIsX X.K) := fun H m ds vs Q Q' hm r h k => by
  unfold kIsX at h
  split at h
  · unfold isiXK at h
    obtain ⟨C, u, b, e, e2, ec, hk, q⟩ := h.out
    obtain ⟨v1, v2, rfl, ra, rb⟩ := r.two
    obtain ⟨a, rfl, ha⟩ := excOf ra hm e
    exact ⟨a, C, v2, u, b, rfl, clsD_rep rb e2, ha, ec, hk, k _ _ (.same hm (.bl _) q)⟩
  · exact h.elim
section
variable {X : Cx} {ω : Bx} {p pos : Pos} {e : Expr} {es : List Expr} {t : TA2}
theorem isiX (hg : Gl X "isinstance") (hm : X.mg "isinstance" = none) (ha : PA2 X ω (e :: es) t) (he : starEach (e :: es) X.env = (false, eval e X.env) :: starEach es X.env := by rfl) (hpl : (backTo pos (starEach es X.env)).any (·.1) = false := by rfl) : PE2 X ω (.Call (.Name "isinstance" p) (e :: es) [] pos) (tCB2 (kIsX X.K) t) :=
  q_callB call_isX kc_isX hg hm bt_isinstance ha (by decide) (by decide) he hpl
end
end Z

/-! Z22: try .. except C as n: the error is held. -/
namespace Z
open PySem PySem.Spec PyProof.Rows L2

theorem exD_ok {P : Program} {w : World} {G : Hp} {hp : Heap} {q C : Addr} {ob : Obj} {fs : Array Value} (e : hp.get? q = some ob) (z : ob.cls = .ref C ∧ ob.dict = none) (f : ob.data = .fields fs) : ObjOk P w G hp q (ExD C q) :=
  ⟨⟨ob, fs, e, z, f⟩, ⟨ob, e⟩, fun _ _ ⟨o, v, r, s⟩ kk => ⟨o, v, kk o r, s⟩⟩
section
variable {X : Cx} {pins : List (Addr × Obj)} {σ : St} {H : Hp} {s : Shared}
/-- an error that lies in the heap, new since the entry, is tracked from here on -/
theorem inv_track {q C : Addr} {ob : Obj} {fs : Array Value} (I : Inv X pins σ H s) (e : s.heap.get? q = some ob) (z : ob.cls = .ref C ∧ ob.dict = none) (f : ob.data = .fields fs) (hn : H q = none) (h0 : X.s_0.heap.get? q = none)
    (hl : q ≠ X.env.locals) (hp : ∀ p ∈ X.pn ++ pins, p.1 ≠ q) : Inv X pins σ (upd H q (ExD C q)) s := by
  have ne : ∀ {b : Addr} {u : HO}, H b = some u → b ≠ q := fun {b u} h y => by rw [y, hn] at h; cases h
  have new : ∀ {b : Addr} {u : Obj}, X.s_0.heap.get? b = some u → b ≠ q := fun {b u} h y => by rw [y, h0] at h; cases h
  have noCell : ∀ v, ¬ s.heap.IsCell q v := fun v ⟨o, ho, hd⟩ => by
    rw [e] at ho
    cases ho
    rw [f] at hd
    cases hd
  refine ⟨I.ok, I.os, I.bare, ⟨I.base.keep, I.base.slot, fun b o h h2 h3 => ?_, I.base.there, fun b xs h => ?_, fun b o u h => ?_, fun b ps h => ?_⟩, I.loc, I.cell, ?_, fun y c h => ?_, fun p hq => ?_, fun b u h => ?_, I.len⟩
  · rw [upd_ne (new h)]
    exact I.base.free b o h h2 h3
  · have y := I.base.tups b xs h
    rw [upd_ne (ne y)]
    exact y
  · have y := I.base.frzs b o u h
    rw [upd_ne (ne y)]
    exact y
  · obtain ⟨more, y⟩ := I.base.tbls b ps h
    exact ⟨more, by rw [upd_ne (ne y)]; exact y⟩
  · rw [upd_ne hl.symm]
    exact I.free
  · have cq : c ≠ q := fun y => by
      obtain ⟨v, hv⟩ := I.cell _ c h
      rw [y] at hv
      exact noCell v hv
    rw [upd_ne cq]
    exact I.freeC _ c h
  · obtain ⟨a1, a2, a3, a4, a5⟩ := I.pin p hq
    exact ⟨a1, by rw [upd_ne (hp p hq)]; exact a2, a3, a4, a5⟩
  · by_cases hb : b = q
    · subst hb
      rw [upd_same] at h
      cases h
      exact exD_ok e z f
    · rw [upd_ne hb] at h
      refine (I.hok b u h).stay (fun _ _ _ y => y) (fun c y => ?_) fun c xs y => ?_
      · rw [upd_ne (ne y)]
        exact y
      · rw [upd_ne (ne y)]
        exact y
theorem inv_suite {q : Addr} (I : Inv X pins σ H s) : Inv (X.suite q (X.pn ++ pins)) [] σ H s :=
  ⟨I.ok.suite _ _, I.os, I.bare, I.base, I.loc, I.cell, I.free, I.freeC, fun p h => I.pin p (by rw [List.append_nil] at h; exact h), I.hok, I.len⟩
theorem inv_unsuite {q : Addr} {ps : List (Addr × Obj)} (I : Inv (X.suite q (X.pn ++ pins)) ps σ H s) (ok : X.Ok) : Inv X pins σ H s :=
  ⟨ok, I.os, I.bare, I.base, I.loc, I.cell, I.free, I.freeC, fun p h => I.pin p (List.mem_append_left _ h), I.hok, I.len⟩
end
/-- what the clause wishes: slot i holds the error while the suite runs -/
def wHeld (K : PySem.W.Frag) (c : Value) (i : Nat) (ts : TS) (Wo : WX) (D : Ends) : WX := fun cls d σ H =>
  ∃ b, PySem.W.exmOne K cls c = some b ∧ (b = false → Wo cls d σ H) ∧
    (b = true → d = none ∧ ∃ C, cls = .ref C ∧ ∀ q, H q = none → ts ⟨fun a b => D.nx (a.set i none) b, D.rt, fun a b => D.bk (a.set i none) b, fun a b => D.ct (a.set i none) b⟩ (σ.set i (some (.ref q))) (upd H q (ExD C q)))
section
variable {X : Cx} {x n : Str} {c : Value} {i : Nat} {body suite : List Stmt} {b0 : Stmt} {np pos pos' : Pos} {tb : WX → TS} {ts : TS} {Wo : WX}
theorem ps_held (hs : X.stack = X.env :: X.outer) (hf : X.env.frame = some X.env.locals) (hx0 : X.ex = []) (hN : X.N.Nodup) (hi : X.N[i]? = some n) (hln : X.env.kindOf n = some .local) (hc : Names X x c) (tk : Takes X Wo)
    (hb : ∀ (W : WX) (pn : List (Addr × Obj)) (xe : Value → Shared → Prop), Takes (X.tr pn xe) W → PassesOwn (model X.prog X.w) X.A X.env xe → PSs (X.tr pn xe) body (tb W))
    (hsu : ∀ (q : Addr) (pn : List (Addr × Obj)), PSs (X.suite q pn) (b0 :: suite) ts) :
    PS X (.Try body [.ExceptHandler (some (.Name x np)) (some n) (b0 :: suite) pos'] [] [] pos) (fun D σ H => tb (wHeld X.K c i ts Wo D) D σ H) := by
  refine ⟨fun pins s σ H D I want => ?_⟩
  have xok := I.ok
  have frm : X.A.frames = some (X.env :: X.outer) := by rw [xok.frames, hs]
  have lcl : Loc X.env.scope n := .inl hln
  refine wpAny_Try_except ?_
  let xe1 : Value → Shared → Prop := fun e s1 => wpAny (model X.prog X.w) X.A (noteFrame e X.env) (fun _ s2 => wpAny (model X.prog X.w) X.A (setFlight e none)
    (fun _ s3 => wpAny (model X.prog X.w) X.A (handleBy e X.env [.ExceptHandler (some (.Name x np)) (some n) (b0 :: suite) pos']) (SP X pins D) X.xe s3) X.xe s2) X.xe s1
  have caught : Takes (X.tr (X.pn ++ pins) xe1) (wHeld X.K c i ts Wo D) := by
    rintro u t ⟨q, B, sI, pins1, σ1, H1, cls, d, rfl, I1, nB, up, sky, nq, hos, hag, b, hm, hno, hyes⟩
    have J : Inv X pins σ1 H1 sI := I1.ofTry xok
    have skyX : Sky B (X.env :: X.outer) q (Zc cls d) X.env.locals t.heap := by rw [← hs]; exact sky
    show wpAny (model X.prog X.w) X.A (noteFrame (.ref q) X.env) _ _ _
    refine Sky.land Zc.steady frm hf skyX fun hA flA upA => ?_
    have JA : Inv X pins σ1 H1 { t with heap := hA } := J.landed nB flA.1 (up.trans upA) hos hag
    obtain ⟨obA, fsA, eA, zA, dA⟩ := flA.there
    have qfr : q ∉ frs (X.env :: X.outer) := fun hin => by
      obtain ⟨_, o1, e1, no1⟩ := flA.2.2.1.mem hin
      rw [eA] at e1
      cases e1
      exact no1 _ dA
    have qL : q ≠ X.env.locals := fun y => qfr (List.mem_filterMap.mpr ⟨X.env, List.mem_cons_self, by rw [hf, y]⟩)
    have bq : B.get? q = none := flA.2.1
    have qfr2 : q ∉ frs X.stack := by rw [hs]; exact qfr
    have inB : ∀ o, sI.heap.get? q ≠ some o := fun o ho => by
      have y := nB q o ho qfr2
      rw [bq] at y
      cases y
    have q0 : X.s_0.heap.get? q = none := by
      cases y : X.s_0.heap.get? q with
      | none => rfl
      | some o =>
        obtain ⟨o1, h1⟩ := J.base.there q o y (by rw [hx0]; exact fun h => nomatch h)
        exact absurd h1 (inB o1)
    have qpin : ∀ p ∈ X.pn ++ pins, p.1 ≠ q := fun p hp y => by
      have h1 := (J.pin p hp).1
      rw [y] at h1
      exact inB _ h1
    refine wpAny_handleBy_cons (codeAny_handlers_test ?_) (by intro y; cases y)
    have LT : PySem.W.Looks (model X.prog X.w) hA (typeOf (.ref q)) cls := fun _ _ _ _ kk r => wpAny_typeOf_ref (kk _ _ eA) (by rw [zA.1]; exact r)
    have SA : Inv (X.suite q (X.pn ++ pins)) [] σ1 H1 { t with heap := hA } := inv_suite JA
    have asks : ∀ {R E : Value → Shared → Prop}, R c { t with heap := hA } → wpAny (model X.prog X.w) (X.A.mark (some (.ref q))) (eval (.Name x np) X.env) R E { t with heap := hA } := fun {R E} r => by
      obtain ⟨hg, hdb, hm1 | ⟨hm1, hv, hnn⟩⟩ := hc
      · exact ld_glob (X := X.suite q (X.pn ++ pins)) SA hg hm1 r hdb
      · exact ld_blt (X := X.suite q (X.pn ++ pins)) SA hg hm1 hv r hnn hdb
    refine asks ((PySem.W.exm_one (M := model X.prog X.w) JA.kIn LT hm).here ?_)
    cases b with
    | false =>
      show wpAny _ X.A (handleBy (.ref q) X.env []) _ _ _
      refine wpAny_handleBy_nil ?_
      obtain ⟨_, _, _, obB, fsB, T, oT, tsB, eB, zB, dB, gB, rB⟩ := id flA
      unfold PySem.passOn
      refine wpAny_bind (wpAny_field eB dB gB ?_)
      rw [if_neg (show ¬ ((Value.ref T == Value.none) = true) from by simp)]
      have out : wpAny (model X.prog X.w) X.A (setFlight (.ref q) X.env.frame) (fun _ sZ => wpAny (model X.prog X.w) X.A (throw (.ref q) : Sem Flow) (SP X pins D) X.xe sZ) X.xe { t with heap := hA } := by
        rw [hf]
        refine HandSPX.setFlight_upZ flA fun hB heldB upB => wpAny_throw (tk _ _ ?_)
        exact ⟨q, B, sI, pins, σ1, H1, cls, d, rfl, J, nB, (up.trans upA).trans upB, .inr (.inr (by rw [hs]; exact heldB)), nq, hos, hag, hno rfl⟩
      first
        | exact wpAny_bind out
        | exact wpAny_bind (wpAny_pure (wpAny_bind out))
    | true =>
      obtain ⟨rfl, C, rfl, go⟩ := hyes rfl
      refine codeAny_handlers_suite_as ?_
      refine HandSPX.lands_againZ flA fun hB flB upB => ?_
      have JB : Inv X pins σ1 H1 { t with heap := hB } := J.landed nB flB.1 ((up.trans upA).trans upB) hos hag
      obtain ⟨obB, fsB, eB, zB, dB⟩ := flB.there
      have JT : Inv X pins σ1 (upd H1 q (ExD C q)) { t with heap := hB } := inv_track JB eB zB dB nq q0 qL qpin
      have ST : Inv (X.suite q (X.pn ++ pins)) [] σ1 (upd H1 q (ExD C q)) { t with heap := hB } := inv_suite JT
      refine store_ok (X := X.suite q (X.pn ++ pins)) (v := .ref q) ST hN hi lcl rfl (fun sC SC => ?_) (.inr hln)
      refine wpAny_mono ((hsu q (X.pn ++ pins)).run [] sC _ _ _ SC (go q nq)) (fun fl sD hD => ?_) (fun _ _ y => False.elim y)
      have fin : ∀ {σ6 : St} {H6 : Hp} {R : Shared → Prop}, Inv (X.suite q (X.pn ++ pins)) [] σ6 H6 sD → (∀ sE, Inv X pins (σ6.set i none) H6 sE → R sE) →
          wpAny (model X.prog X.w) X.A (do bindName X.env n .none; unbindBehindTheSuite X.env n pos') (fun _ sE => R sE) X.xe sD := fun {σ6 H6 R} I6 hR => gone_ok (inv_unsuite I6 xok) hN hi hln hR
      cases fl with
      | next =>
        obtain ⟨σ6, H6, I6, r6⟩ := hD
        exact fin I6 fun sE JE => ⟨_, _, JE, r6⟩
      | brk =>
        obtain ⟨σ6, H6, I6, r6⟩ := hD
        exact fin I6 fun sE JE => ⟨_, _, JE, r6⟩
      | cont =>
        obtain ⟨σ6, H6, I6, r6⟩ := hD
        exact fin I6 fun sE JE => ⟨_, _, JE, r6⟩
      | ret u =>
        obtain ⟨v6, σ6, H6, I6, rv, r6⟩ := hD
        exact fin I6 fun sE JE => ⟨_, _, _, JE, rv, r6⟩
  refine wpAny_mono ((hb _ (X.pn ++ pins) xe1 caught PassesOwn.looking).run [] s σ H D (I.toTry _) want) (fun fl t ht => ?_) (fun _ _ he => he)
  cases fl with
  | next =>
    obtain ⟨σ', H', J, r⟩ := ht
    exact wpAny_execs_nil ⟨σ', H', J.ofTry xok, r⟩
  | brk =>
    obtain ⟨σ', H', J, r⟩ := ht
    exact ⟨σ', H', J.ofTry xok, r⟩
  | cont =>
    obtain ⟨σ', H', J, r⟩ := ht
    exact ⟨σ', H', J.ofTry xok, r⟩
  | ret u =>
    obtain ⟨v, σ', H', J, rv, r⟩ := ht
    exact ⟨v, σ', H', J.ofTry xok, rv, r⟩
end

/-! ### over data -/
/-- what is wished of an error in the body: it is of the class and held while the suite runs, or goes on -/
def exHeld (K : PySem.W.Frag) (c : Value) (i : Nat) (ts : TS2) (Eo : Value → Sl → M → Prop) (E : Ends2) : Value → Sl → M → Prop := fun cls g m =>
  ∃ C b, cls = .ref C ∧ PySem.W.exmOne K cls c = some b ∧ br b (ts { nx := fun g' m' => E.nx (g'.set i none) m', rt := E.rt, bk := fun g' m' => E.bk (g'.set i none) m', ct := fun g' m' => E.ct (g'.set i none) m' } (g.set i (some (.exc C))) m) (Eo cls g m)
def tHeld (K : PySem.W.Frag) (c : Value) (i : Nat) (tb : (Value → Sl → M → Prop) → TS2) (ts : TS2) (Eo : Value → Sl → M → Prop) : TS2 := fun E g m => tb (exHeld K c i ts Eo E) E g m
section
variable {X : Cx} {ω : Bx} {x n : Str} {c : Value} {i : Nat} {body suite : List Stmt} {b0 : Stmt} {np pos pos' : Pos} {tb : (Value → Sl → M → Prop) → TS2} {ts : TS2}
theorem tryU (hs : X.stack = X.env :: X.outer) (hf : X.env.frame = some X.env.locals) (hx0 : X.ex = []) (hN : X.N.Nodup) (hi : X.N[i]? = some n) (hln : X.env.kindOf n = some .local) (hc : Names X x c) (tk : TkE X ω)
    (hb : ∀ (kp : Hp) (Ee : Value → Sl → M → Prop) (pn : List (Addr × Obj)) (xe : Value → Shared → Prop), TkE (X.tr pn xe) ⟨kp, Ee⟩ → PassesOwn (model X.prog X.w) X.A X.env xe → PSs2 (X.tr pn xe) ⟨kp, Ee⟩ body (tb Ee))
    (hsu : ∀ (q : Addr) (pn : List (Addr × Obj)), PSs2 (X.suite q pn) ω (b0 :: suite) ts) :
    PS2 X ω (.Try body [.ExceptHandler (some (.Name x np)) (some n) (b0 :: suite) pos'] [] [] pos) (tHeld X.K c i tb ts ω.ex) := by
  refine ⟨fun {σ H g m E} S hm q => ?_⟩
  have h := ps_held (X := X) (x := x) (n := n) (c := c) (i := i) (body := body) (suite := suite) (b0 := b0) (np := np) (pos := pos) (pos' := pos')
    (tb := fun W D σ' H' => ∀ pn xe, Takes (X.tr pn xe) W → PassesOwn (model X.prog X.w) X.A X.env xe → semSs (X.tr pn xe) body D σ' H')
    (ts := fun D σ' H' => ∀ q pn, semSs (X.suite q pn) (b0 :: suite) D σ' H') (Wo := wZ X.K ω) hs hf hx0 hN hi hln hc tk
    (fun W pn xe t1 t2 => ⟨fun pins s σ' H' D I z => z pn xe t1 t2 pins s I⟩) (fun q pn => ⟨fun pins s σ' H' D I z => z q pn pins s I⟩)
  refine fun pins s I => h.run pins s σ H (cE X.K ω m H E) I fun pn xe t1 t2 => ?_
  let η : Bx := ⟨hid m H, exHeld X.K c i ts ω.ex E⟩
  have tkη : TkE (X.tr pn xe) η := by
    refine Takes.imp t1 fun cls d σ' H' w => ?_
    obtain ⟨ed, g', m', S', hm', C, b, ec, e1, e2⟩ := w
    have st : Step X.K m H m' H' := ⟨fun a o h1 h2 => by
      obtain ⟨h3, h4⟩ := hid_some (S'.tie a o (hid_of h2 h1))
      exact ⟨h4, h3⟩, hm'⟩
    have Sω : SlotOk X.K ω g' σ' (hid m' H') := ⟨fun a o h1 => st.ex a o (S.tie a o h1), S'.len, S'.val⟩
    refine ⟨b, e1, fun hb0 => ?_, fun hb1 => ?_⟩
    · subst hb0
      exact ⟨ed, g', m', Sω, hm', br_f e2⟩
    · subst hb1
      refine ⟨ed, C, ec, fun q hq q2 pn2 => ?_⟩
      have s2 : Step X.K m' H' m' (upd H' q (ExD C q)) := Step.new hm' hq
      refine semSs.mono ((hsu q2 pn2).sem ((Sω.mono s2.ex).set (.exc (Step.new_at hm' hq))) s2.mem (br_t e2)) ?_ (fun _ _ r => P2.go (st.trans s2) r) ?_ ?_
      · rintro σ6 H6 ⟨g6, m6, st6, S6, r6⟩
        exact ⟨_, m6, (st.trans s2).trans st6, S6.unset, r6⟩
      · rintro σ6 H6 ⟨g6, m6, st6, S6, r6⟩
        exact ⟨_, m6, (st.trans s2).trans st6, S6.unset, r6⟩
      · rintro σ6 H6 ⟨g6, m6, st6, S6, r6⟩
        exact ⟨_, m6, (st.trans s2).trans st6, S6.unset, r6⟩
  have Sη : SlotOk X.K η g σ (hid m H) := ⟨fun _ _ h1 => h1, S.len, S.val⟩
  have bk : ∀ {Q : Sl → M → Prop} {a : St} {b : Hp}, P2S X.K η m H Q a b → P2S X.K ω m H Q a b := fun ⟨g', m', st, S', r⟩ => ⟨g', m', st, ⟨fun a o h1 => st.ex a o (S.tie a o h1), S'.len, S'.val⟩, r⟩
  exact semSs.mono ((hb (hid m H) (exHeld X.K c i ts ω.ex E) pn xe tkη t2).sem Sη hm q) (fun _ _ r => bk r) (fun _ _ r => r) (fun _ _ r => bk r) (fun _ _ r => bk r)
end

/-! ### a def that may raise -/
section
variable {P : Program} {w : World} {K : PySem.W.Frag} {mg : Str → Option Value} {base : Heap} {x : Str} {st : Stmt} {f : Addr} {fd : FuncData} {N ps : List Str} {k : Nat}
abbrev cxX (P : Program) (w : World) (K : PySem.W.Frag) (mg : Str → Option Value) (base : Heap) (N : List Str) (x : Str) (st : Stmt) (f : Addr) (cdv : Value) (A : Around) (outer : List Env) (s : Shared) (H : Hp) (E : XK) : Cx := cxOf (L2.CX P w) P w K mg base N x (defScope st) f cdv A outer s H E
abbrev BodyX (P : Program) (w : World) (K : PySem.W.Frag) (mg : Str → Option Value) (base : Heap) (N : List Str) (x : Str) (st : Stmt) (f : Addr) (k : Nat) (R : Kx → TS2 → Prop) : Prop :=
  ∀ (cdv : Value) (A : Around) (outer : List Env) (s : Shared) (H : Hp) (E : XK) (kp : Hp) (E2 : Kx), Room k (A.deeper (envOfC x (defScope st) s.heap.objs.size f cdv)) → TkE (cxX P w K mg base N x st f cdv A outer s H E) ⟨kp, fun c _ m => E2 c m⟩ →
    PassesOwn (model P w) (cxX P w K mg base N x st f cdv A outer s H E).A (cxX P w K mg base N x st f cdv A outer s H E).env (cxX P w K mg base N x st f cdv A outer s H E).xe →
      ∃ t, PSs2 (cxX P w K mg base N x st f cdv A outer s H E) ⟨kp, fun c _ m => E2 c m⟩ (defBody st) t ∧ R E2 t
theorem fun_okX {sp : Sp2} (F : FunZ K x x st f fd) (S : FnScope N ps (defScope st)) (len : ∀ ds m Q E, sp ds m Q E → ds.length = ps.length)
    (body : BodyX P w K mg base N x st f k fun E2 t => ∀ ds m Q, sp ds m Q E2 → t { nx := fun _ m' => Q .non m', rt := Q } (st0 N.length ds) m) : FnOk P w K mg base (L2.CX P w) (k + 1) f fd ps (lift K sp) := by
  obtain ⟨oc, od, dV, kV, doc, pm, an, cdv, ct, osl, rfl, lk, hcd⟩ := F.ex
  refine fn_of lk hcd S (fun vs H Q E h => lift_len len vs H Q E h) fun A outer s H vs Q E hr h => ?_
  obtain ⟨ds, m, Q2, E2, hm, r, hs, hQ, hE⟩ := h
  have tk : TkE (cxX P w K mg base N x st f cdv A outer s H E) ⟨hid m H, fun c _ m => E2 c m⟩ := by
    refine Takes.imp (takes_of rfl rfl rfl rfl) fun cls d σ' H' wz => ?_
    obtain ⟨ed, g', m', S', hm', e2⟩ := wz
    subst ed
    exact hE cls m' H' ⟨fun a o h1 h2 => by
      obtain ⟨h3, h4⟩ := hid_some (S'.tie a o (hid_of h2 h1))
      exact ⟨h4, h3⟩, hm'⟩ e2
  obtain ⟨t, h1, h2⟩ := body cdv A outer s H E (hid m H) E2 hr tk (passes_of rfl)
  refine ⟨_, pss_sem, ?_⟩
  refine semSs.mono (h1.sem (SlotOk.start N (fun _ _ z => z) r) hm (h2 ds m Q2 hs)) ?_ hQ ?_ ?_
  · rintro σ' H' ⟨g', m', s', _, q'⟩
    exact hQ _ _ ⟨.non, m', s', .non, q'⟩
  · rintro σ' H' ⟨g', m', s', _, q'⟩
    exact q'.elim
  · rintro σ' H' ⟨g', m', s', _, q'⟩
    exact q'.elim
def spX1 (p : D → M → Kd → Kx → Prop) : Sp2 := fun ds m Q E => match ds with | [a] => p a m Q E | _ => False
def spX2 (p : D → D → M → Kd → Kx → Prop) : Sp2 := fun ds m Q E => match ds with | [a, b] => p a b m Q E | _ => False
def spX3 (p : D → D → D → M → Kd → Kx → Prop) : Sp2 := fun ds m Q E => match ds with | [a, b, c] => p a b c m Q E | _ => False
theorem fnX1 {p : D → M → Kd → Kx → Prop} (F : FunZ K x x st f fd) (S : FnScope N ps (defScope st)) (hl : ps.length = 1) (body : BodyX P w K mg base N x st f k fun E t => ∀ a m Q, p a m Q E → t (Ew Q) (st0 N.length [a]) m) : FnOk P w K mg base (L2.CX P w) (k + 1) f fd ps (lift K (spX1 p)) := by
  refine fun_okX F S (fun ds m Q E h => ?_) fun cdv A outer s H E kp E2 hr tk hp => ?_
  · unfold spX1 at h
    split at h
    · exact hl.symm
    · exact h.elim
  · obtain ⟨t, h1, h2⟩ := body cdv A outer s H E kp E2 hr tk hp
    refine ⟨t, h1, fun ds m Q h => ?_⟩
    unfold spX1 at h
    split at h
    · exact h2 _ _ _ h
    · exact h.elim
theorem fnX2 {p : D → D → M → Kd → Kx → Prop} (F : FunZ K x x st f fd) (S : FnScope N ps (defScope st)) (hl : ps.length = 2) (body : BodyX P w K mg base N x st f k fun E t => ∀ a b m Q, p a b m Q E → t (Ew Q) (st0 N.length [a, b]) m) : FnOk P w K mg base (L2.CX P w) (k + 1) f fd ps (lift K (spX2 p)) := by
  refine fun_okX F S (fun ds m Q E h => ?_) fun cdv A outer s H E kp E2 hr tk hp => ?_
  · unfold spX2 at h
    split at h
    · exact hl.symm
    · exact h.elim
  · obtain ⟨t, h1, h2⟩ := body cdv A outer s H E kp E2 hr tk hp
    refine ⟨t, h1, fun ds m Q h => ?_⟩
    unfold spX2 at h
    split at h
    · exact h2 _ _ _ _ h
    · exact h.elim
theorem fnX3 {p : D → D → D → M → Kd → Kx → Prop} (F : FunZ K x x st f fd) (S : FnScope N ps (defScope st)) (hl : ps.length = 3) (body : BodyX P w K mg base N x st f k fun E t => ∀ a b c m Q, p a b c m Q E → t (Ew Q) (st0 N.length [a, b, c]) m) : FnOk P w K mg base (L2.CX P w) (k + 1) f fd ps (lift K (spX3 p)) := by
  refine fun_okX F S (fun ds m Q E h => ?_) fun cdv A outer s H E kp E2 hr tk hp => ?_
  · unfold spX3 at h
    split at h
    · exact hl.symm
    · exact h.elim
  · obtain ⟨t, h1, h2⟩ := body cdv A outer s H E kp E2 hr tk hp
    refine ⟨t, h1, fun ds m Q h => ?_⟩
    unfold spX3 at h
    split at h
    · exact h2 _ _ _ _ _ h
    · exact h.elim
end
end Z

/-! Z23: own classes of errors as they stand; list.count, list.index. -/
namespace Z
open PySem PySem.Spec PyProof.Rows L2
/-- the classes at cs: the one at place i is an error's, under the one at place 0 and under no other of these -/
def errChk (K : PySem.W.Frag) (cs : List Addr) (i : Nat) : Bool :=
  PySem.W.excIn K (cs.getD i 0) [.type "ValueError", .type "Exception", .type "BaseException", .type "object"] "ValueError.__new__" && PySem.W.keepIn K (.ref (cs.getD i 0)) &&
  (PySem.W.subIn K (.ref (cs.getD i 0)) (.type "BaseException") == some true) && (PySem.W.typeIn K (.ref (cs.getD i 0)) == some (.type "type")) &&
  (PySem.W.findIn K (.ref (cs.getD i 0)) "__getattribute__" == some (some (.builtin "BaseException.__getattribute__"))) && (PySem.W.findIn K (.ref (cs.getD i 0)) "__getattr__" == some none) &&
  PySem.W.hasDictIn K (cs.getD i 0) && (PySem.W.findIn K (.ref (cs.getD i 0)) "__class__" == some (some (.builtin "object.__class__"))) &&
  (PySem.W.specialIn K (.builtin "object.__class__") "__get__" == some (some (.builtin "getset_descriptor.__get__"))) && (PySem.W.takesIn K (.builtin "object.__class__") == some true) &&
  (PySem.W.mroIn K (cs.getD i 0) (.type "object") == some true) && (PySem.W.exmOne K (.ref (cs.getD i 0)) (.ref (cs.getD 0 0)) == some true) &&
  (PySem.W.kitOne K (.ref (cs.getD i 0)) (.type "ValueError") == some true) &&
  (List.range cs.length).all fun j => PySem.W.kitOne K (.ref (cs.getD i 0)) (.ref (cs.getD j 0)) == some (decide (j = i) || decide (j = 0))
structure ErrAt (K : PySem.W.Frag) (mg : Str → Option Value) (Ce : Nat → Addr) (n i : Nat) (x : Str) : Prop where
  exc : ExcAt K mg x (Ce i)
  ec : ExcC K (Ce i)
  ex0 : PySem.W.exmOne K (.ref (Ce i)) (.ref (Ce 0)) = some true
  ve : PySem.W.kitOne K (.ref (Ce i)) (.type "ValueError") = some true
  kit : ∀ j, j < n → PySem.W.kitOne K (.ref (Ce i)) (.ref (Ce j)) = some (decide (j = i) || decide (j = 0))
theorem errAt_of {K : PySem.W.Frag} {mg : Str → Option Value} (cs : List Addr) (i : Nat) {x : Str} (h : errChk K cs i = true) (g : mg x = some (.ref (cs.getD i 0))) : ErrAt K mg (fun j => cs.getD j 0) cs.length i x := by
  unfold errChk at h
  simp only [Bool.and_eq_true, beq_iff_eq, List.all_eq_true, List.mem_range] at h
  obtain ⟨⟨⟨⟨⟨⟨⟨⟨⟨⟨⟨⟨⟨h1, h2⟩, h3⟩, h4⟩, h5⟩, h6⟩, h7⟩, h8⟩, h9⟩, h10⟩, h11⟩, h12⟩, h13⟩, h14⟩ := h
  exact ⟨⟨g, h1, h2, h3, h4⟩, ⟨h5, h6, h3, h7, h8, h9, h10, h11⟩, h12, h13, h14⟩
section
variable {X : Cx} {ω : Bx} {x : Str} {C : Addr} {pos : Pos}
theorem bt_ValueError : bootBuiltins "ValueError" = some (.type "ValueError") := by decide +kernel
/-- a class by its name -/
theorem clU (h : X.mg x = some (.ref C)) (hg : Gl X x) (hd : (x == ("__debug__" : Str)) = false := by decide) : PE2 X ω (.Name x pos) (tC2 (.ref C)) := q_glob (v := .ref C) hg h rfl (fun _ => .ref C) hd
theorem DefAt.okX {P : Program} {w : World} {K : PySem.W.Frag} {mg : Str → Option Value} {base : Heap} {x : Str} {st : Stmt} {ps : List Str} {k : Nat} {sp : Sp2} (A : DefAt K mg x st ps) (h : ∀ f fd, FunZ K x x st f fd → FnOk P w K mg base (L2.CX P w) k f fd ps (lift K sp)) : DefOkX P w K mg base k x sp := by
  obtain ⟨f, fd, F, hm, hb⟩ := A.ex
  exact ⟨f, fd, ps, h f fd F, hm, F.kp, hb⟩
end
/-! ### list.count, list.index -/
section
variable {X : Cx}
def rCntF (K : PySem.W.Frag) : V → List V → Hp → VK → Prop := fun x xs H Q => ∃ (a : Addr) (ys : List V) (y : V), x = V.ref a ∧ xs = [y] ∧ SqL K H a ys ∧ flatV y = true ∧ ys.all flatV = true ∧ Q (.int ((ys.countP fun z => eqV z y : Nat) : Int)) H
theorem count_eqU {y : V} : ∀ {ys : List V} {us : List Value}, Vals ys us → ys.all flatV = true → us.countP (eqU y) = ys.countP fun z => eqV z y
  | _, _, .nil, _ => rfl
  | z :: ys, u :: us, .cons r t, f => by
    rw [List.all_cons, Bool.and_eq_true] at f
    rw [List.countP_cons, List.countP_cons, eqU_of r f.1, count_eqU t f.2]
theorem mt_cntF : MtR X "list.count" (rCntF X.K) := by
  intro pins s σ H x xs v us Q I rx rxs h
  obtain ⟨a, ys, y, rfl, rfl, hs, fy, fys, q⟩ := h
  cases rx
  obtain ⟨uy, rfl, ry⟩ := rxs.one
  obtain ⟨its, rv, ⟨⟨cls, dd, data, sl⟩, n, ho, hc, hdn, hd⟩, hlen⟩ := I.list hs
  simp only at hc hd
  subst hc hd
  refine call_meets PySem.F.slot_list_count ⟨_, ho, rfl⟩ PySem.F.entry_list_count (PySem.F.args_list_count_2 _ _)
    (SeqAt.list_countAt a its.toArray n dd sl uy (eqU y)) ⟨ho, fun u hu => mem_eqAt ry fy rv fys u (by simpa using hu), ?_⟩
  have e1 : its.toArray.toList.countP (eqU y) = ys.countP fun z => eqV z y := count_eqU rv fys
  refine ⟨.int ((ys.countP fun z => eqV z y : Nat) : Int), H, I.tok _, ⟨s.toks, ?_⟩, q⟩
  rw [e1]
variable {K : PySem.W.Frag}
@[irreducible] def cntK (x y : D) (m : M) (Q : Kd) : Prop := Box <| ∃ ds, lsD (res m x) = some ds ∧ flatD y = true ∧ ds.all flatD = true ∧ Q (.int ((ds.countP fun z => eqV (vOf z) (vOf y) : Nat) : Int)) m
@[irreducible] def idxK (x y : D) (m : M) (Q : Kd) : Prop := Box <| ∃ ds j z, lsD (res m x) = some ds ∧ flatD y = true ∧ ds.all flatD = true ∧ ds[j]? = some z ∧ eqV (vOf z) (vOf y) = true ∧ (∀ i z', i < j → ds[i]? = some z' → eqV (vOf z') (vOf y) = false) ∧ Q (.int (j : Nat)) m
def mCnt : RM2 := fun d ds m Q => match ds with | [y] => cntK d y m Q | _ => False
def mIdx : RM2 := fun d ds m Q => match ds with | [y] => idxK d y m Q | _ => False
theorem one_rep {G : Hp} {vs : List V} {y : D} (r : Reps K G vs [y]) : ∃ v, vs = [v] ∧ Rep K G v y := by
  cases r with
  | cons r1 r2 => cases r2; exact ⟨_, rfl, r1⟩
theorem cm_cnt : CvM K "list" (rCntF K) mCnt := fun H m d v ds vs Q Q' hm r rs h k => by
  unfold mCnt at h
  split at h
  · unfold cntK at h
    obtain ⟨es, e, f1, f2, q⟩ := h.out
    obtain ⟨w, rfl, ry⟩ := one_rep rs
    obtain ⟨a, ws, rfl, h1, h2⟩ := lstOf r hm e
    have ⟨e1, g1⟩ := flat_rep ry f1
    have ⟨e2, g2⟩ := flat_reps h2 f2
    refine ⟨a, ws, w, rfl, rfl, h1, g1, g2, ?_⟩
    have z := k _ _ (.same hm (.int _) q)
    rw [e1, e2, List.countP_map]
    exact z
  · exact h.elim
theorem cm_idx : CvM K "list" (rIndex K) mIdx := fun H m d v ds vs Q Q' hm r rs h k => by
  unfold mIdx at h
  split at h
  · unfold idxK at h
    obtain ⟨es, j, z, e, f1, f2, hz, hy, hno, q⟩ := h.out
    obtain ⟨w, rfl, ry⟩ := one_rep rs
    obtain ⟨a, ws, rfl, h1, h2⟩ := lstOf r hm e
    have ⟨e1, g1⟩ := flat_rep ry f1
    have ⟨e2, g2⟩ := flat_reps h2 f2
    refine ⟨a, ws, w, j, vOf z, rfl, rfl, h1, g1, g2, ?_, ?_, fun i z' hi hz' => ?_, k _ _ (.same hm (.int _) q)⟩
    · rw [e2, List.getElem?_map, hz] <;> rfl
    · rw [e1]; exact hy
    · rw [e2, List.getElem?_map] at hz'
      cases hq : es[i]? with
      | none => rw [hq] at hz'; cases hz'
      | some z2 =>
        rw [hq] at hz'
        cases hz'
        rw [e1]
        exact hno i z2 hi hq
  · exact h.elim
variable {ω : Bx} {o e : Expr} {to te : TE2} {apos cpos : Pos}
theorem m_count1M (ho : PE2 X ω o to) (he : PE2 X ω e te) (hbase : attributeBase o "count" X.env (eval o X.env) = eval o X.env := by rfl)
    (hline : (apos.endLine == cpos.line) = true := by rfl) (hs : starEach [e] X.env = (false, eval e X.env) :: starEach [] X.env := by rfl)
    (hfew : ((backTo cpos (starEach [e] X.env)).all (fun x => !x.1) && (backToKw cpos (keywordEach [] X.env)).all (fun x => x.1.isSome)
      && decide ([e].length + ([] : List Keyword).length + (if ([] : List Keyword).isEmpty then 0 else 1) < 30)) = true := by rfl) :
    PE2 X ω (.Call (.Attribute o "count" apos) [e] [] cpos) (tBM2 isL mCnt to (tCons2 te tNil2)) :=
  q_bm PySem.F.plainAttrs_list PySem.F.slot_list_count PySem.F.type_list_count mt_cntF cm_cnt ct_lst ho (qa_cons he qa_nil hs) hbase hfew hline hs
theorem m_index1M (ho : PE2 X ω o to) (he : PE2 X ω e te) (hbase : attributeBase o "index" X.env (eval o X.env) = eval o X.env := by rfl)
    (hline : (apos.endLine == cpos.line) = true := by rfl) (hs : starEach [e] X.env = (false, eval e X.env) :: starEach [] X.env := by rfl)
    (hfew : ((backTo cpos (starEach [e] X.env)).all (fun x => !x.1) && (backToKw cpos (keywordEach [] X.env)).all (fun x => x.1.isSome)
      && decide ([e].length + ([] : List Keyword).length + (if ([] : List Keyword).isEmpty then 0 else 1) < 30)) = true := by rfl) :
    PE2 X ω (.Call (.Attribute o "index" apos) [e] [] cpos) (tBM2 isL mIdx to (tCons2 te tNil2)) :=
  q_bm PySem.F.plainAttrs_list PySem.F.slot_list_index PySem.F.type_list_index mt_index cm_idx ct_lst ho (qa_cons he qa_nil hs) hbase hfew hline hs
end
section
variable {m : M} {Q : Kd} {x : D}
theorem flat_bls (bs : List Bool) : (bs.map D.bl).all flatD = true := by
  rw [List.all_map]
  exact List.all_eq_true.mpr fun _ _ => rfl
theorem cnt_b (bs : List Bool) (b : Bool) (e : lsD (res m x) = some (bs.map D.bl)) (q : Q (.int ((bs.count b : Nat) : Int)) m) : cntK x (.bl b) m Q := by
  unfold cntK
  refine ⟨⟨_, e, rfl, flat_bls bs, ?_⟩⟩
  have : (bs.map D.bl).countP (fun z => eqV (vOf z) (vOf (.bl b))) = bs.count b := by
    rw [List.countP_map]
    rfl
  rw [this]
  exact q
theorem idx_b (bs : List Bool) (b : Bool) (j : Nat) (e : lsD (res m x) = some (bs.map D.bl)) (h1 : bs[j]? = some b) (h2 : ∀ i, i < j → bs[i]? ≠ some b) (q : Q (.int (j : Int)) m) : idxK x (.bl b) m Q := by
  unfold idxK
  refine ⟨⟨_, j, .bl b, e, rfl, flat_bls bs, by rw [List.getElem?_map, h1] <;> rfl, by simp [vOf, eqV], fun i z hi hz => ?_, q⟩⟩
  rw [List.getElem?_map] at hz
  cases hq : bs[i]? with
  | none => rw [hq] at hz; cases hz
  | some c =>
    rw [hq] at hz
    cases hz
    show (c == b) = false
    refine beq_eq_false_iff_ne.mpr fun z => h2 i hi ?_
    rw [hq, z]
end
theorem upM_none {m : M} {p q : Addr} {c : C} (h : upM m p c q = none) : m q = none := by
  by_cases e : q = p
  · subst e; rw [upM_same] at h; cases h
  · rw [upM_ne e] at h; exact h
end Z

/-! Z24: numbers' texts, written and read, as lists of signs. -/
namespace Z
open PySem PySem.Spec PyProof.Rows L2
theorem notT {b : Bool} (h : (!b) = true) : b = false := by cases b <;> first | rfl | cases h
theorem notF {b : Bool} (h : (!b) = false) : b = true := by cases b <;> first | rfl | cases h
/-- a whole number's signs -/
def sgL (i : Int) : List Nat := if i < 0 then 45 :: TL.numL i.natAbs else TL.numL i.natAbs
theorem tl_int (i : Int) : TL.tl (Str.ofString (toString i)) = sgL i := by
  unfold sgL
  cases i with
  | ofNat n => rw [if_neg (show ¬ Int.ofNat n < 0 from Int.not_lt.mpr (Int.natCast_nonneg n))]; exact TL.tl_num n
  | negSucc n =>
    rw [if_pos (by omega)]
    have e : (toString (Int.negSucc n) : String) = "-" ++ toString ((n + 1 : Nat) : Int) := by
      show Int.repr (Int.negSucc n) = "-" ++ Int.repr ((n + 1 : Nat) : Int)
      rfl
    rw [e, TL.tl_ofString, String.toList_append, List.map_append, ← TL.tl_ofString (toString ((n + 1 : Nat) : Int)), TL.tl_num]
    rfl
theorem sgL_nat (n : Nat) : sgL n = TL.numL n := by unfold sgL; rw [if_neg (by omega)]; rfl
theorem sgL_neg {n : Nat} (h : 0 < n) : sgL (-(n : Int)) = 45 :: TL.numL n := by
  unfold sgL
  rw [if_pos (by omega)]
  congr 2
  omega
/-- a number as it is written -/
def numS (p : Fr) : List Nat := if p.2 = 1 then sgL p.1 else sgL p.1 ++ 47 :: sgL p.2
def numStr (p : Fr) : Str := if p.2 = 1 then toString p.1 else (toString p.1 : Str) ++ Str.ofString "/" ++ (toString p.2 : Str)
theorem tl_numStr (p : Fr) : TL.tl (numStr p) = numS p := by
  unfold numStr numS
  split
  · exact tl_int _
  · rw [TL.tl_append, TL.tl_append, tl_int, tl_int, List.append_assoc]
    rfl
theorem sgL_free {i : Int} {s : Nat} (h : s < 45 ∨ 57 < s ∨ s = 47) : s ∉ sgL i := by
  unfold sgL
  have := TL.numL_free (n := i.natAbs) (s := s) (by omega)
  split
  · intro hm
    rw [List.mem_cons] at hm
    rcases hm with hm | hm
    · omega
    · exact this hm
  · exact this
/-! ### figures -/
def isFig (c : Nat) : Bool := decide (48 ≤ c) && decide (c ≤ 57)
def figsL (w : List Nat) : Bool := decide (1 ≤ w.length) && decide (w.length ≤ 400) && w.all isFig
theorem figs_all {w : List Nat} (h : figsL w = true) : NumText.AllDigits w := fun c hc => by
  unfold figsL at h
  rw [Bool.and_eq_true] at h
  have := List.all_eq_true.mp h.2 c hc
  unfold isFig at this
  rw [Bool.and_eq_true] at this
  exact ⟨of_decide_eq_true this.1, of_decide_eq_true this.2⟩
theorem figs_len {w : List Nat} (h : figsL w = true) : 1 ≤ w.length ∧ w.length ≤ 400 := by
  unfold figsL at h
  rw [Bool.and_eq_true, Bool.and_eq_true] at h
  exact ⟨of_decide_eq_true h.1.1, of_decide_eq_true h.1.2⟩
theorem figs_of {w : List Nat} (h1 : 1 ≤ w.length) (h2 : w.length ≤ 400) (h : NumText.AllDigits w) : figsL w = true := by
  unfold figsL
  rw [decide_eq_true h1, decide_eq_true h2, Bool.true_and, Bool.true_and]
  exact List.all_eq_true.mpr fun c hc => by
    have := h c hc
    unfold isFig
    rw [decide_eq_true this.1, decide_eq_true this.2]
    rfl
theorem figs_text {z : Str} (h : figsL (TL.tl z) = true) : intText? z = some ((NumText.digitsVal (TL.tl z) : Nat) : Int) :=
  intText_digits (figs_all h) (fun e => by have := (figs_len h).1; rw [show TL.tl z = [] from e] at this; simp at this) (by have := (figs_len h).2; rw [TL.len_tl]; omega)
theorem figs_num {n : Nat} (h : n < 10 ^ 400) : figsL (TL.numL n) = true :=
  figs_of (List.length_pos_iff.mpr (TL.numL_ne n)) (TL.numL_len (by decide) h) (TL.numL_digits n)
theorem dv_snoc (w : List Nat) (c : Nat) : NumText.digitsVal (w ++ [c]) = NumText.digitsVal w * 10 + (c - 48) := by
  unfold NumText.digitsVal
  rw [List.foldl_append]
  rfl
theorem dv_lt : ∀ (k : Nat) (w : List Nat), w.length = k → NumText.AllDigits w → NumText.digitsVal w < 10 ^ k
  | 0, w, hk, _ => by rw [List.eq_nil_of_length_eq_zero hk]; decide
  | k + 1, w, hk, hd => by
    have hne : w ≠ [] := fun e => by rw [e] at hk; cases hk
    obtain ⟨v, c, rfl⟩ : ∃ v c, w = v ++ [c] := ⟨w.dropLast, w.getLast hne, (List.dropLast_concat_getLast hne).symm⟩
    have hcd := hd c (by simp)
    have ih := dv_lt k v (by simpa using hk) fun d h => hd d (List.mem_append_left _ h)
    rw [dv_snoc, Nat.pow_succ]
    omega
theorem figs_lt {w : List Nat} (h : figsL w = true) : NumText.digitsVal w < 10 ^ 400 :=
  Nat.lt_of_lt_of_le (dv_lt _ w rfl (figs_all h)) (Nat.pow_le_pow_right (by decide) (figs_len h).2)
/-- figures without a nought ahead are the number's -/
def canon (w : List Nat) : Bool := !(w.head? == some 48 && !(w == [48]))
theorem canon_num (n : Nat) : canon (TL.numL n) = true := by
  induction n using Nat.strongRecOn with
  | _ n ih =>
    by_cases h : n < 10
    · rw [TL.numL_lt h]
      unfold canon
      by_cases h0 : n = 0
      · subst h0; rfl
      · have : ((48 + n == 48) : Bool) = false := by simpa using h0
        simp [this, h0]
    · rw [TL.numL_step (by omega)]
      have h1 := ih (n / 10) (by omega)
      have hne := TL.numL_ne (n / 10)
      cases e : TL.numL (n / 10) with
      | nil => exact absurd e hne
      | cons d r =>
        rw [e] at h1
        unfold canon at h1 ⊢
        by_cases hd : d = 48
        · subst hd
          have hr : r = [] := by simpa using h1
          subst hr
          have := TL.numL_val (n / 10)
          rw [e] at this
          have : n / 10 = 0 := this.symm
          omega
        · simp [hd]
theorem num_canon : ∀ (k : Nat) (w : List Nat), w.length = k → w ≠ [] → NumText.AllDigits w → canon w = true → TL.numL (NumText.digitsVal w) = w
  | 0, w, hk, hne, _, _ => absurd (List.eq_nil_of_length_eq_zero hk) hne
  | k + 1, w, hk, hne, hd, hc => by
    obtain ⟨v, c, rfl⟩ : ∃ v c, w = v ++ [c] := ⟨w.dropLast, w.getLast hne, (List.dropLast_concat_getLast hne).symm⟩
    have hcd := hd c (by simp)
    rw [dv_snoc]
    by_cases hv : v = []
    · subst hv
      show TL.numL (0 * 10 + (c - 48)) = [c]
      rw [Nat.zero_mul, Nat.zero_add, TL.numL_lt (by omega)]
      congr 1
      omega
    · have hvd : NumText.AllDigits v := fun d h => hd d (List.mem_append_left _ h)
      have h48 : v.head? ≠ some 48 := by
        intro h
        unfold canon at hc
        cases v with
        | nil => exact hv rfl
        | cons d r =>
          simp at h
          subst h
          simp at hc
      have hvc : canon v = true := by
        unfold canon
        have : (v.head? == some 48) = false := by simpa using h48
        rw [this]
        rfl
      have ih := num_canon k v (by simpa using hk) hv hvd hvc
      have hpos : 0 < NumText.digitsVal v := by
        rcases Nat.eq_zero_or_pos (NumText.digitsVal v) with h | h
        · rw [h] at ih
          rw [← ih] at h48
          exact absurd rfl h48
        · exact h
      rw [TL.numL_step (by omega)]
      have e1 : (NumText.digitsVal v * 10 + (c - 48)) / 10 = NumText.digitsVal v := by omega
      have e2 : 48 + (NumText.digitsVal v * 10 + (c - 48)) % 10 = c := by omega
      rw [e1, e2, ih]
theorem num_iff {w : List Nat} (h : figsL w = true) : TL.numL (NumText.digitsVal w) = w ↔ canon w = true :=
  ⟨fun e => by rw [← e]; exact canon_num _, fun c => num_canon _ w rfl (fun e => by have := (figs_len h).1; rw [e] at this; simp at this) (figs_all h) c⟩
/-! ### read -/
def chkL (neg : Bool) (o u : Nat) (l : List Nat) : Option Fr :=
  if 0 < u ∧ Int.gcd (if neg then -(o : Int) else o) u = 1 ∧ numS (if neg then -(o : Int) else o, (u : Int)) = l then some (if neg then -(o : Int) else o, (u : Int)) else none
def negL (l : List Nat) : Bool := l.take 1 == [45]
def restL (l : List Nat) : List Nat := l.drop (if negL l then 1 else 0)
def readL (l : List Nat) : Option Fr := match TL.spl [47] 0 [] (restL l) with
  | [w] => if figsL w = true then chkL (negL l) (NumText.digitsVal w) 1 l else none
  | [w, v] => if figsL w = true ∧ figsL v = true then chkL (negL l) (NumText.digitsVal w) (NumText.digitsVal v) l else none
  | _ => none
theorem negL_iff {l : List Nat} : negL l = true ↔ ∃ r, l = 45 :: r := by
  unfold negL
  cases l with
  | nil => simp
  | cons c r => simp
theorem rest_neg {l : List Nat} (h : negL l = true) : l = 45 :: restL l := by
  unfold restL
  obtain ⟨r, rfl⟩ := negL_iff.mp h
  rw [h]
  rfl
theorem rest_pos {l : List Nat} (h : negL l = false) : restL l = l := by
  unfold restL
  rw [h]
  rfl
theorem chk_some {neg : Bool} {o u : Nat} {l : List Nat} {p : Fr} (h : chkL neg o u l = some p) : Lo p ∧ numS p = l ∧ p = (if neg then -(o : Int) else o, (u : Int)) := by
  unfold chkL at h
  by_cases c : 0 < u ∧ Int.gcd (if neg then -(o : Int) else o) u = 1 ∧ numS (if neg then -(o : Int) else o, (u : Int)) = l
  · rw [if_pos c] at h
    have h := Option.some.inj h
    subst h
    exact ⟨⟨by show (0 : Int) < u; omega, c.2.1⟩, c.2.2, rfl⟩
  · rw [if_neg c] at h
    cases h
theorem chk_yes {neg : Bool} {o u : Nat} {l : List Nat} {i : Int} (e : (if neg then -(o : Int) else o) = i) (h1 : 0 < u) (h2 : Int.gcd i u = 1) (h3 : numS (i, (u : Int)) = l) : chkL neg o u l = some (i, (u : Int)) := by
  unfold chkL
  rw [e, if_pos ⟨h1, h2, h3⟩]
theorem chk_no {neg : Bool} {o u : Nat} {l : List Nat} {i : Int} (e : (if neg then -(o : Int) else o) = i) (h : ¬ (0 < u ∧ Int.gcd i u = 1 ∧ numS (i, (u : Int)) = l)) : chkL neg o u l = none := by
  unfold chkL
  rw [e, if_neg h]
theorem read_some {l : List Nat} {p : Fr} (h : readL l = some p) : Lo p ∧ numS p = l := by
  unfold readL at h
  split at h
  · split at h
    · have := chk_some h; exact ⟨this.1, this.2.1⟩
    · cases h
  · split at h
    · have := chk_some h; exact ⟨this.1, this.2.1⟩
    · cases h
  · cases h
theorem negL_num {i : Int} {r : List Nat} : negL (sgL i ++ r) = decide (i < 0) := by
  unfold sgL
  by_cases h : i < 0
  · rw [if_pos h, decide_eq_true h]
    rfl
  · rw [if_neg h, decide_eq_false h]
    cases e : TL.numL i.natAbs with
    | nil => exact absurd e (TL.numL_ne _)
    | cons d s =>
      have : d ≠ 45 := fun z => TL.numL_free (n := i.natAbs) (s := 45) (by omega) (by rw [e, z]; simp)
      unfold negL
      simp [this]
theorem rest_num {i : Int} {r : List Nat} : restL (sgL i ++ r) = TL.numL i.natAbs ++ r := by
  unfold restL
  rw [negL_num]
  unfold sgL
  by_cases h : i < 0
  · rw [if_pos h, decide_eq_true h]
    rfl
  · rw [if_neg h, decide_eq_false h]
    rfl
theorem abs_back {i : Int} : (if decide (i < 0) = true then -((i.natAbs : Nat) : Int) else ((i.natAbs : Nat) : Int)) = i := by
  by_cases h : i < 0
  · rw [if_pos (decide_eq_true h)]; omega
  · rw [if_neg (by simpa using h)]; omega
/-- what is written is read -/
theorem read_num {p : Fr} (h : Lo p) (h1 : p.1.natAbs < 10 ^ 400) (h2 : p.2.natAbs < 10 ^ 400) : readL (numS p) = some p := by
  obtain ⟨a, b⟩ := p
  obtain ⟨hb, hg⟩ := h
  have hb : 0 < b := hb
  have e2 : ((b.natAbs : Nat) : Int) = b := by omega
  by_cases h1b : b = 1
  · subst h1b
    have en : numS (a, 1) = sgL a ++ [] := by unfold numS; rw [if_pos rfl, List.append_nil]
    unfold readL
    rw [en, rest_num, negL_num, List.append_nil, TL.spl_last1 (TL.numL_free (by omega)), List.nil_append]
    dsimp only
    rw [if_pos (figs_num h1), TL.numL_val]
    unfold chkL
    rw [abs_back, if_pos ⟨by decide, hg, by rw [show ((1 : Nat) : Int) = 1 from rfl, en]⟩]
    rfl
  · have en : numS (a, b) = sgL a ++ (47 :: TL.numL b.natAbs) := by
      unfold numS
      rw [if_neg h1b]
      show sgL a ++ 47 :: sgL b = _
      have : sgL b = TL.numL b.natAbs := by unfold sgL; rw [if_neg (by omega)]
      rw [this]
    unfold readL
    rw [en, rest_num, negL_num]
    have : TL.spl [47] 0 [] (TL.numL a.natAbs ++ 47 :: TL.numL b.natAbs) = [TL.numL a.natAbs, TL.numL b.natAbs] := by
      have h := TL.spl_part1 (s := 47) (S := []) (p := TL.numL a.natAbs) (rest := TL.numL b.natAbs) (acc := []) (TL.numL_free (by omega))
      rw [List.nil_append, TL.spl_last1 (TL.numL_free (by omega)), List.nil_append] at h
      exact h
    rw [this]
    dsimp only
    rw [if_pos ⟨figs_num h1, figs_num h2⟩, TL.numL_val, TL.numL_val]
    unfold chkL
    rw [abs_back, e2, if_pos ⟨by omega, hg, en⟩]
/-! ### texts as data -/
theorem start_neg {z : Str} : Txt.startswith z (Str.ofString "-") = negL (TL.tl z) := by
  unfold Txt.startswith negL
  rw [PySem.StrLaws.subAt_eq, List.drop_zero]
  show (decide (0 + 1 ≤ z.length) && ((TL.tl z).take 1 == [45])) = _
  rw [TL.len_tl]
  cases TL.tl z <;> simp
theorem tl_cut (z : Str) (k : Nat) : TL.tl (cutS z (some (k : Int)) none) = (TL.tl z).drop k := by
  have h := cut_lo (TL.tl z) k
  unfold cutD at h
  have hl : (TL.tl z).length = z.length := (TL.len_tl z).symm
  rw [hl] at h
  exact h
theorem tl_cutHi (z : Str) (k : Nat) : TL.tl (cutS z none (some (k : Int))) = (TL.tl z).take k := by
  have h := cut_hi (TL.tl z) k
  unfold cutD at h
  have hl : (TL.tl z).length = z.length := (TL.len_tl z).symm
  rw [hl] at h
  exact h
theorem cut_rest {z : Str} : TL.tl (cutS z (some (if negL (TL.tl z) = true then 1 else 0)) none) = restL (TL.tl z) := by
  unfold restL
  cases negL (TL.tl z) with
  | true => exact tl_cut z 1
  | false => exact tl_cut z 0
theorem spl_ne (s : Nat) : ∀ (l acc : List Nat), TL.spl [s] 0 acc l ≠ []
  | [], acc => by rw [TL.spl_nil]; simp
  | c :: r, acc => by
    show (if TL.pre [s] (c :: r) = true then acc :: TL.spl [s] 0 [] r else TL.spl [s] 0 (acc ++ [c]) r) ≠ []
    split
    · simp
    · exact spl_ne s r _
theorem spl_back (s : Nat) : ∀ (l acc : List Nat), TL.joinL [s] (TL.spl [s] 0 acc l) = acc ++ l
  | [], acc => by rw [TL.spl_nil]; show acc = acc ++ []; rw [List.append_nil]
  | c :: r, acc => by
    by_cases h : TL.pre [s] (c :: r) = true
    · have hc : c = s := by
        unfold TL.pre at h
        simpa using h
      rw [TL.spl_hit h]
      show TL.joinL [s] (acc :: TL.spl [s] 0 [] r) = _
      have ih := spl_back s r []
      cases e : TL.spl [s] 0 [] r with
      | nil => exact absurd e (spl_ne s r [])
      | cons q qs =>
        rw [e] at ih
        show acc ++ ([s] ++ TL.joinL [s] (q :: qs)) = _
        rw [ih, hc]
        rfl
    · have h : TL.pre [s] (c :: r) = false := by simpa using h
      rw [TL.spl_miss h, spl_back s r, List.append_assoc]
      rfl
theorem spl_len (s : Nat) : ∀ (l acc : List Nat), ∀ w ∈ TL.spl [s] 0 acc l, w.length ≤ acc.length + l.length
  | [], acc => fun w h => by rw [TL.spl_nil, List.mem_singleton] at h; subst h; simp
  | c :: r, acc => fun w hw => by
    by_cases h : TL.pre [s] (c :: r) = true
    · rw [TL.spl_hit h, List.mem_cons] at hw
      rcases hw with rfl | hw
      · omega
      · have := spl_len s r [] w hw
        simp at this ⊢
        omega
    · have h : TL.pre [s] (c :: r) = false := by simpa using h
      rw [TL.spl_miss h] at hw
      have := spl_len s r _ w hw
      simp at this ⊢
      omega
theorem split_tl (z : Str) (s : Nat) (hs : s < 256) : (Txt.split z ⟨#[s]⟩).map TL.tl = TL.spl [s] 0 [] (TL.tl z) :=
  TL.split_spl z ⟨#[s]⟩ (by show [s] ≠ []; simp) (TL.kind_ok (by simp [hs]))
theorem figures_tl : TL.tl (Str.ofString "0123456789") = [48, 49, 50, 51, 52, 53, 54, 55, 56, 57] := by decide
theorem fig_mem (c : Nat) : decide (c ∈ (Str.ofString "0123456789").cps.toList) = isFig c := by
  have : (Str.ofString "0123456789").cps.toList = [48, 49, 50, 51, 52, 53, 54, 55, 56, 57] := figures_tl
  rw [this]
  unfold isFig
  rw [← Bool.decide_and]
  apply decide_eq_decide.mpr
  simp
  omega
section
variable {m : M} {Q : Kd} {x y : D}
theorem in_sg {z : Str} {c : Nat} (e : res m y = .str z) (q : Q (.bl (decide (c ∈ z.cps.toList))) m) : oInU false (.str ⟨#[c]⟩) y m Q := by
  unfold oInU
  refine ⟨?_⟩
  rw [e]
  exact q
theorem notin_sg {z : Str} {c : Nat} (e : res m y = .str z) (q : Q (.bl (!decide (c ∈ z.cps.toList))) m) : oInU true (.str ⟨#[c]⟩) y m Q := by
  unfold oInU
  refine ⟨?_⟩
  rw [e]
  exact q
end
def okT (z : Str) : Bool := z.cps.all (· < 0x110000)
theorem okT_app {a b : Str} (h1 : okT a = true) (h2 : okT b = true) : okT (a ++ b) = true := by
  unfold okT at *
  rw [Str.cps_append, Array.all_append, h1, h2]
  rfl
theorem okT_of {a : Str} (h : ∀ c ∈ TL.tl a, c < 0x110000) : okT a = true := by
  unfold okT
  rw [← Array.all_toList]
  exact List.all_eq_true.mpr fun c hc => decide_eq_true (h c hc)
theorem okT_mem {a : Str} (h : okT a = true) : ∀ c ∈ TL.tl a, c < 0x110000 := by
  unfold okT at h
  rw [← Array.all_toList] at h
  exact fun c hc => of_decide_eq_true (List.all_eq_true.mp h c hc)
theorem numL_ok {n : Nat} : ∀ c ∈ TL.numL n, c < 0x110000 := fun c hc => by have := TL.numL_digits n c hc; omega
theorem sgL_ok {i : Int} : ∀ c ∈ sgL i, c < 0x110000 := fun c hc => by
  unfold sgL at hc
  split at hc
  · rw [List.mem_cons] at hc
    rcases hc with rfl | hc
    · decide
    · exact numL_ok c hc
  · exact numL_ok c hc
theorem numS_ok {p : Fr} : ∀ c ∈ numS p, c < 0x110000 := fun c hc => by
  unfold numS at hc
  split at hc
  · exact sgL_ok c hc
  · rw [List.mem_append, List.mem_cons] at hc
    rcases hc with hc | rfl | hc
    · exact sgL_ok c hc
    · decide
    · exact sgL_ok c hc
theorem okT_num (p : Fr) : okT (numStr p) = true := okT_of fun c hc => numS_ok c (by rw [tl_numStr] at hc; exact hc)
theorem sgL_len {i : Int} {k : Nat} (hk : 0 < k) (h : i.natAbs < 10 ^ k) : (sgL i).length ≤ k + 1 := by
  have := TL.numL_len hk h
  unfold sgL
  split
  · rw [List.length_cons]; omega
  · omega
theorem int_len {i : Int} {k : Nat} (hk : 0 < k) (h : i.natAbs < 10 ^ k) : (Str.ofString (toString i)).length ≤ k + 1 := by
  rw [TL.len_tl, tl_int]
  exact sgL_len hk h
theorem numStr_len {p : Fr} {k : Nat} (hk : 0 < k) (h : p.1.natAbs < 10 ^ k) (h2 : p.2.natAbs < 10 ^ k) : (numStr p).length ≤ 2 * k + 3 := by
  have h1 := sgL_len hk h
  have h2 := sgL_len hk h2
  rw [TL.len_tl, tl_numStr]
  unfold numS
  split
  · omega
  · rw [List.length_append, List.length_cons]; omega
theorem lg400 {n : Nat} (h : n < 10 ^ 400) : n.log2 < 1920 := lg_lt (by decide) (Nat.lt_trans h (by decide +kernel))
/-! ### read by the law's own way -/
theorem words_num {p : Fr} (h0 : 0 < p.2) : TL.spl [47] 0 [] (restL (numS p)) = (if p.2 = 1 then [TL.numL p.1.natAbs] else [TL.numL p.1.natAbs, TL.numL p.2.natAbs]) := by
  unfold numS
  by_cases h : p.2 = 1
  · rw [if_pos h, if_pos h]
    have := rest_num (i := p.1) (r := [])
    rw [List.append_nil, List.append_nil] at this
    rw [this, TL.spl_last1 (TL.numL_free (by omega)), List.nil_append]
  · rw [if_neg h, if_neg h]
    have e : sgL p.2 = TL.numL p.2.natAbs := by unfold sgL; rw [if_neg (by omega)]
    rw [e, rest_num]
    have h := TL.spl_part1 (s := 47) (S := []) (p := TL.numL p.1.natAbs) (rest := TL.numL p.2.natAbs) (acc := []) (TL.numL_free (by omega))
    rw [List.nil_append, TL.spl_last1 (TL.numL_free (by omega)), List.nil_append] at h
    exact h
theorem read_figs {l : List Nat} {p : Fr} (h : readL l = some p) : ∀ w ∈ TL.spl [47] 0 [] (restL l), figsL w = true := by
  unfold readL at h
  split at h
  · rename_i w e
    rw [e]
    intro v hv
    rw [List.mem_singleton] at hv
    subst hv
    by_cases c : figsL v = true
    · exact c
    · rw [if_neg c] at h; cases h
  · rename_i w v e
    rw [e]
    by_cases c : figsL w = true ∧ figsL v = true
    · intro u hu
      simp at hu
      rcases hu with rfl | rfl
      · exact c.1
      · exact c.2
    · rw [if_neg c] at h; cases h
  · cases h
theorem read_canon {l : List Nat} {p : Fr} (h : readL l = some p) : ∀ w ∈ TL.spl [47] 0 [] (restL l), canon w = true := by
  obtain ⟨h1, h2⟩ := read_some h
  rw [← h2, words_num h1.1]
  intro w hw
  split at hw
  · rw [List.mem_singleton] at hw; subst hw; exact canon_num _
  · simp at hw
    rcases hw with rfl | rfl <;> exact canon_num _
theorem none_of {l : List Nat} {w : List Nat} (hw : w ∈ TL.spl [47] 0 [] (restL l)) (h : figsL w = false ∨ canon w = false) : readL l = none := by
  cases e : readL l with
  | none => rfl
  | some p =>
    have h1 := read_figs e w hw
    have h2 := read_canon e w hw
    rcases h with h | h
    · rw [h1] at h; cases h
    · rw [h2] at h; cases h
theorem none_many {l : List Nat} (h : 2 < (TL.spl [47] 0 [] (restL l)).length) : readL l = none := by
  unfold readL
  split
  · rename_i e; rw [e] at h; simp at h
  · rename_i e; rw [e] at h; simp at h
  · rfl
theorem join_rest (l : List Nat) : l = if negL l = true then 45 :: TL.joinL [47] (TL.spl [47] 0 [] (restL l)) else TL.joinL [47] (TL.spl [47] 0 [] (restL l)) := by
  rw [spl_back, List.nil_append]
  cases h : negL l with
  | true => rw [if_pos rfl]; exact rest_neg h
  | false => rw [if_neg (by simp)]; exact (rest_pos h).symm
/-- the sign put before a number -/
def sgn (n : Bool) (o : Nat) : Int := if n then -(o : Int) else o
theorem numL_zero : TL.numL 0 = [48] := TL.numL_lt (by decide)
theorem numL_not45 {n : Nat} {r : List Nat} : TL.numL n ≠ 45 :: r := fun e => TL.numL_free (n := n) (s := 45) (by omega) (by rw [e]; simp)
theorem read_one {l w : List Nat} (hs : TL.spl [47] 0 [] (restL l) = [w]) (hf : figsL w = true) (hc : canon w = true) :
    readL l = if (negL l && decide (NumText.digitsVal w = 0)) = true then none else some (sgn (negL l) (NumText.digitsVal w), 1) := by
  have hl := join_rest l
  rw [hs] at hl
  have hn := (num_iff hf).mpr hc
  unfold readL
  rw [hs]
  dsimp only
  rw [if_pos hf]
  generalize NumText.digitsVal w = o at *
  cases h : negL l with
  | true =>
    rw [h, if_pos rfl] at hl
    have hl : l = 45 :: w := hl
    rw [Bool.true_and]
    by_cases h0 : o = 0
    · rw [if_pos (decide_eq_true h0)]
      refine chk_no (i := -(o : Int)) rfl fun c => ?_
      have c := c.2.2
      rw [hl, h0] at c
      exact numL_not45 (n := 0) (show TL.numL 0 = 45 :: w from c)
    · rw [if_neg (by simpa using h0)]
      refine chk_yes rfl (by decide) (by simp) ?_
      show sgL (-(o : Int)) = l
      rw [sgL_neg (by omega), hn, hl]
  | false =>
    rw [h, if_neg (by simp)] at hl
    have hl : l = w := hl
    rw [Bool.false_and, if_neg (by simp)]
    refine chk_yes rfl (by decide) (by simp) ?_
    show sgL (o : Int) = l
    rw [sgL_nat, hn, hl]
theorem gcd_sgn (n : Bool) (o u : Nat) : Int.gcd (sgn n o) u = Nat.gcd o u := by
  unfold sgn
  cases n
  · rfl
  · rw [if_pos rfl, Int.neg_gcd]; rfl
theorem read_two {l w v : List Nat} (hs : TL.spl [47] 0 [] (restL l) = [w, v]) (hf : figsL w = true) (hc : canon w = true) (hf2 : figsL v = true) (hc2 : canon v = true) :
    readL l = if NumText.digitsVal v < 2 ∨ NumText.digitsVal w = 0 ∨ Nat.gcd (NumText.digitsVal w) (NumText.digitsVal v) ≠ 1 then none else some (sgn (negL l) (NumText.digitsVal w), (NumText.digitsVal v : Int)) := by
  have hl := join_rest l
  rw [hs] at hl
  have hn := (num_iff hf).mpr hc
  have hn2 := (num_iff hf2).mpr hc2
  unfold readL
  rw [hs]
  dsimp only
  rw [if_pos ⟨hf, hf2⟩]
  generalize NumText.digitsVal w = o at *
  generalize NumText.digitsVal v = u at *
  have hl : l = (if negL l = true then 45 :: (w ++ 47 :: v) else w ++ 47 :: v) := hl
  have h47 : 47 ∈ l := by rw [hl]; split <;> simp
  by_cases hu : u < 2
  · rw [if_pos (.inl hu)]
    refine chk_no (i := sgn (negL l) o) rfl fun c => ?_
    have e : numS (sgn (negL l) o, (u : Int)) = sgL (sgn (negL l) o) := by
      unfold numS
      rw [if_pos (by show (u : Int) = 1; omega)]
    rw [e] at c
    rw [← c.2.2] at h47
    exact sgL_free (by omega) h47
  by_cases ho : o = 0
  · rw [if_pos (.inr (.inl ho))]
    refine chk_no (i := sgn (negL l) o) rfl fun c => ?_
    have c := c.2.1
    rw [gcd_sgn, ho, Nat.gcd_zero_left] at c
    omega
  by_cases hg : Nat.gcd o u = 1
  · rw [if_neg (by omega)]
    refine chk_yes (i := sgn (negL l) o) rfl (by omega) (by rw [gcd_sgn]; exact hg) ?_
    unfold numS
    rw [if_neg (by show ¬ (u : Int) = 1; omega)]
    show sgL (sgn (negL l) o) ++ 47 :: sgL u = l
    rw [sgL_nat, hn2]
    have : sgL (sgn (negL l) o) = if negL l = true then 45 :: w else w := by
      unfold sgn
      cases negL l
      · rw [if_neg (by simp), if_neg (by simp), sgL_nat, hn]
      · rw [if_pos rfl, if_pos rfl, sgL_neg (by omega), hn]
    rw [this]
    refine Eq.trans ?_ hl.symm
    cases negL l <;> rfl
  · rw [if_pos (.inr (.inr hg))]
    refine chk_no (i := sgn (negL l) o) rfl fun c => ?_
    rw [gcd_sgn] at c
    exact hg c.2.1
theorem at2s {x y : Str} {b : Bool} : atI [D.str x, .str y] (if b = true then 1 else 0) = some (.str (if b = true then y else x)) := by cases b <;> rfl
theorem at2i {x y : Int} {b : Bool} : atI [D.int x, .int y] (if b = true then 1 else 0) = some (.int (if b = true then y else x)) := by cases b <;> rfl
theorem spl_mem (s : Nat) : ∀ (l acc : List Nat), ∀ w ∈ TL.spl [s] 0 acc l, ∀ c ∈ w, c ∈ acc ++ l
  | [], acc => fun w h c hc => by rw [TL.spl_nil, List.mem_singleton] at h; subst h; simpa using hc
  | d :: r, acc => fun w hw c hc => by
    by_cases h : TL.pre [s] (d :: r) = true
    · rw [TL.spl_hit h, List.mem_cons] at hw
      rcases hw with rfl | hw
      · exact List.mem_append_left _ hc
      · have := spl_mem s r [] w hw c hc
        simp at this ⊢
        exact .inr (.inr this)
    · have h : TL.pre [s] (d :: r) = false := by simpa using h
      rw [TL.spl_miss h] at hw
      have := spl_mem s r _ w hw c hc
      simp at this ⊢
      rcases this with h | h | h
      · exact .inl h
      · exact .inr (.inl h)
      · exact .inr (.inr h)
theorem rest_mem {l : List Nat} : ∀ c ∈ restL l, c ∈ l := fun c h => by unfold restL at h; exact List.mem_of_mem_drop h
theorem figs_f1 {w : List Nat} (h : w = []) : figsL w = false := by subst h; rfl
theorem figs_f2 {w : List Nat} (h : 400 < w.length) : figsL w = false := by
  unfold figsL
  rw [decide_eq_false (p := w.length ≤ 400) (by omega), Bool.and_false, Bool.false_and]
theorem figs_f3 {w : List Nat} (h : w.filter (fun c => !isFig c) ≠ []) : figsL w = false := by
  cases e : figsL w with
  | false => rfl
  | true =>
    exfalso
    apply h
    rw [List.filter_eq_nil_iff]
    intro c hc
    unfold figsL at e
    rw [Bool.and_eq_true] at e
    have := List.all_eq_true.mp e.2 c hc
    rw [this]
    simp
theorem figs_t {w : List Nat} (h1 : w ≠ []) (h2 : ¬ 400 < w.length) (h3 : w.filter (fun c => !isFig c) = []) : figsL w = true := by
  unfold figsL
  have h4 : 1 ≤ w.length := List.length_pos_iff.mpr h1
  rw [decide_eq_true h4, decide_eq_true (by omega), Bool.true_and, Bool.true_and]
  rw [List.filter_eq_nil_iff] at h3
  exact List.all_eq_true.mpr fun c hc => by simpa using h3 c hc
theorem canon_f {c : Nat} {w : List Nat} (h0 : w[0]? = some c) (h : c = 48) (h2 : w ≠ [48]) : canon w = false := by
  subst h
  cases w with
  | nil => simp at h0
  | cons d r =>
    have : d = 48 := by
      have h0 : some d = some 48 := h0
      cases h0
      rfl
    subst this
    unfold canon
    have : ((48 :: r) == [48]) = false := by simpa using h2
    rw [this]
    rfl
theorem canon_t1 {c : Nat} {w : List Nat} (h0 : w[0]? = some c) (h : c ≠ 48) : canon w = true := by
  cases w with
  | nil => simp at h0
  | cons d r =>
    have : d = c := by
      have h0 : some d = some c := h0
      cases h0
      rfl
    subst this
    unfold canon
    have : ((d :: r).head? == some 48) = false := by simpa using h
    rw [this]
    rfl
theorem read_lt {l : List Nat} {p : Fr} (h : readL l = some p) : p.2.natAbs < 10 ^ 400 := by
  unfold readL at h
  split at h
  · split at h
    · have e := (chk_some h).2.2
      rw [e]
      show (1 : Nat) < 10 ^ 400
      decide +kernel
    · cases h
  · split at h
    · rename_i c
      have e := (chk_some h).2.2
      rw [e]
      exact figs_lt c.2
    · cases h
  · cases h
end Z

/-! Z25: dicts as tables: get, [], in, store, pop, copies, ==. -/
namespace Z
open PySem PySem.Spec PyProof.Rows L2
section
variable {α : Type}
def gtK (l : List (Key × α)) (k : Key) : Option α := (l.find? fun p => decide (p.1 = k)).map (·.2)
def ptK (l : List (Key × α)) (k : Key) (v : α) : List (Key × α) := if (l.any fun p => decide (p.1 = k)) = true then l.map (fun p => if p.1 = k then (p.1, v) else p) else l ++ [(k, v)]
def drK (l : List (Key × α)) (k : Key) : List (Key × α) := l.filter fun p => decide (p.1 ≠ k)
def mgK (l more : List (Key × α)) : List (Key × α) := more.foldl (fun acc p => ptK acc p.1 p.2) l
theorem gtK_nil {k : Key} : gtK ([] : List (Key × α)) k = none := rfl
theorem gtK_pos {p : Key × α} {r : List (Key × α)} {k : Key} (e : p.1 = k) : gtK (p :: r) k = some p.2 := by simp [gtK, List.find?_cons, e]
theorem gtK_neg {p : Key × α} {r : List (Key × α)} {k : Key} (e : ¬ p.1 = k) : gtK (p :: r) k = gtK r k := by simp [gtK, List.find?_cons, e]
theorem gtK_any (k : Key) : ∀ kvs : List (Key × α), (kvs.any fun kv => decide (kv.1 = k)) = (gtK kvs k).isSome
  | [] => rfl
  | p :: r => by
    rw [List.any_cons]
    by_cases e : p.1 = k
    · simp only [gtK_pos e, decide_eq_true e, Bool.true_or, Option.isSome_some]
    · rw [gtK_neg e, decide_eq_false e, Bool.false_or]; exact gtK_any k r
theorem gtK_map (k j : Key) (y : α) : ∀ kvs : List (Key × α), gtK (kvs.map fun kv => if kv.1 = k then (kv.1, y) else kv) j = (gtK kvs j).map fun x => if j = k then y else x
  | [] => rfl
  | p :: r => by
    have ih := gtK_map k j y r
    rw [List.map_cons]
    by_cases h : p.1 = k
    · rw [if_pos h]
      by_cases e : p.1 = j
      · rw [gtK_pos (p := (p.1, y)) e, gtK_pos e, Option.map_some, if_pos (e.symm.trans h)]
      · rw [gtK_neg (p := (p.1, y)) e, gtK_neg e, ih]
    · rw [if_neg h]
      by_cases e : p.1 = j
      · rw [gtK_pos (p := p) e, gtK_pos e, Option.map_some, if_neg (fun z => h (e.trans z))]
      · rw [gtK_neg (p := p) e, gtK_neg e, ih]
theorem gtK_snoc (k j : Key) (y : α) : ∀ kvs : List (Key × α), gtK kvs k = none → gtK (kvs ++ [(k, y)]) j = if j = k then some y else gtK kvs j
  | [], _ => by
    by_cases e : k = j
    · rw [if_pos e.symm]; exact gtK_pos (p := (k, y)) e
    · rw [if_neg (fun z => e z.symm)]; exact gtK_neg (p := (k, y)) e
  | p :: r, hn => by
    rw [List.cons_append]
    have hk : ¬ p.1 = k := fun z => by rw [gtK_pos z] at hn; cases hn
    rw [gtK_neg hk] at hn
    have ih := gtK_snoc k j y r hn
    by_cases e : p.1 = j
    · rw [gtK_pos e, gtK_pos e, if_neg (fun z => hk (e.trans z))]
    · rw [gtK_neg e, gtK_neg e, ih]
theorem gtK_put (kvs : List (Key × α)) (k j : Key) (y : α) : gtK (ptK kvs k y) j = if j = k then some y else gtK kvs j := by
  unfold ptK
  by_cases a : (kvs.any fun kv => decide (kv.1 = k)) = true
  · rw [if_pos a, gtK_map]
    rw [gtK_any] at a
    by_cases e : j = k
    · obtain ⟨x, hx⟩ := Option.isSome_iff_exists.mp a
      rw [if_pos e, e, hx, Option.map_some, if_pos rfl]
    · rw [if_neg e]
      cases gtK kvs j with
      | none => rfl
      | some x => rw [Option.map_some, if_neg e]
  · rw [if_neg a]
    refine gtK_snoc k j y kvs ?_
    rw [gtK_any] at a
    cases q : gtK kvs k with
    | none => rfl
    | some x => rw [q] at a; exact (a rfl).elim
theorem ptK_new {kvs : List (Key × α)} {k : Key} (v : α) (h : gtK kvs k = none) : ptK kvs k v = kvs ++ [(k, v)] := by
  unfold ptK
  rw [gtK_any, h]
  exact if_neg (by simp)
theorem ptK_len (kvs : List (Key × α)) (k : Key) (v : α) : (ptK kvs k v).length ≤ kvs.length + 1 := by
  unfold ptK
  split
  · rw [List.length_map]; omega
  · rw [List.length_append, List.length_cons, List.length_nil]; omega
theorem gtK_mem {kvs : List (Key × α)} {k : Key} {v : α} (h : gtK kvs k = some v) : (k, v) ∈ kvs := by
  unfold gtK at h
  obtain ⟨p, h1, h2⟩ := Option.map_eq_some_iff.mp h
  have h3 := List.find?_some h1
  have h4 := List.mem_of_find?_eq_some h1
  have e : p.1 = k := of_decide_eq_true h3
  rw [← e, ← h2]; exact h4
theorem gtK_key {kvs : List (Key × α)} {k : Key} : (gtK kvs k).isSome = true ↔ k ∈ kvs.map Prod.fst := by
  rw [← gtK_any, List.any_eq_true, List.mem_map]
  exact ⟨fun ⟨p, a, b⟩ => ⟨p, a, of_decide_eq_true b⟩, fun ⟨p, a, b⟩ => ⟨p, a, decide_eq_true b⟩⟩
theorem gtK_nd : ∀ {kvs : List (Key × α)}, (kvs.map (·.1)).Nodup → ∀ p ∈ kvs, gtK kvs p.1 = some p.2
  | [], _, p, h => absurd h List.not_mem_nil
  | q :: r, nd, p, h => by
    rw [List.map_cons, List.nodup_cons] at nd
    rcases List.mem_cons.mp h with e | h'
    · rw [e]; exact gtK_pos rfl
    · rw [gtK_neg (fun z => nd.1 (List.mem_map.mpr ⟨p, h', z.symm⟩))]
      exact gtK_nd nd.2 p h'
theorem drK_get (kvs : List (Key × α)) (k j : Key) : gtK (drK kvs k) j = if j = k then none else gtK kvs j := by
  induction kvs with
  | nil => by_cases e : j = k <;> simp [drK, gtK, e]
  | cons p r ih =>
    unfold drK at ih ⊢
    rw [List.filter_cons]
    by_cases e : p.1 = k
    · rw [if_neg (by simp [e]), ih]
      by_cases h : j = k
      · rw [if_pos h, if_pos h]
      · rw [if_neg h, if_neg h, gtK_neg (fun z => h (z.symm.trans e))]
    · rw [if_pos (by simp [e])]
      by_cases h : p.1 = j
      · rw [gtK_pos h, gtK_pos h, if_neg (fun z => e (h.trans z))]
      · rw [gtK_neg h, gtK_neg h, ih]
theorem mgK_nd : ∀ (more kvs : List (Key × α)), ((kvs ++ more).map (·.1)).Nodup → mgK kvs more = kvs ++ more
  | [], kvs, _ => by show kvs = kvs ++ []; rw [List.append_nil]
  | p :: r, kvs, h => by
    show mgK (ptK kvs p.1 p.2) r = _
    have hv : gtK kvs p.1 = none := by
      cases e : gtK kvs p.1 with
      | none => rfl
      | some v =>
        exfalso
        have h2 : (kvs.any fun kv => decide (kv.1 = p.1)) = true := by rw [gtK_any, e] <;> rfl
        obtain ⟨q, hq, eq⟩ := List.any_eq_true.mp h2
        rw [List.map_append, List.nodup_append] at h
        exact h.2.2 q.1 (List.mem_map.mpr ⟨q, hq, rfl⟩) p.1 (by simp) (of_decide_eq_true eq)
    rw [ptK_new p.2 hv]
    have e : kvs ++ [(p.1, p.2)] ++ r = kvs ++ p :: r := by simp
    rw [mgK_nd r _ (by rw [e]; exact h), e]
theorem unz : ∀ l : List (Key × α), l = (l.map (·.1)).zip (l.map (·.2))
  | [] => rfl
  | p :: r => by rw [List.map_cons, List.map_cons, List.zip_cons_cons, ← unz r]
end
/-- a dict, as a table -/
def tbD (l : List (Key × D)) : D := .dic (l.map (·.1)) (l.map (·.2))
def tbC (l : List (Key × D)) : C := .dic (l.map (·.1)) (l.map (·.2))
theorem res_tb {m : M} {p : Addr} {l : List (Key × D)} (h : m p = some (tbC l)) : res m (.ref p) = tbD l := by
  simp only [res, h]; rfl
abbrev RP (K : PySem.W.Frag) (G : Hp) : List (Key × V) → List (Key × D) → Prop := Paired fun p q => p.1 = q.1 ∧ Rep K G p.2 q.2
section
variable {K : PySem.W.Frag} {G G' : Hp}
theorem RP.mono (e : Ex G G') {l : List (Key × V)} {l' : List (Key × D)} (h : RP K G l l') : RP K G' l l' := by
  induction h with
  | nil => exact .nil
  | cons a _ ih => exact .cons ⟨a.1, a.2.mono e⟩ ih
theorem RP.of : ∀ {l' : List (Key × D)} {vs : List V}, Reps K G vs (l'.map (·.2)) → RP K G ((l'.map (·.1)).zip vs) l'
  | [], _, h => by cases h; exact .nil
  | p :: r, _, h => by
    cases h with
    | cons a t => exact .cons ⟨rfl, a⟩ (RP.of t)
theorem RP.keys {l : List (Key × V)} {l' : List (Key × D)} (h : RP K G l l') : l.map (·.1) = l'.map (·.1) := by
  induction h with
  | nil => rfl
  | cons a _ ih => rw [List.map_cons, List.map_cons, a.1, ih]
theorem RP.vals {l : List (Key × V)} {l' : List (Key × D)} (h : RP K G l l') : Reps K G (l.map (·.2)) (l'.map (·.2)) := by
  induction h with
  | nil => exact .nil
  | cons a _ ih => exact .cons a.2 ih
theorem RP.len {l : List (Key × V)} {l' : List (Key × D)} (h : RP K G l l') : l.length = l'.length := by
  have := congrArg List.length h.keys
  simpa using this
theorem RP.get {l : List (Key × V)} {l' : List (Key × D)} (h : RP K G l l') (k : Key) : (∀ d, gtK l' k = some d → ∃ v, valV l k = some v ∧ Rep K G v d) ∧ (gtK l' k = none → valV l k = none) := by
  induction h with
  | nil => exact ⟨fun d z => by simp [gtK] at z, fun _ => rfl⟩
  | @cons p q ps qs a t ih =>
    by_cases e : q.1 = k
    · rw [gtK_pos e, valV_pos (a.1.trans e)]
      exact ⟨fun d z => by cases z; exact ⟨_, rfl, a.2⟩, fun z => by cases z⟩
    · rw [gtK_neg e, valV_neg (fun z => e (a.1.symm.trans z))]
      exact ih
theorem RP.any {l : List (Key × V)} {l' : List (Key × D)} (h : RP K G l l') (k : Key) : (l.any fun p => decide (p.1 = k)) = l'.any fun p => decide (p.1 = k) := by
  induction h with
  | nil => rfl
  | cons a _ ih => rw [List.any_cons, List.any_cons, ih, a.1]
theorem RP.repl {l : List (Key × V)} {l' : List (Key × D)} (h : RP K G l l') (k : Key) {v : V} {d : D} (r : Rep K G v d) : RP K G (l.map fun p => if p.1 = k then (p.1, v) else p) (l'.map fun p => if p.1 = k then (p.1, d) else p) := by
  induction h with
  | nil => exact .nil
  | @cons p q ps qs a t ih =>
    rw [List.map_cons, List.map_cons]
    refine .cons ?_ ih
    by_cases e : q.1 = k
    · rw [if_pos e, if_pos (a.1.trans e)]; exact ⟨a.1, r⟩
    · rw [if_neg e, if_neg (fun z => e (a.1.symm.trans z))]; exact a
theorem RP.put {l : List (Key × V)} {l' : List (Key × D)} (h : RP K G l l') (k : Key) {v : V} {d : D} (r : Rep K G v d) : RP K G (putK l k v) (ptK l' k d) := by
  unfold putK ptK
  rw [h.any k]
  split
  · exact h.repl k r
  · exact Paired.snoc h ⟨rfl, r⟩
theorem RP.drop {l : List (Key × V)} {l' : List (Key × D)} (h : RP K G l l') (k : Key) : RP K G (dropK l k) (drK l' k) := by
  unfold dropK drK
  induction h with
  | nil => exact .nil
  | @cons p q ps qs a t ih =>
    rw [List.filter_cons, List.filter_cons]
    by_cases e : q.1 = k
    · rw [if_neg (fun z => absurd e (of_decide_eq_true z)), if_neg (fun z => absurd (a.1.trans e) (of_decide_eq_true z))]; exact ih
    · have e2 : ¬ p.1 = k := fun z => e (a.1.symm.trans z)
      rw [if_pos (decide_eq_true e), if_pos (decide_eq_true e2)]; exact .cons a ih
theorem RP.merge {more : List (Key × V)} {more' : List (Key × D)} (hm : RP K G more more') : ∀ {l : List (Key × V)} {l' : List (Key × D)}, RP K G l l' → RP K G (mergeK l more) (mgK l' more') := by
  induction hm with
  | nil => intro l l' h; exact h
  | @cons p q ps qs a t ih =>
    intro l l' h
    have z := ih (l := putK l p.1 p.2) (l' := ptK l' q.1 q.2) (by rw [a.1]; exact h.put _ a.2)
    exact z
theorem RP.cell {H : Hp} {a : Addr} {l : List (Key × V)} {l' : List (Key × D)} (h : RP K G l l') (e : H a = some (.dK l)) : CellOk K H G a (tbC l') := by
  refine ⟨l.map (·.2), ?_, by have := h.len; simpa using this.symm, h.vals⟩
  rw [e, ← h.keys, ← unz]
theorem RP.rep {a : Addr} {l : List (Key × V)} {l' : List (Key × D)} (h : RP K G l l') (e : G a = some (.dK l)) : Rep K G (.ref a) (tbD l') := by
  refine .dic (vs := l.map (·.2)) (.inl ?_) (by have := h.len; simpa using this.symm) h.vals
  rw [e, ← h.keys, ← unz]
end
section
variable {K : PySem.W.Frag} {m : M} {H : Hp} {v : V} {d : D}
theorem tabOf {l : List (Key × D)} (r : Rep K (hid m H) v d) (hm : MemOk K m H) (e : res m d = tbD l) : ∃ a ls, v = .ref a ∧ Rd H a (.dK ls) ∧ RP K (hid m H) ls l := by
  obtain ⟨a, vs, rfl, h1, h2, h3⟩ := dicOf r hm e
  exact ⟨a, _, rfl, h1, RP.of h3⟩
theorem tabAt {p : Addr} {l : List (Key × D)} (hm : MemOk K m H) (e : m p = some (tbC l)) : ∃ ls, H p = some (.dK ls) ∧ RP K (hid m H) ls l := by
  obtain ⟨vs, h1, h2, h3⟩ := hm p _ e
  exact ⟨_, h1, RP.of h3⟩
theorem keyOf {k : Key} (r : Rep K (hid m H) v d) (e : keyD d = some k) : v = kV k := by
  unfold keyD at e
  cases r <;> first | (cases e; rfl) | cases e
end
/-! ### [], in, == -/
@[irreducible] def oIxD : R22 := fun x y m Q => Box <| ∃ l k d, res m x = tbD l ∧ keyD y = some k ∧ gtK l k = some d ∧ Q d m
@[irreducible] def oInD (neg : Bool) : R22 := fun x y m Q => Box <| ∃ l k, res m y = tbD l ∧ keyD x = some k ∧ Q (.bl (if neg then !(gtK l k).isSome else (gtK l k).isSome)) m
@[irreducible] def oEqT (neg : Bool) : R22 := fun x y m Q => Box <| ∃ l l', res m x = tbD l ∧ res m y = tbD l' ∧ l.length = l'.length ∧ (∀ p ∈ l, ∃ e, gtK l' p.1 = some e ∧ okD 60 p.2 = true ∧ okD 60 e = true ∧ eqD p.2 e = true) ∧ Q (.bl (!neg)) m
section
variable {m : M} {Q : Kd} {x y : D}
theorem ix_d {l : List (Key × D)} {k : Key} {d : D} (e : res m x = tbD l) (hk : keyD y = some k) (h : gtK l k = some d) (q : Q d m) : oIxD x y m Q := by unfold oIxD; exact ⟨⟨l, k, d, e, hk, h, q⟩⟩
theorem in_d {l : List (Key × D)} {k : Key} {n : Bool} (e : res m y = tbD l) (hk : keyD x = some k) (q : Q (.bl (if n then !(gtK l k).isSome else (gtK l k).isSome)) m) : oInD n x y m Q := by unfold oInD; exact ⟨⟨l, k, e, hk, q⟩⟩
theorem eq_t {l l' : List (Key × D)} {n : Bool} (e : res m x = tbD l) (e' : res m y = tbD l') (hl : l.length = l'.length) (h : ∀ p ∈ l, ∃ e, gtK l' p.1 = some e ∧ okD 60 p.2 = true ∧ okD 60 e = true ∧ eqD p.2 e = true) (q : Q (.bl (!n)) m) : oEqT n x y m Q := by unfold oEqT; exact ⟨⟨l, l', e, e', hl, h, q⟩⟩
end
theorem DGet.kr {H : Hp} {a : Addr} {kvs : List (Key × V)} {k : Key} (e : Rd H a (.dK kvs)) : DGet H a (kV k) (valV kvs k) := .inl ⟨kvs, k, e, rfl, rfl⟩
def rGetD : R2 := fun x y H Q => ∃ a kvs k v, x = .ref a ∧ Rd H a (.dK kvs) ∧ y = kV k ∧ valV kvs k = some v ∧ Q v H
def rInTD (neg : Bool) : R2 := fun x y H Q => ∃ a kvs k, y = .ref a ∧ Rd H a (.dK kvs) ∧ x = kV k ∧ Q (.bl (if neg then !(valV kvs k).isSome else (valV kvs k).isSome)) H
def rEqTD (K : PySem.W.Frag) (neg : Bool) : R2 := fun x y H Q => ∃ a b ks ls, x = .ref a ∧ y = .ref b ∧ Rd H a (.dK ks) ∧ Rd H b (.dK ls) ∧ ks.length = ls.length ∧
  (∀ p ∈ ks, ∃ v d e, valV ls p.1 = some v ∧ Dp K H p.2 d ∧ Dp K H v e ∧ d.canLay0 = true ∧ e.canLay0 = true ∧ d.depth ≤ 60 ∧ PyData.eqv d e = true) ∧ Q (.bl (!neg)) H
section
variable {X : Cx} {ω : Bx} {a b : Expr} {ta tb : TE2} {pos : Pos}
theorem ix_tab (hu : X.A.units + 1 < cLine) : IxR X rGetD := by
  intro value slice pins s σ H x y v u Q I rx ry h hs
  obtain ⟨a, kvs, k, w, rfl, ea, rfl, hv, q⟩ := h
  obtain rfl : v = Value.ref a := rx
  have g : DGet H a (kV k) (some w) := by rw [← hv]; exact DGet.kr ea
  exact tail_any (dict_typeIs I g) PySem.F.slot_dict_getitem.lookup (d_getItem hu I g ry fun w' s3 I3 rw' => ⟨w, H, I3, rw', q⟩) hs
theorem op_inT (hu : X.A.units + 1 < cLine) : OpR X (compareOp .In) (rInTD false) := by
  intro pins s σ H x y v u Q I rx ry h
  obtain ⟨a, kvs, k, rfl, ea, rfl, q⟩ := h
  obtain rfl : u = Value.ref a := ry
  exact d_in hu I (DGet.kr (k := k) ea) rx fun s3 I3 => ⟨.bl (valV kvs k).isSome, H, I3, rfl, q⟩
theorem op_notInT (hu : X.A.units + 1 < cLine) : OpR X (compareOp .NotIn) (rInTD true) := by
  intro pins s σ H x y v u Q I rx ry h
  obtain ⟨a, kvs, k, rfl, ea, rfl, q⟩ := h
  obtain rfl : u = Value.ref a := ry
  exact d_notIn hu I (DGet.kr (k := k) ea) rx fun s3 I3 => ⟨.bl (!(valV kvs k).isSome), H, I3, rfl, q⟩
theorem hits_dp {pins : List (Addr × Obj)} {σ : St} {H : Hp} {s : Shared} {A : Around} (I : Inv X pins σ H s) (hu : A.units + 60 < cLine) {kvs : List (Key × V)} {vb : List (Key × Value)} (rb : KV kvs vb) {ks : List (Key × V)} {va : List (Key × Value)} (ra : KV ks va) :
    (∀ p ∈ ks, ∃ v d e, valV kvs p.1 = some v ∧ Dp X.K H p.2 d ∧ Dp X.K H v e ∧ d.canLay0 = true ∧ e.canLay0 = true ∧ d.depth ≤ 60 ∧ PyData.eqv d e = true) → PySem.W.KeqHits A s vb va true := by
  unfold KV at ra
  induction ra with
  | nil => intro _; exact .nil
  | @cons p q ps qs h t ih =>
    intro hp
    obtain ⟨h1, h2⟩ := h
    obtain ⟨v, d, e, hv, d1, d2, l1, l2, hd, he⟩ := hp p List.mem_cons_self
    have rr : RelO (some v) (valueAt vb p.1) := by rw [← hv]; exact rb.val p.1
    obtain ⟨y, hy, ry⟩ := rr.some_of
    obtain ⟨k, u⟩ := q
    have h1' : p.1 = k := h1
    rw [h1'] at hy
    obtain ⟨as, r1⟩ := Dp.reads I d _ _ d1 h2
    obtain ⟨bs, r2⟩ := Dp.reads I e _ _ d2 ry
    have z := SeqAt.eqAt_reads d e A s u y as bs r1 r2 l1 l2 (Nat.lt_of_le_of_lt (Nat.add_le_add_left (Nat.le_trans (Nat.min_le_left _ _) hd) _) hu)
    rw [he] at z
    show PySem.W.KeqHits A s vb ((k, u) :: qs) (true && true)
    exact .hit hy z (ih fun p' hm => hp p' (List.mem_cons_of_mem _ hm))
theorem op_eqT (hu : X.A.units + 64 < cLine) : OpR X (compareOp .Eq) (rEqTD X.K false) := by
  intro pins s σ H x y v u Q I rx ry h
  obtain ⟨a, b, ks, ls, rfl, rfl, ea, eb, hlen, hp, q⟩ := h
  obtain rfl : v = Value.ref a := rx
  obtain rfl : u = Value.ref b := ry
  obtain ⟨_, ya, va, ra, da⟩ := (dk_rd I.hok ea)
  obtain ⟨_, yb, vb, rb, db⟩ := (dk_rd I.hok eb)
  have hl : va.length = vb.length := by rw [← ra.length, ← rb.length]; exact hlen
  exact PySem.W.keq_eq (knd := mixKind X.prog X.w) (r := true) ya yb da db (by omega) (fun _ => hits_dp I (by show X.A.units + 1 + 60 < cLine; omega) rb ra hp) (fin_bl I q (by simp [hl]))
theorem op_neT (hu : X.A.units + 64 < cLine) : OpR X (compareOp .NotEq) (rEqTD X.K true) := by
  intro pins s σ H x y v u Q I rx ry h
  obtain ⟨a, b, ks, ls, rfl, rfl, ea, eb, hlen, hp, q⟩ := h
  obtain rfl : v = Value.ref a := rx
  obtain rfl : u = Value.ref b := ry
  obtain ⟨_, ya, va, ra, da⟩ := (dk_rd I.hok ea)
  obtain ⟨_, yb, vb, rb, db⟩ := (dk_rd I.hok eb)
  have hl : va.length = vb.length := by rw [← ra.length, ← rb.length]; exact hlen
  exact PySem.W.keq_ne (knd := mixKind X.prog X.w) (r := true) ya yb da db (by omega) (fun _ => hits_dp I (by show X.A.units + 1 + 60 < cLine; omega) rb ra hp) (fin_bl I q (by simp [hl]))
theorem cv_ixD {K : PySem.W.Frag} : Cv2 K rGetD oIxD := fun H m dx dy x y Q Q' hm rx ry h k => by
  unfold oIxD at h
  obtain ⟨l, kk, d, e1, e2, e3, q⟩ := h.out
  obtain ⟨a, ls, rfl, h1, h2⟩ := tabOf rx hm e1
  have := keyOf ry e2
  subst this
  obtain ⟨v, hv, rv⟩ := (h2.get kk).1 d e3
  exact ⟨a, ls, kk, v, rfl, h1, rfl, hv, k _ _ (.same hm rv q)⟩
theorem RP.isSome {K : PySem.W.Frag} {G : Hp} {l : List (Key × V)} {l' : List (Key × D)} (h : RP K G l l') (k : Key) : (valV l k).isSome = (gtK l' k).isSome := by
  cases e : gtK l' k with
  | none => rw [(h.get k).2 e] <;> rfl
  | some d => obtain ⟨v, hv, _⟩ := (h.get k).1 d e; rw [hv] <;> rfl
theorem cv_inD {K : PySem.W.Frag} {neg : Bool} : Cv2 K (rInTD neg) (oInD neg) := fun H m dx dy x y Q Q' hm rx ry h k => by
  unfold oInD at h
  obtain ⟨l, kk, e1, e2, q⟩ := h.out
  obtain ⟨a, ls, rfl, h1, h2⟩ := tabOf ry hm e1
  have := keyOf rx e2
  subst this
  refine ⟨a, ls, kk, rfl, h1, rfl, ?_⟩
  rw [h2.isSome]
  exact k _ _ (.same hm (.bl _) q)
theorem RP.mem {K : PySem.W.Frag} {G : Hp} {l : List (Key × V)} {l' : List (Key × D)} (h : RP K G l l') : ∀ p ∈ l, ∃ q ∈ l', p.1 = q.1 ∧ Rep K G p.2 q.2 := by
  induction h with
  | nil => intro p hp; exact absurd hp List.not_mem_nil
  | @cons p0 q0 ps qs a t ih =>
    intro p hp
    rcases List.mem_cons.mp hp with e | h'
    · subst e; exact ⟨q0, List.mem_cons_self, a⟩
    · obtain ⟨q, h1, h2⟩ := ih p h'; exact ⟨q, List.mem_cons_of_mem _ h1, h2⟩
theorem cv_eqT {K : PySem.W.Frag} {neg : Bool} : Cv2 K (rEqTD K neg) (oEqT neg) := fun H m dx dy x y Q Q' hm rx ry h k => by
  unfold oEqT at h
  obtain ⟨l, l', e1, e2, hl, hp, q⟩ := h.out
  obtain ⟨a, ls, rfl, h1, h2⟩ := tabOf rx hm e1
  obtain ⟨b, ls', rfl, h3, h4⟩ := tabOf ry hm e2
  refine ⟨a, b, ls, ls', rfl, rfl, h1, h3, by rw [h2.len, h4.len]; exact hl, fun p hpm => ?_, k _ _ (.same hm (.bl _) q)⟩
  obtain ⟨p', hm', ek, rp⟩ := h2.mem p hpm
  obtain ⟨e, he, o1, o2, oe⟩ := hp p' hm'
  obtain ⟨v, hv, rv⟩ := (h4.get p'.1).1 e he
  have ⟨c1, c2⟩ := okD_lay 60 _ o1
  have ⟨c3, _⟩ := okD_lay 60 _ o2
  exact ⟨v, py p'.2, py e, by rw [ek]; exact hv, (rp.mono hid_ex).dp o1, (rv.mono hid_ex).dp o2, c1, c3, c2, oe⟩
theorem ixDU {k : Nat} (hr : Room k X.A) (ha : PE2 X ω a ta) (hb : PE2 X ω b tb) (hs : PlainIx b) : PE2 X ω (.Subscript a b pos) (tOp2 oIxD ta tb) := q_ix (ix_tab (by have := hr.units; omega)) cv_ixD ha hb hs
theorem inD' {k : Nat} (hr : Room k X.A) (ha : PE2 X ω a ta) (hb : PE2 X ω b tb) (hm : behindInMarks .In b = false) : PE2 X ω (.Compare a [.In] [b] pos) (tOp2 (oInD false) ta tb) := q_cmp (op_inT (by have := hr.units; omega)) cv_inD ha hb hm
theorem notInD {k : Nat} (hr : Room k X.A) (ha : PE2 X ω a ta) (hb : PE2 X ω b tb) (hm : behindInMarks .NotIn b = false) : PE2 X ω (.Compare a [.NotIn] [b] pos) (tOp2 (oInD true) ta tb) := q_cmp (op_notInT (by have := hr.units; omega)) cv_inD ha hb hm
theorem tinD {k : Nat} (hr : Room k X.A) (ha : PE2 X ω a ta) (hb : PE2 X ω b tb) (hm : behindInMarks .In b = false) : PT2 X ω (.Compare a [.In] [b] pos) (tTU (tOp2 (oInD false) ta tb)) := testC (op_inT (by have := hr.units; omega)) cv_inD ha hb hm
theorem tnotInD {k : Nat} (hr : Room k X.A) (ha : PE2 X ω a ta) (hb : PE2 X ω b tb) (hm : behindInMarks .NotIn b = false) : PT2 X ω (.Compare a [.NotIn] [b] pos) (tTU (tOp2 (oInD true) ta tb)) := testC (op_notInT (by have := hr.units; omega)) cv_inD ha hb hm
theorem eqT {k : Nat} (hr : Room k X.A) (ha : PE2 X ω a ta) (hb : PE2 X ω b tb) : PE2 X ω (.Compare a [.Eq] [b] pos) (tOp2 (oEqT false) ta tb) := q_cmp (op_eqT hr.units) cv_eqT ha hb (nomark _)
theorem neT {k : Nat} (hr : Room k X.A) (ha : PE2 X ω a ta) (hb : PE2 X ω b tb) : PE2 X ω (.Compare a [.NotEq] [b] pos) (tOp2 (oEqT true) ta tb) := q_cmp (op_neT hr.units) cv_eqT ha hb (nomark _)
theorem teqT {k : Nat} (hr : Room k X.A) (ha : PE2 X ω a ta) (hb : PE2 X ω b tb) : PT2 X ω (.Compare a [.Eq] [b] pos) (tTU (tOp2 (oEqT false) ta tb)) := testC (op_eqT hr.units) cv_eqT ha hb (nomark _)
theorem tneT {k : Nat} (hr : Room k X.A) (ha : PE2 X ω a ta) (hb : PE2 X ω b tb) : PT2 X ω (.Compare a [.NotEq] [b] pos) (tTU (tOp2 (oEqT true) ta tb)) := testC (op_neT hr.units) cv_eqT ha hb (nomark _)
end
end Z

/-! Z26: dicts changed and made; isinstance of an error by a tuple of classes. -/
namespace Z
open PySem PySem.Spec PyProof.Rows L2
section
variable {X : Cx} {ω : Bx} {pos : Pos}
/-- o[i] = v of an owned dict -/
def gSubD (to ti : TE2) : TG2 := fun d g m Q => to g m fun o m1 => ti g m1 fun i m2 => ∃ p l k, o = .ref p ∧ keyD i = some k ∧ m2 p = some (tbC l) ∧ l.length < sizeLine ∧ Q g (upM m2 p (tbC (ptK l k d)))
theorem qg_subD {k : Nat} {o i : Expr} {to ti : TE2} (hr : Room k X.A) (ho : PE2 X ω o to) (hi : PE2 X ω i ti)
    (ha : ∀ v, assign (.Subscript o i pos) X.env v = (do
      let ov ← holding [v] (eval o X.env)
      let iv ← holding [v, ov] (eval i X.env)
      standAt pos
      holding [v, ov, iv] (setItem ov iv v)
      release [v, ov, iv] []) := by intro _; rfl) : PG2 X ω (.Subscript o i pos) (gSubD to ti) :=
  (pg_sub pe_sem pe_sem (set_dict (by have := hr.units; omega)) ha).to2 fun σ H g m d v Q S hm r q =>
    (ho.sem S hm q).mono fun ov H1 ⟨od, m1, s1, r1, q1⟩ => (hi.sem (S.mono s1.ex) s1.mem q1).mono fun iv H2 ⟨id, m2, s2, r2, p, l, kk, e1, e2, hp, hl, q2⟩ => by
      subst e1
      have := keyOf r2 e2
      subst this
      have h1 := r1.mono s2.ex
      have hov : ov = .ref p := by cases r1; rfl
      subst hov
      obtain ⟨ls, h3, h4⟩ := tabAt s2.mem hp
      have st := Step.upM (c := tbC (ptK l kk d)) (o := .dK (putK ls kk v)) s2.mem hp ((h4.put kk ((r.mono s1.ex).mono s2.ex)).cell upd_same)
      exact ⟨p, _, rfl, DPut.k h3 (by rw [h4.len]; exact hl), g, _, (s1.trans s2).trans st, ((S.mono s1.ex).mono s2.ex).mono st.ex, q2⟩
end
/-! ### methods -/
section
variable {X : Cx}
def rGet2 : V → List V → Hp → VK → Prop := fun x vs H Q => ∃ a kvs k z, x = .ref a ∧ vs = [kV k, z] ∧ Rd H a (.dK kvs) ∧ Q ((valV kvs k).getD z) H
def rGet1 : V → List V → Hp → VK → Prop := fun x vs H Q => ∃ a kvs k, x = .ref a ∧ vs = [kV k] ∧ Rd H a (.dK kvs) ∧ Q ((valV kvs k).getD .non) H
def rPopD : V → List V → Hp → VK → Prop := fun x vs H Q => ∃ a kvs k v, x = .ref a ∧ vs = [kV k] ∧ H a = some (.dK kvs) ∧ valV kvs k = some v ∧ Q v (upd H a (.dK (dropK kvs k)))
theorem mt_get2 (hu : X.A.units + 1 < cLine) : MtR X "dict.get" rGet2 := by
  intro pins s σ H x xs v us Q I rx rxs h
  obtain ⟨a, kvs, k, z, rfl, rfl, ea, q⟩ := h
  obtain ⟨u1, u2, rfl, r1, r2⟩ := vals2 rxs
  obtain rfl : v = Value.ref a := rx
  exact d_get2 hu I (DGet.kr (k := k) ea) r1 r2 fun w' s3 I3 rw' => ⟨_, H, I3, rw', q⟩
theorem mt_get1 (hu : X.A.units + 1 < cLine) : MtR X "dict.get" rGet1 := by
  intro pins s σ H x xs v us Q I rx rxs h
  obtain ⟨a, kvs, k, rfl, rfl, ea, q⟩ := h
  obtain ⟨u1, rfl, r1⟩ := vals1 rxs
  obtain rfl : v = Value.ref a := rx
  exact d_get1 hu I (DGet.kr (k := k) ea) r1 fun w' s3 I3 rw' => ⟨_, H, I3, rw', q⟩
theorem mt_popD : MtR X "dict.pop" rPopD := by
  intro pins s σ H x xs v us Q I rx rxs h
  obtain ⟨a, kvs, k, w, rfl, rfl, ea, hv, q⟩ := h
  obtain ⟨u1, rfl, r1⟩ := vals1 rxs
  obtain rfl : v = Value.ref a := rx
  exact d_pop I ea r1 hv (.inl rfl) fun w' s3 I3 rw' => ⟨w, _, I3, rw', q⟩
def isTb : D → M → Prop := fun d m => ∃ l, res m d = tbD l
/-- the type of a method's receiver; a dict may be locked -/
def tyW (K : PySem.W.Frag) (T : String) (x : V) (H : Hp) : Prop := tyV K T x H ∨ (T = "dict" ∧ ∃ p o kvs, x = .ref p ∧ H p = some (.frz o (.dK kvs)))
def CvW (K : PySem.W.Frag) (T : String) (ok : D → M → Prop) : Prop := ∀ (H : Hp) (m : M) (d : D) (v : V), MemOk K m H → Rep K (hid m H) v d → ok d m → tyW K T v H
theorem tyW_is {pins : List (Addr × Obj)} {σ : St} {H : Hp} {s : Shared} {T : String} {x : V} {v : Value} (I : Inv X pins σ H s) (r : RelV x v) (ty : tyW X.K T x H) :
    s.TypeIs v T ∧ ∀ a, v = .ref a → ∃ ob, s.heap.get? a = some ob ∧ ob.dict = none := by
  rcases ty with ty | ⟨rfl, p, o, kvs, rfl, h⟩
  · exact tyV_is I r ty
  · cases r
    obtain ⟨_, e, ex, _⟩ := I.frzK h
    refine ⟨⟨o, e, ex.1⟩, fun a e2 => ?_⟩
    cases e2
    exact ⟨o, e, ex.2.1⟩
def tBMW (K : PySem.W.Frag) (T : String) (r : V → List V → Hp → VK → Prop) (to : TE) (t : TA) : TE := fun σ H Q => to σ H fun x H1 => tyW K T x H1 ∧ t σ H1 fun xs H2 => r x xs H2 Q
section
variable {ω : Bx} {o e : Expr} {es : List Expr} {name : Str} {apos cpos : Pos} {T id : String} {r : V → List V → Hp → VK → Prop}
theorem pe_bmW {to : TE} {t : TA} (pa : PlainAttrs T) (slot : Slot T name id) (hty : typeOf (.builtin id) = pure (.type "method_descriptor")) (hm : MtR X id r) (ho : PE X o to) (ha : PA X (e :: es) t)
    (hbase : attributeBase o name X.env (eval o X.env) = eval o X.env := by rfl)
    (hfew : ((backTo cpos (starEach (e :: es) X.env)).all (fun x => !x.1) && (backToKw cpos (keywordEach [] X.env)).all (fun x => x.1.isSome)
      && decide ((e :: es).length + ([] : List Keyword).length + (if ([] : List Keyword).isEmpty then 0 else 1) < 30)) = true := by rfl)
    (hline : (apos.endLine == cpos.line) = true := by rfl) (hs : starEach (e :: es) X.env = (false, eval e X.env) :: starEach es X.env := by rfl) (hplain : (backTo cpos (starEach es X.env)).any (·.1) = false := by rfl) :
    PE X (.Call (.Attribute o name apos) (e :: es) [] cpos) (tBMW X.K T r to t) := by
  refine ⟨fun pins s σ H Q I h => ?_⟩
  refine wpAny_Call_method_late hbase hfew hline rfl (thn (ho.run pins s σ H _ I h) fun v s1 ⟨x, H1, I1, r1, ty, q1⟩ => ?_)
  obtain ⟨h1, h2⟩ := tyW_is I1 r1 ty
  refine ⟨T, id, pa, slot, hty, h1, h2, ?_⟩
  have hA := ha.run cpos pins s1 σ H1 _ I1 q1
  rw [hs] at hA ⊢
  refine Calls.callWith_builtin (by show (false || (backTo cpos (starEach es X.env)).any (·.1)) = false; rw [hplain] <;> rfl) (Calls.evalArgs_plain ?_)
  exact thn hA fun us s2 ⟨vs, H2, I2, r2, q2⟩ => hm pins s2 σ H2 x vs v us Q I2 r1 r2 q2
theorem q_bmW {to : TE2} {t : TA2} {r2 : RM2} {okd : D → M → Prop} (pa : PlainAttrs T) (slot : Slot T name id) (hty : typeOf (.builtin id) = pure (.type "method_descriptor")) (hm : MtR X id r) (hc : CvM X.K T r r2) (hct : CvW X.K T okd) (ho : PE2 X ω o to) (ha : PA2 X ω (e :: es) t)
    (hbase : attributeBase o name X.env (eval o X.env) = eval o X.env := by rfl)
    (hfew : ((backTo cpos (starEach (e :: es) X.env)).all (fun x => !x.1) && (backToKw cpos (keywordEach [] X.env)).all (fun x => x.1.isSome)
      && decide ((e :: es).length + ([] : List Keyword).length + (if ([] : List Keyword).isEmpty then 0 else 1) < 30)) = true := by rfl)
    (hline : (apos.endLine == cpos.line) = true := by rfl) (hs : starEach (e :: es) X.env = (false, eval e X.env) :: starEach es X.env := by rfl) (hplain : (backTo cpos (starEach es X.env)).any (·.1) = false := by rfl) :
    PE2 X ω (.Call (.Attribute o name apos) (e :: es) [] cpos) (tBM2 okd r2 to t) :=
  (pe_bmW pa slot hty hm pe_sem pa_sem hbase hfew hline hs hplain).to2 fun σ H g m Q S hmm q => (ho.sem S hmm q).mono fun v H1 ⟨d, m1, s1, r1, hok, q1⟩ =>
    ⟨hct H1 m1 d v s1.mem r1 hok, (ha.sem (S.mono s1.ex) s1.mem q1).mono fun vs H2 ⟨ds, m2, s2, rs, q2⟩ => hc H2 m2 d v ds vs Q _ s2.mem (r1.mono s2.ex) rs q2 fun _ _ h => P2.go (s1.trans s2) h⟩
end
theorem ct_tab {K : PySem.W.Frag} : CvW K "dict" isTb := fun H m d v hm r ⟨l, e⟩ => by
  obtain ⟨a, ls, rfl, h1, h2⟩ := tabOf r hm e
  rcases h1 with h1 | ⟨o, h1⟩
  · exact .inl (.inr (.inr (.inl ⟨rfl, .inl ⟨_, h1⟩⟩)))
  · exact .inr ⟨rfl, a, o, ls, rfl, h1⟩
@[irreducible] def getK2 (x y z : D) (m : M) (Q : Kd) : Prop := Box <| ∃ l k, res m x = tbD l ∧ keyD y = some k ∧ Q ((gtK l k).getD z) m
@[irreducible] def popDK (x y : D) (m : M) (Q : Kd) : Prop := Box <| ∃ p l k d, x = .ref p ∧ m p = some (tbC l) ∧ keyD y = some k ∧ gtK l k = some d ∧ Q d (upM m p (tbC (drK l k)))
theorem get_d {x y z : D} {m : M} {Q : Kd} {l : List (Key × D)} {k : Key} (e : res m x = tbD l) (hk : keyD y = some k) (q : Q ((gtK l k).getD z) m) : getK2 x y z m Q := by unfold getK2; exact ⟨⟨l, k, e, hk, q⟩⟩
theorem pop_d {y : D} {m : M} {Q : Kd} {p : Addr} {l : List (Key × D)} {k : Key} {d : D} (e : m p = some (tbC l)) (hk : keyD y = some k) (h : gtK l k = some d) (q : Q d (upM m p (tbC (drK l k)))) : popDK (.ref p) y m Q := by unfold popDK; exact ⟨⟨p, l, k, d, rfl, e, hk, h, q⟩⟩
def mGet2 : RM2 := fun d ds m Q => match ds with | [y, z] => getK2 d y z m Q | _ => False
def mGet1 : RM2 := fun d ds m Q => match ds with | [y] => getK2 d y .non m Q | _ => False
def mPopD : RM2 := fun d ds m Q => match ds with | [y] => popDK d y m Q | _ => False
theorem RP.getD {K : PySem.W.Frag} {G : Hp} {l : List (Key × V)} {l' : List (Key × D)} (h : RP K G l l') (k : Key) {v : V} {d : D} (r : Rep K G v d) : Rep K G ((valV l k).getD v) ((gtK l' k).getD d) := by
  cases e : gtK l' k with
  | none => rw [(h.get k).2 e]; exact r
  | some d' => obtain ⟨w, hw, rw'⟩ := (h.get k).1 d' e; rw [hw]; exact rw'
theorem cm_get2 {K : PySem.W.Frag} : CvM K "dict" rGet2 mGet2 := fun H m d v ds vs Q Q' hm r rs h k => by
  unfold mGet2 at h
  split at h
  · unfold getK2 at h
    obtain ⟨l, kk, e, ek, q⟩ := h.out
    obtain ⟨v1, v2, rfl, ra, rb⟩ := rs.two
    obtain ⟨a, ls, rfl, h1, h2⟩ := tabOf r hm e
    have := keyOf ra ek
    subst this
    exact ⟨a, ls, kk, v2, rfl, rfl, h1, k _ _ (.same hm (h2.getD kk rb) q)⟩
  · exact h.elim
theorem cm_get1 {K : PySem.W.Frag} : CvM K "dict" rGet1 mGet1 := fun H m d v ds vs Q Q' hm r rs h k => by
  unfold mGet1 at h
  split at h
  · unfold getK2 at h
    obtain ⟨l, kk, e, ek, q⟩ := h.out
    obtain ⟨v1, rfl, ra⟩ := one_rep rs
    obtain ⟨a, ls, rfl, h1, h2⟩ := tabOf r hm e
    have := keyOf ra ek
    subst this
    exact ⟨a, ls, kk, rfl, rfl, h1, k _ _ (.same hm (h2.getD kk .non) q)⟩
  · exact h.elim
theorem cm_popD {K : PySem.W.Frag} : CvM K "dict" rPopD mPopD := fun H m d v ds vs Q Q' hm r rs h k => by
  unfold mPopD at h
  split at h
  · unfold popDK at h
    obtain ⟨p, l, kk, d', rfl, hp, ek, hd, q⟩ := h.out
    obtain ⟨v1, rfl, ra⟩ := one_rep rs
    have hv : v = .ref p := by cases r; rfl
    subst hv
    have := keyOf ra ek
    subst this
    obtain ⟨ls, h1, h2⟩ := tabAt hm hp
    obtain ⟨w, hw, rw'⟩ := (h2.get kk).1 d' hd
    have st := Step.upM (c := tbC (drK l kk)) (o := .dK (dropK ls kk)) hm hp ((h2.drop kk).cell upd_same)
    exact ⟨p, ls, kk, w, rfl, rfl, h1, hw, k _ _ ⟨d', _, st, rw'.mono st.ex, q⟩⟩
  · exact h.elim
variable {ω : Bx} {o e f : Expr} {to te tf : TE2} {apos cpos : Pos}
theorem m_get1D {k : Nat} (hr : Room k X.A) (ho : PE2 X ω o to) (he : PE2 X ω e te) (hbase : attributeBase o "get" X.env (eval o X.env) = eval o X.env := by rfl)
    (hline : (apos.endLine == cpos.line) = true := by rfl) (hs : starEach [e] X.env = (false, eval e X.env) :: starEach [] X.env := by rfl)
    (hfew : ((backTo cpos (starEach [e] X.env)).all (fun x => !x.1) && (backToKw cpos (keywordEach [] X.env)).all (fun x => x.1.isSome)
      && decide ([e].length + ([] : List Keyword).length + (if ([] : List Keyword).isEmpty then 0 else 1) < 30)) = true := by rfl) :
    PE2 X ω (.Call (.Attribute o "get" apos) [e] [] cpos) (tBM2 isTb mGet1 to (tCons2 te tNil2)) :=
  q_bmW PySem.F.plainAttrs_dict PySem.F.slot_dict_get PySem.F.type_dict_get (mt_get1 (by have := hr.units; omega)) cm_get1 ct_tab ho (qa_cons he qa_nil hs) hbase hfew hline hs
theorem m_get2D {k : Nat} (hr : Room k X.A) (ho : PE2 X ω o to) (he : PE2 X ω e te) (hf : PE2 X ω f tf) (hbase : attributeBase o "get" X.env (eval o X.env) = eval o X.env := by rfl)
    (hline : (apos.endLine == cpos.line) = true := by rfl) (hs : starEach [e, f] X.env = (false, eval e X.env) :: starEach [f] X.env := by rfl) (hs2 : starEach [f] X.env = (false, eval f X.env) :: starEach [] X.env := by rfl)
    (hfew : ((backTo cpos (starEach [e, f] X.env)).all (fun x => !x.1) && (backToKw cpos (keywordEach [] X.env)).all (fun x => x.1.isSome)
      && decide ([e, f].length + ([] : List Keyword).length + (if ([] : List Keyword).isEmpty then 0 else 1) < 30)) = true := by rfl) (hplain : (backTo cpos (starEach [f] X.env)).any (·.1) = false := by rfl) :
    PE2 X ω (.Call (.Attribute o "get" apos) [e, f] [] cpos) (tBM2 isTb mGet2 to (tCons2 te (tCons2 tf tNil2))) :=
  q_bmW PySem.F.plainAttrs_dict PySem.F.slot_dict_get PySem.F.type_dict_get (mt_get2 (by have := hr.units; omega)) cm_get2 ct_tab ho (qa_cons he (qa_cons hf qa_nil hs2) hs) hbase hfew hline hs hplain
theorem m_pop1D (ho : PE2 X ω o to) (he : PE2 X ω e te) (hbase : attributeBase o "pop" X.env (eval o X.env) = eval o X.env := by rfl)
    (hline : (apos.endLine == cpos.line) = true := by rfl) (hs : starEach [e] X.env = (false, eval e X.env) :: starEach [] X.env := by rfl)
    (hfew : ((backTo cpos (starEach [e] X.env)).all (fun x => !x.1) && (backToKw cpos (keywordEach [] X.env)).all (fun x => x.1.isSome)
      && decide ([e].length + ([] : List Keyword).length + (if ([] : List Keyword).isEmpty then 0 else 1) < 30)) = true := by rfl) :
    PE2 X ω (.Call (.Attribute o "pop" apos) [e] [] cpos) (tBM2 isTb mPopD to (tCons2 te tNil2)) :=
  q_bmW PySem.F.plainAttrs_dict PySem.F.slot_dict_pop PySem.F.type_dict_pop mt_popD cm_popD ct_tab ho (qa_cons he qa_nil hs) hbase hfew hline hs
end
/-! ### dict(..), sorted(..) -/
def prsD : List D → Option (List (Key × D))
  | [] => some []
  | .tup [x, v] :: r => match keyD x, prsD r with | some k, some l => some ((k, v) :: l) | _, _ => none
  | _ :: _ => none
theorem prsD_of : ∀ l : List (Str × D), prsD (l.map fun p => .tup [.str p.1, p.2]) = some (l.map fun p => (.inr p.1, p.2))
  | [] => rfl
  | p :: r => by simp only [List.map_cons, prsD, keyD, prsD_of r]
section
variable {K : PySem.W.Frag} {m : M} {H : Hp}
theorem prs_rep : ∀ {ds : List D} {vs : List V} {l : List (Key × D)}, Reps K (hid m H) vs ds → prsD ds = some l → ∃ (ps : List Addr) (kvs : List (Key × V)), vs = ps.map V.ref ∧ Paired (fun p kv => SqT K H p [kV kv.1, kv.2]) ps kvs ∧ RP K (hid m H) kvs l
  | [], _, _, .nil, h => by cases h; exact ⟨[], [], rfl, .nil, .nil⟩
  | d :: r, _, l, .cons a t, h => by
    unfold prsD at h
    split at h
    · rename_i e; exact absurd e (by simp)
    · rename_i x v r' e
      cases e
      cases e1 : keyD x with
      | none => rw [e1] at h; cases h
      | some k =>
        cases e2 : prsD r with
        | none => rw [e1, e2] at h; cases h
        | some l' =>
          rw [e1, e2] at h; cases h
          obtain ⟨ps, kvs, rfl, h1, h2⟩ := prs_rep t e2
          cases a with
          | tup s rr =>
            obtain ⟨v1, v2, rfl, ra, rb⟩ := rr.two
            have := keyOf ra e1
            subst this
            exact ⟨_ :: ps, (k, v2) :: kvs, rfl, .cons (hid_ex.t s) h1, .cons ⟨rfl, rb⟩ h2⟩
    · cases h
end
/-- dict(x): x a list of pairs, or a dict -/
@[irreducible] def dctK (F : List (Key × D) → M → Prop) (x : D) (m : M) : Prop := Box <| (∃ ds l, lsD (res m x) = some ds ∧ prsD ds = some l ∧ F (mgK [] l) m) ∨ (∃ l, res m x = tbD l ∧ F l m)
theorem dct_l {F : List (Key × D) → M → Prop} {x : D} {m : M} {ds : List D} {l : List (Key × D)} (e : lsD (res m x) = some ds) (h : prsD ds = some l) (q : F (mgK [] l) m) : dctK F x m := by unfold dctK; exact ⟨.inl ⟨ds, l, e, h, q⟩⟩
theorem dct_d {F : List (Key × D) → M → Prop} {x : D} {m : M} {l : List (Key × D)} (e : res m x = tbD l) (q : F l m) : dctK F x m := by unfold dctK; exact ⟨.inr ⟨l, e, q⟩⟩
def kDct : RC2 := fun xs m Q => match xs with | [x] => dctK (fun l m => Q (tbD l) m) x m | _ => False
def kDctM : RC2 := fun xs m Q => match xs with | [x] => dctK (fun l m => ∀ p, m p = none → Q (.ref p) (upM m p (tbC l))) x m | _ => False
def rDct (K : PySem.W.Frag) : List V → Hp → VK → Prop := fun xs H Q => (∃ (a : Addr) (ps : List Addr) (kvs : List (Key × V)), xs = [.ref a] ∧ SqL K H a (ps.map V.ref) ∧ Paired (fun p kv => SqT K H p [kV kv.1, kv.2]) ps kvs ∧
    ∀ p, H p = none → Q (.ref p) (upd H p (.dK (mergeK [] kvs)))) ∨ ∃ (a : Addr) (kvs : List (Key × V)), xs = [.ref a] ∧ Rd H a (.dK kvs) ∧ ∀ p, H p = none → Q (.ref p) (upd H p (.dK kvs))
theorem kc_dctG {K : PySem.W.Frag} {x : D} {v : V} {m : M} {H : Hp} {F : List (Key × D) → M → Prop} {Q' : VK} (hm : MemOk K m H) (r : Rep K (hid m H) v x) (h : dctK F x m)
    (k : ∀ p ls l, H p = none → RP K (hid m H) ls l → F l m → Q' (.ref p) (upd H p (.dK ls))) : rDct K [v] H Q' := by
  unfold dctK at h
  rcases h.out with ⟨ds, l, e, e2, q⟩ | ⟨l, e, q⟩
  · obtain ⟨a, ws, rfl, h1, h2⟩ := lstOf r hm e
    obtain ⟨ps, kvs, rfl, h3, h4⟩ := prs_rep h2 e2
    exact .inl ⟨a, ps, kvs, rfl, h1, h3, fun p hp => k p _ _ hp (h4.merge .nil) q⟩
  · obtain ⟨a, ls, rfl, h1, h2⟩ := tabOf r hm e
    exact .inr ⟨a, ls, rfl, h1, fun p hp => k p _ _ hp h2 q⟩
theorem kc_dct {K : PySem.W.Frag} : CvC K (rDct K) kDct := fun H m ds vs Q Q' hm r h k => by
  unfold kDct at h
  split at h
  · obtain ⟨v1, rfl, ra⟩ := one_rep r
    exact kc_dctG hm ra h fun p ls l hp h2 q => k _ _ (.new hm hp ((h2.mono (Step.new hm hp).ex).rep (Step.new_at hm hp)) q)
  · exact h.elim
theorem kc_dctM {K : PySem.W.Frag} : CvC K (rDct K) kDctM := fun H m ds vs Q Q' hm r h k => by
  unfold kDctM at h
  split at h
  · obtain ⟨v1, rfl, ra⟩ := one_rep r
    exact kc_dctG hm ra h fun p ls l hp h2 q => k _ _ ⟨.ref p, _, Step.newM hm hp (h2.cell upd_same), .ref p, q p (hm.fresh hp)⟩
  · exact h.elim
@[irreducible] def sortTK (x : D) (m : M) (Q : Kd) : Prop := Box <| ∃ (l : List (Key × D)) (zs : List Str), res m x = tbD l ∧ l.map (·.1) = zs.map Sum.inr ∧ zs.length < 64 ∧ ∀ ys : List Str, ys.Perm zs → sortedS ys = true → Q (.lst (ys.map D.str)) m
theorem sort_t {x : D} {m : M} {Q : Kd} {l : List (Key × D)} (zs : List Str) (e : res m x = tbD l) (h : l.map (·.1) = zs.map Sum.inr) (hl : zs.length < 64) (q : ∀ ys : List Str, ys.Perm zs → sortedS ys = true → Q (.lst (ys.map D.str)) m) : sortTK x m Q := by unfold sortTK; exact ⟨⟨l, zs, e, h, hl, q⟩⟩
def kSortT : RC2 := fun xs m Q => match xs with | [x] => sortTK x m Q | _ => False
def rSortT : List V → Hp → VK → Prop := fun xs H Q => ∃ (a : Addr) (kvs : List (Key × V)) (ks : List Str), xs = [.ref a] ∧ Rd H a (.dK kvs) ∧ kvs.map (·.1) = ks.map Sum.inr ∧ ks.length < 64 ∧
    ∀ ys p, ys.Perm ks → sortedS ys = true → H p = none → Q (.ref p) (upd H p (.lst (ys.map V.str)))
theorem kc_sortT {K : PySem.W.Frag} : CvC K rSortT kSortT := fun H m ds vs Q Q' hm r h k => by
  unfold kSortT at h
  split at h
  · unfold sortTK at h
    obtain ⟨l, zs, e, h1, h2, q⟩ := h.out
    obtain ⟨v1, rfl, ra⟩ := one_rep r
    obtain ⟨a, ls, rfl, g1, g2⟩ := tabOf ra hm e
    exact ⟨a, ls, zs, rfl, g1, by rw [g2.keys]; exact h1, h2, fun ys p hp hs hq => k _ _ (.new hm hq (.lst (Step.new_at hm hq) ((Reps.of_strs ys).mono (Step.new hm hq).ex)) (q ys hp hs))⟩
  · exact h.elim
section
variable {X : Cx} {ω : Bx} {p pos : Pos} {e : Expr} {es : List Expr} {t : TA2}
theorem cr_dct (hc : X.calm = true) : CallR X (.type "dict") (rDct X.K) := fun pins s σ H xs us Q I r h => by
  rcases h with h | h
  · exact call_dictP hc pins s σ H xs us Q I r h
  · exact call_dictD pins s σ H xs us Q I r h
theorem dictU (hc : X.calm = true) (hg : Gl X "dict") (hm : X.mg "dict" = none) (ha : PA2 X ω (e :: es) t) (he : starEach (e :: es) X.env = (false, eval e X.env) :: starEach es X.env := by rfl) (hpl : (backTo pos (starEach es X.env)).any (·.1) = false := by rfl) : PE2 X ω (.Call (.Name "dict" p) (e :: es) [] pos) (tCB2 kDct t) :=
  q_callTy (cr_dct hc) kc_dct hg hm bt_dict ha (by decide) (by decide) he hpl
theorem dictUM (hc : X.calm = true) (hg : Gl X "dict") (hm : X.mg "dict" = none) (ha : PA2 X ω (e :: es) t) (he : starEach (e :: es) X.env = (false, eval e X.env) :: starEach es X.env := by rfl) (hpl : (backTo pos (starEach es X.env)).any (·.1) = false := by rfl) : PE2 X ω (.Call (.Name "dict" p) (e :: es) [] pos) (tCB2 kDctM t) :=
  q_callTy (cr_dct hc) kc_dctM hg hm bt_dict ha (by decide) (by decide) he hpl
theorem sortedDU (hc : X.calm = true) (hg : Gl X "sorted") (hm : X.mg "sorted" = none) (ha : PA2 X ω (e :: es) t) (he : starEach (e :: es) X.env = (false, eval e X.env) :: starEach es X.env := by rfl) (hpl : (backTo pos (starEach es X.env)).any (·.1) = false := by rfl) : PE2 X ω (.Call (.Name "sorted" p) (e :: es) [] pos) (tCB2 kSortT t) :=
  q_callB (call_sortedD hc) kc_sortT hg hm bt_sorted ha (by decide) (by decide) he hpl
end
/-! ### isinstance of an error by a tuple of classes -/
theorem call_isXS {X : Cx} : CallR X (.builtin "isinstance") (fun xs H Q => ∃ a C tp cs us b, xs = [.ref a, .ref tp] ∧ SqT X.K H tp cs ∧ Paired ClsV cs us ∧ H a = some (ExD C a) ∧ ExcC X.K C ∧ PySem.W.kitAny X.K (.ref C) us = some b ∧ Q (.bl b) H) := by
  intro pins s σ H xs us Q I r h
  obtain ⟨a, C, tp, cs, ws, b, rfl, hT, k, ha, ec, e, q⟩ := h
  obtain ⟨u1, u2, rfl, r1, r2⟩ := vals2 r
  cases (show u2 = Value.ref tp from r2)
  cases (show u1 = Value.ref a from r1)
  obtain ⟨⟨oe, fs, hoe, ⟨hc, hd⟩, hf⟩, _, _⟩ := I.hok a _ ha
  have J : PySem.W.InstAt s.heap a oe C none := by
    obtain ⟨oc, od, oda, osl⟩ := oe
    dsimp only at hc hd hf
    subst hc hd hf
    exact ⟨hoe, rfl, rfl, trivial⟩
  obtain ⟨its, rv, ⟨ob, h1, h2, n, h3⟩, _⟩ := I.tuple hT
  have e3 := ClsV.all k rv
  subst e3
  obtain ⟨oc, od, dt, sl⟩ := ob
  simp only at h2 h3
  subst h2 h3
  exact PySem.W.kia_tup (PySem.W.handS_kitx_exc ec.hg ec.hk ec.hs ec.hd ec.ha ec.hn ec.ht ec.hm) I.kIn J h1 e (fun z => nomatch z) fun tk => ⟨.bl b, H, I.tok tk, rfl, q⟩
def clsDs : List D → Option (List Value)
  | [] => some []
  | d :: r => match clsD d, clsDs r with | some u, some l => some (u :: l) | _, _ => none
theorem clsDs_rep {K : PySem.W.Frag} {G : Hp} : ∀ {ds : List D} {vs : List V} {us : List Value}, Reps K G vs ds → clsDs ds = some us → Paired ClsV vs us
  | [], _, _, .nil, h => by cases h; exact .nil
  | d :: r, _, us, .cons a t, h => by
    unfold clsDs at h
    cases e1 : clsD d with
    | none => rw [e1] at h; cases h
    | some u =>
      cases e2 : clsDs r with
      | none => rw [e1, e2] at h; cases h
      | some l => rw [e1, e2] at h; cases h; exact .cons (clsD_rep a e1) (clsDs_rep t e2)
@[irreducible] def isiXT (K : PySem.W.Frag) (x y : D) (m : M) (Q : Kd) : Prop := Box <| ∃ C ds us b, res m x = .exc C ∧ y = .tup ds ∧ clsDs ds = some us ∧ ExcC K C ∧ PySem.W.kitAny K (.ref C) us = some b ∧ Q (.bl b) m
theorem isiXT_of {K : PySem.W.Frag} {x : D} {m : M} {Q : Kd} {C : Addr} {ds : List D} {us : List Value} {b : Bool} (e : res m x = .exc C) (e2 : clsDs ds = some us) (ec : ExcC K C) (h : PySem.W.kitAny K (.ref C) us = some b) (q : Q (.bl b) m) : isiXT K x (.tup ds) m Q := by unfold isiXT; exact ⟨⟨C, ds, us, b, e, rfl, e2, ec, h, q⟩⟩
theorem kitAny_no {K : PySem.W.Frag} {t : Value} : ∀ us : List Value, (∀ u ∈ us, PySem.W.kitOne K t u = some false) → PySem.W.kitAny K t us = some false
  | [], _ => rfl
  | u :: r, h => by
    unfold PySem.W.kitAny
    rw [h u List.mem_cons_self]
    exact kitAny_no r fun u' hu => h u' (List.mem_cons_of_mem _ hu)
def kIsXT (K : PySem.W.Frag) : RC2 := fun xs m Q => match xs with | [x, y] => isiXT K x y m Q | _ => False
theorem kc_isXT {X : Cx} : CvC X.K (fun xs H Q => ∃ a C tp cs us b, xs = [.ref a, .ref tp] ∧ SqT X.K H tp cs ∧ Paired ClsV cs us ∧ H a = some (ExD C a) ∧ ExcC X.K C ∧ PySem.W.kitAny X.K (.ref C) us = some b ∧ Q (.bl b) H) (kIsXT X.K) := fun H m ds vs Q Q' hm r h k => by
  unfold kIsXT at h
  split at h
  · unfold isiXT at h
    obtain ⟨C, es, us, b, e, rfl, e2, ec, hk, q⟩ := h.out
    obtain ⟨v1, v2, rfl, ra, rb⟩ := r.two
    obtain ⟨a, rfl, ha⟩ := excOf ra hm e
    obtain ⟨tp, cs, rfl, h1, h2⟩ := tupOf (m := m) rb rfl
    exact ⟨a, C, tp, cs, us, b, rfl, h1, clsDs_rep h2 e2, ha, ec, hk, k _ _ (.same hm (.bl _) q)⟩
  · exact h.elim
section
variable {X : Cx} {ω : Bx} {p pos : Pos} {e : Expr} {es : List Expr} {t : TA2}
theorem isiXTU (hg : Gl X "isinstance") (hm : X.mg "isinstance" = none) (ha : PA2 X ω (e :: es) t) (he : starEach (e :: es) X.env = (false, eval e X.env) :: starEach es X.env := by rfl) (hpl : (backTo pos (starEach es X.env)).any (·.1) = false := by rfl) : PE2 X ω (.Call (.Name "isinstance" p) (e :: es) [] pos) (tCB2 (kIsXT X.K) t) :=
  q_callB call_isXS kc_isXT hg hm bt_isinstance ha (by decide) (by decide) he hpl
end
end Z

/-! Z27: comprehensions that move a state, each item with its own result. -/
namespace Z
open PySem PySem.Spec PyProof.Rows L2
theorem lc_stR {tg : TG2} {te : TE2} {vs : List Nat} {g : Sl} {m1 : M} {ds : List D} {keep : M → Prop} {Q : Kd} {p : Addr} (R : D → D → Prop) (hs : StAt p m1 m1) (hl : ds.length ≤ sizeLine) (hk : ∀ mm, keep mm)
    (he : ∀ d ∈ ds, ∀ mm, StAt p mm mm → ∀ k : Kd, (∀ y mm', R d y → StAt p mm mm' → k y mm') → tg d (wipe2 g vs) mm fun g2 m2 => te g2 m2 k) (hq : ∀ ys m', ys.length = ds.length → (∀ (j : Nat) (y : D), ys[j]? = some y → ∃ d, ds[j]? = some d ∧ R d y) → StAt p m1 m' → Q (.lst ys) m') : LcG tg tYes2 te vs g Q ds keep m1 := by
  refine LcG.mk hl (fun i acc m' => acc.length = i ∧ (∀ (j : Nat) (y : D), acc[j]? = some y → ∃ d, ds[j]? = some d ∧ R d y) ∧ StAt p m1 m') ⟨rfl, fun _ _ h => (by simp at h), hs⟩ ?_
  rintro i acc m' ⟨rfl, hP, hm⟩
  refine ⟨fun Dl hD => ⟨hk _, fun d hd => ?_⟩, fun e => hq _ _ e hP hm⟩
  have hmem := List.mem_of_getElem? hd
  obtain ⟨st, hst, hat⟩ := hm.at
  have hne : p ≠ Dl := ne_ofM hat hD
  have h2 : StAt p (upM m' Dl (.lst acc)) (upM m' Dl (.lst acc)) := StAt.mk (by rw [upM_ne hne]; exact hat) hst
  refine he d hmem _ h2 _ fun y mm' hy hmm => ?_
  obtain ⟨st', hst', rfl⟩ := hmm
  refine ⟨upM m' p (.lst st'), upM_comm hne.symm, by rw [upM_ne hne.symm]; exact hD, by simp, ?_, hm.trans ⟨st', hst', rfl⟩⟩
  intro j z hz
  by_cases hj : j < acc.length
  · rw [List.getElem?_append_left hj] at hz
    exact hP j z hz
  · rw [List.getElem?_append_right (by omega)] at hz
    have hj0 : j - acc.length = 0 := by
      cases e : j - acc.length with
      | zero => rfl
      | succ n => rw [e] at hz; simp at hz
    rw [hj0] at hz
    cases hz
    have : j = acc.length := by omega
    subst this
    exact ⟨d, hd, hy⟩
/-- the pairs of a list, told by their places -/
theorem prs_of {α β : Type} (f : α → D) (g : α → β → D) (P : α → β → Prop) : ∀ (zs : List α) (ys : List D), ys.length = zs.length → (∀ (j : Nat) (y : D), ys[j]? = some y → ∃ d, (zs.map f)[j]? = some d ∧ ∃ z v, d = f z ∧ y = g z v ∧ P z v ∧ ∀ z', f z' = f z → z' = z) →
    ∃ qs : List (α × β), ys = qs.map (fun x => g x.1 x.2) ∧ qs.map (·.1) = zs ∧ ∀ x ∈ qs, P x.1 x.2
  | [], [], _, _ => ⟨[], rfl, rfl, fun _ h => by simp at h⟩
  | [], _ :: _, h, _ => by simp at h
  | _ :: _, [], h, _ => by simp at h
  | z :: zs, y :: ys, hl, h => by
    obtain ⟨qs, h1, h2, h3⟩ := prs_of f g P zs ys (by simpa using hl) fun j w hw => by
      obtain ⟨d, e, r⟩ := h (j + 1) w (by simpa using hw)
      exact ⟨d, by simpa using e, r⟩
    obtain ⟨d, e, z', v, e1, e2, e3, e4⟩ := h 0 y rfl
    have e : f z = d := by simpa using e
    have ez : z = z' := e4 z (e.trans e1)
    subst ez
    refine ⟨(z, v) :: qs, by rw [List.map_cons, ← h1, e2], by rw [List.map_cons, h2], fun x hx => ?_⟩
    rcases List.mem_cons.mp hx with q | q
    · rw [q]; exact e3
    · exact h3 x q
end Z

/-! Z28: fractions over a common lower part. -/
namespace Z
open PySem PySem.Spec PyProof.Rows L2
/-- p is N over M, in lowest terms -/
def Ov (M N : Int) (p : Fr) : Prop := Lo p ∧ p.1 * M = N * p.2
theorem Ov.dvd {M N : Int} {p : Fr} (h : Ov M N p) : p.2 ∣ M := lo_dvd h.1.2 ⟨N, by rw [h.2, Int.mul_comm]⟩
theorem Ov.inj {M N : Int} {p q : Fr} (h0 : 0 < M) (hp : Ov M N p) (hq : Ov M N q) : p = q := by
  refine lo_same hp.1 hq.1 ?_
  have h1 := hp.2
  have h2 := hq.2
  have e : (p.1 * q.2) * M = (q.1 * p.2) * M := by
    rw [Int.mul_right_comm, h1, Int.mul_right_comm q.1, h2, Int.mul_right_comm]
  exact Int.eq_of_mul_eq_mul_right (Int.ne_of_gt h0) e
theorem ovMul_pos {a b : Int} (ha : 0 < a) (hb : 0 < b) : 0 < a * b := Int.mul_pos ha hb
theorem Ov.low {M N a b : Int} (hb : 0 < b) (e2 : a * M = N * b) : Ov M N (lowP a b) := by
  refine ⟨lowP_lo hb, ?_⟩
  have e := lowP_eq (a := a) (b := b) hb
  refine Int.eq_of_mul_eq_mul_right (Int.ne_of_gt hb) ?_
  rw [Int.mul_right_comm, e, Int.mul_right_comm, e2, Int.mul_right_comm]
theorem Ov.plus {M N N' : Int} {p q : Fr} (hp : Ov M N p) (hq : Ov M N' q) : Ov M (N + N') (plusP p q) := by
  have hb := ovMul_pos hp.1.1 hq.1.1
  refine Ov.low hb ?_
  have h1 := hp.2
  have h2 := hq.2
  rw [Int.add_mul, Int.mul_right_comm, h1, Int.mul_right_comm q.1, h2, Int.add_mul]
  rw [Int.mul_assoc, Int.mul_assoc, Int.mul_comm q.2 p.2]
theorem Ov.times {M M' N N' : Int} {p q : Fr} (hp : Ov M N p) (hq : Ov M' N' q) : Ov (M * M') (N * N') (timesP p q) := by
  refine Ov.low (ovMul_pos hp.1.1 hq.1.1) ?_
  have h1 := hp.2
  have h2 := hq.2
  have e1 : p.1 * q.1 * (M * M') = (p.1 * M) * (q.1 * M') := by
    simp only [Int.mul_assoc, Int.mul_comm, Int.mul_left_comm]
  have e2 : N * N' * (p.2 * q.2) = (N * p.2) * (N' * q.2) := by
    simp only [Int.mul_assoc, Int.mul_comm, Int.mul_left_comm]
  rw [e1, h1, h2, e2]
theorem Ov.up {M N : Int} {p : Fr} (k : Int) (hp : Ov M N p) : Ov (M * k) (N * k) p := ⟨hp.1, by rw [← Int.mul_assoc, hp.2, Int.mul_right_comm]⟩
theorem Ov.abs {M N : Int} {p : Fr} (h0 : 0 < M) (hp : Ov M N p) : Ov M (N.natAbs : Int) ((p.1.natAbs : Int), p.2) := by
  refine ⟨⟨hp.1.1, ?_⟩, ?_⟩
  · have := hp.1.2
    show Int.gcd (p.1.natAbs : Int) p.2 = 1
    rw [← this]
    unfold Int.gcd
    rw [Int.natAbs_natCast]
  · have h1 := congrArg Int.natAbs hp.2
    rw [Int.natAbs_mul, Int.natAbs_mul] at h1
    have h2 : ((p.1.natAbs * M.natAbs : Nat) : Int) = ((N.natAbs * p.2.natAbs : Nat) : Int) := by rw [h1]
    rw [Int.natCast_mul, Int.natCast_mul, Int.natAbs_of_nonneg (Int.le_of_lt h0), Int.natAbs_of_nonneg (Int.le_of_lt hp.1.1)] at h2
    exact h2
theorem Ov.zero {M : Int} : Ov M 0 (0, 1) := ⟨⟨by decide, by decide⟩, by show (0 : Int) * M = 0 * 1; rw [Int.zero_mul]; rfl⟩
theorem Ov.bds {M N : Int} {p : Fr} (h0 : 0 < M) (h : Ov M N p) : p.1.natAbs ≤ N.natAbs ∧ p.2.natAbs ≤ M.natAbs := by
  have hd := Int.le_of_dvd h0 h.dvd
  have hp := h.1.1
  have h2 : p.2.natAbs ≤ M.natAbs := by omega
  have e : p.1.natAbs * M.natAbs = N.natAbs * p.2.natAbs := by
    have := congrArg Int.natAbs h.2
    rw [Int.natAbs_mul, Int.natAbs_mul] at this
    exact this
  refine ⟨?_, h2⟩
  have e2 : p.1.natAbs * M.natAbs ≤ N.natAbs * M.natAbs := by rw [e]; exact Nat.mul_le_mul_left _ h2
  exact Nat.le_of_mul_le_mul_right e2 (by omega)
theorem Ov.bd {M N : Int} {p : Fr} {n : Nat} (h0 : 0 < M) (h : Ov M N p) (h1 : N.natAbs < 2 ^ n) (h2 : M.natAbs < 2 ^ n) : Bd n p := ⟨Nat.lt_of_le_of_lt (h.bds h0).1 h1, Nat.lt_of_le_of_lt (h.bds h0).2 h2⟩
/-- N over M, of p -/
def ovN (M : Int) (p : Fr) : Int := p.1 * M / p.2
theorem Ov.eq {M N : Int} {p : Fr} (h : Ov M N p) : N = ovN M p := by
  unfold ovN
  rw [h.2, Int.mul_ediv_cancel _ (Int.ne_of_gt h.1.1)]
/-- of at most B, over M -/
def Rt (M : Int) (B : Nat) (p : Fr) : Prop := ∃ N : Int, Ov M N p ∧ N.natAbs ≤ B
theorem Rt.plus {M : Int} {B B' : Nat} {p q : Fr} (hp : Rt M B p) (hq : Rt M B' q) : Rt M (B + B') (plusP p q) := by
  obtain ⟨N, h1, h2⟩ := hp
  obtain ⟨N', h3, h4⟩ := hq
  exact ⟨_, h1.plus h3, Nat.le_trans (Int.natAbs_add_le _ _) (Nat.add_le_add h2 h4)⟩
theorem Rt.times {M M' : Int} {B B' : Nat} {p q : Fr} (hp : Rt M B p) (hq : Rt M' B' q) : Rt (M * M') (B * B') (timesP p q) := by
  obtain ⟨N, h1, h2⟩ := hp
  obtain ⟨N', h3, h4⟩ := hq
  exact ⟨_, h1.times h3, by rw [Int.natAbs_mul]; exact Nat.mul_le_mul h2 h4⟩
theorem Rt.up {M : Int} {B : Nat} {p : Fr} (k : Int) (h : Rt M B p) : Rt (M * k) (B * k.natAbs) p := by
  obtain ⟨N, h1, h2⟩ := h
  exact ⟨_, h1.up k, by rw [Int.natAbs_mul]; exact Nat.mul_le_mul_right _ h2⟩
theorem Rt.abs {M : Int} {B : Nat} {p : Fr} (h0 : 0 < M) (h : Rt M B p) : Rt M B ((p.1.natAbs : Int), p.2) := by
  obtain ⟨N, h1, h2⟩ := h
  exact ⟨_, h1.abs h0, by rw [Int.natAbs_natCast]; exact h2⟩
theorem Rt.zero {M : Int} {B : Nat} : Rt M B (0, 1) := ⟨0, .zero, Nat.zero_le _⟩
theorem Rt.le {M : Int} {B B' : Nat} {p : Fr} (h : Rt M B p) (hb : B ≤ B') : Rt M B' p := let ⟨N, h1, h2⟩ := h; ⟨N, h1, Nat.le_trans h2 hb⟩
theorem Rt.bd {M : Int} {B n : Nat} {p : Fr} (h0 : 0 < M) (h : Rt M B p) (h1 : B < 2 ^ n) (h2 : M.natAbs < 2 ^ n) : Bd n p := let ⟨N, h3, h4⟩ := h; h3.bd h0 (Nat.lt_of_le_of_lt h4 h1) h2
theorem Rt.pos {M : Int} {B : Nat} {p : Fr} (h : Rt M B p) : 0 < p.2 := let ⟨_, h, _⟩ := h; h.1.1
theorem Rt.ov {M : Int} {B : Nat} {p : Fr} (h : Rt M B p) : Ov M (ovN M p) p := by
  obtain ⟨N, h1, _⟩ := h
  rw [← h1.eq]
  exact h1
/-- sums: what comes out is told by the sum over M -/
theorem ov_fold {M : Int} : ∀ (ts : List Fr) (f : Fr), Ov M (ovN M f) f → (∀ t ∈ ts, Ov M (ovN M t) t) → Ov M (ovN M f + (ts.map (ovN M)).sum) (ts.foldl plusP f)
  | [], f, h, _ => by simpa using h
  | t :: r, f, h, ht => by
    have h1 := h.plus (ht t List.mem_cons_self)
    have h2 := ov_fold r (plusP f t) (by rw [← h1.eq]; exact h1) fun x hx => ht x (List.mem_cons_of_mem _ hx)
    rw [← h1.eq] at h2
    rw [List.map_cons, List.sum_cons, ← Int.add_assoc]
    exact h2
theorem sumI_app : ∀ (a b : List Int), (a ++ b).sum = a.sum + b.sum
  | [], b => by simp
  | x :: r, b => by rw [List.cons_append, List.sum_cons, List.sum_cons, sumI_app r b, Int.add_assoc]
theorem sumI_rev : ∀ (a : List Int), a.reverse.sum = a.sum
  | [] => rfl
  | x :: r => by rw [List.reverse_cons, sumI_app, sumI_rev r, List.sum_cons, List.sum_cons, List.sum_nil]; omega
theorem rt_fold {M : Int} {B : Nat} : ∀ (ts : List Fr) (f : Fr) (A : Nat), Rt M A f → (∀ t ∈ ts, Rt M B t) → Rt M (A + B * ts.length) (ts.foldl plusP f)
  | [], f, A, h, _ => h
  | t :: r, f, A, h, ht => by
    have h1 := rt_fold r (plusP f t) (A + B) (h.plus (ht t List.mem_cons_self)) fun x hx => ht x (List.mem_cons_of_mem _ hx)
    refine h1.le ?_
    rw [List.length_cons, Nat.mul_add]
    omega
end Z

/-! Z29: a tuple's items from the end. -/
namespace Z
open PySem PySem.Spec PyProof.Rows L2 HT
section
variable {prog : Program} {w : World} {A : Around} {E : Value → Shared → Prop} {s : Shared}
theorem sliceApplied_rev {sl : Addr} {t : Tok} {n : Nat} {Q : Int × Int × Nat → Shared → Prop} (hs : s.heap.IsSliceOf sl .none .none (.int (-1) t))
    (h : Q ((n : Int) - 1, -1, n) s) : wpAny (model prog w) A (Builtin.Slice.sliceApplied (.ref sl) (pure (n : Int))) Q E s := by
  obtain ⟨os, hos, hcs, hds⟩ := id hs
  unfold Builtin.Slice.sliceApplied Builtin.Slice.sliceFields
  refine wpAny_bind (wpAny_bind (wpAny_field hos hds (x := .none) rfl (wpAny_bind (wpAny_field hos hds (x := .none) rfl (wpAny_bind (wpAny_field hos hds (x := .int (-1) t) rfl (wpAny_pure ?_)))))))
  refine wpAny_bind (slicePart_int ?_)
  show wpAny _ _ (if ((-1 : Int) == 0) = true then _ else _) _ _ s
  rw [if_neg (by decide)]
  refine wpAny_bind (slicePart_none (wpAny_bind (slicePart_none (wpAny_bind (wpAny_pure ?_)))))
  have e1 : Builtin.Slice.sliceAdjust none none (-1) (n : Int) = ((n : Int) - 1, -1) := rfl
  have e2 : Builtin.Slice.slicePlaces ((n : Int) - 1) (-1) (-1) = n := by
    unfold Builtin.Slice.slicePlaces
    have h1 : ¬ ((-1 : Int) > 0) := by omega
    have h2 : -(-1 : Int) = 1 := rfl
    simp only [h1, if_false, h2, Int.ediv_one]
    split <;> omega
  show wpAny _ _ (match Builtin.Slice.sliceAdjust none none (-1) (n : Int) with | (lo, hi) => pure (lo, (-1 : Int), Builtin.Slice.slicePlaces lo hi (-1))) _ _ s
  rw [e1]
  show wpAny _ _ (pure ((n : Int) - 1, (-1 : Int), Builtin.Slice.slicePlaces ((n : Int) - 1) (-1) (-1))) _ _ s
  rw [e2]
  exact wpAny_pure h
theorem pick_rev (xs : Array Value) : ((List.range xs.size).filterMap fun (m : Nat) => xs[(((xs.size : Int) - 1) + (m : Int) * (-1)).toNat]?).toArray = xs.toList.reverse.toArray := by
  congr 1
  obtain ⟨l⟩ := xs
  simp only [List.size_toArray, List.getElem?_toArray]
  have e : ∀ k, k ≤ l.length → ((List.range k).filterMap fun (m : Nat) => l[(((l.length : Int) - 1) + (m : Int) * (-1)).toNat]?) = l.reverse.take k := by
    intro k
    induction k with
    | zero => intro _; simp
    | succ k ih =>
      intro hk
      rw [List.range_succ, List.filterMap_append, ih (by omega), List.take_add_one]
      congr 1
      have h1 : (((l.length : Int) - 1) + (k : Int) * (-1)).toNat = l.length - 1 - k := by omega
      rw [List.getElem?_reverse (by omega)]
      simp only [List.filterMap_cons, List.filterMap_nil, h1]
      have h2 : l.length - 1 - k < l.length := by omega
      rw [List.getElem?_eq_getElem h2]
      rfl
  have := e l.length (Nat.le_refl _)
  rw [this]
  have h3 : l.length = l.reverse.length := List.length_reverse.symm
  rw [List.take_of_length_le (by rw [List.length_reverse]; exact Nat.le_refl _)]
theorem getItem_tuple_rev {t sl : Addr} {items : Array Value} {k : Tok} {Q : Value → Shared → Prop} (ht : IsTup s.heap t items) (hs : s.heap.IsSliceOf sl .none .none (.int (-1) k))
    (h : Q (.ref s.heap.objs.size) { s with heap := s.heap.push { cls := .type "tuple", data := .seq items.toList.reverse.toArray } })
    (hsz : items.size ≤ sizeLine) : wpAny (model prog w) A (getItem (.ref t) (.ref sl)) Q E s := by
  have htake : sizeOk (.seq items.toList.reverse.toArray) := by
    show items.toList.reverse.toArray.size ≤ sizeLine
    rw [List.size_toArray, List.length_reverse, Array.length_toList]
    exact hsz
  obtain ⟨os, hos, hcs, hds⟩ := id hs
  have hTs : s.TypeIs (.ref sl) "slice" := ⟨os, hos, hcs⟩
  unfold getItem
  try with_reducible refine wpAny_holding ?_
  first | refine wpAny_bind (wpAny_pure ?_) | skip
  refine wpAny_bind (wpAny_sequenceKey ht.typeIs (by decide) ?_)
  refine wpAny_bind (wpAny_callSpecial?_slot (name := Str.ofString "__getitem__") ht.typeIs PyProof.Rows.slot_tuple_getitem
    (wpAny_call_entry PyProof.Rows.slot_tuple_getitem ht.typeIs entry_tuple_getitem ?_ (args_tuple_getitem _ _)))
  show wpAny _ _ (Builtin.Tuple.tupleItemsOf (.ref t) >>= _) _ _ s
  refine wpAny_bind (tupleItemsOf_ ht ?_)
  refine wpAny_bind (wpAny_typeOf hTs ?_)
  rw [if_pos (by decide)]
  refine wpAny_bind (sliceApplied_rev hs ?_)
  have hno : ¬ ((((items.size : Int) - 1) == 0 && (-1 : Int) == 1 && items.size == items.size) = true) := by
    intro q
    rw [Bool.and_eq_true, Bool.and_eq_true] at q
    exact absurd (eq_of_beq q.1.2) (by decide)
  show wpAny _ _ (if (((items.size : Int) - 1) == 0 && (-1 : Int) == 1 && items.size == items.size) = true then _ else _) _ _ s
  rw [if_neg hno, pick_rev]
  first
    | exact wpAny_bind (m := Builtin.Tuple.tupleExact _) (wpAny_newObj_type (wpAny_pure ⟨_, rfl, wpAny_pure h⟩) htake)
    | exact wpAny_bind (m := Builtin.Tuple.tupleExact _) (wpAny_newObj_type (wpAny_bind (wpAny_pure (wpAny_pure ⟨_, rfl, wpAny_pure h⟩))) htake)
    | exact wpAny_bind (wpAny_bind (m := Builtin.Tuple.tupleExact _) (wpAny_newObj_type (wpAny_pure (wpAny_pure ⟨_, rfl, wpAny_pure h⟩)) htake))
    | exact wpAny_bind (wpAny_bind (m := Builtin.Tuple.tupleExact _) (wpAny_newObj_type (wpAny_pure ⟨_, rfl, wpAny_pure h⟩) htake))
end
section
variable {X : Cx} {ω : Bx} {e : Expr} {te : TE2} {pos : Pos}
def tRevT (K : PySem.W.Frag) (te : TE) : TE := fun σ H Q => te σ H fun x H1 => ∃ a xs, x = .ref a ∧ SqT K H1 a xs ∧ ∀ p, H1 p = none → Q (.ref p) (upd H1 p (.tup xs.reverse))
theorem pe_revT {e : Expr} {te : TE} {k : Nat} {p1 p2 p3 pos : Pos} (he : PE X e te) : PE X (.Subscript e (.Slice none none (some (.UnaryOp .USub (.Constant (.int 1) k p1) p2)) p3) pos) (tRevT X.K te) := by
  refine ⟨fun pins s σ H Q I h => ?_⟩
  refine Subscript_ (thn (he.run pins s σ H _ I h) fun v s1 ⟨x, H1, I1, r1, q1⟩ => ?_)
  obtain ⟨a, xs, ex, hx, q⟩ := q1
  subst ex
  cases r1
  have hst : PO X (some (.UnaryOp .USub (.Constant (.int 1) k p1) p2)) (tPart (tUn (rU fun i => .int (-i)) (tC (.int 1)))) := po_some (pe_un un_neg pe_int)
  refine wpAny_Slice (thn (po_none.run pins s1 σ H1 (fun o H2 => o = none ∧ H2 = H1) I1 ⟨rfl, rfl⟩) fun vl s2 ⟨l, H2, I2, pl, el, e2⟩ => ?_)
  subst el e2
  refine thn (po_none.run pins s2 σ H2 (fun o H3 => o = none ∧ H3 = H2) I2 ⟨rfl, rfl⟩) fun vu s3 ⟨u, H3, I3, pu, eu, e3⟩ => ?_
  subst eu e3
  refine thn (hst.run pins s3 σ H3 (fun o H4 => o = some (-1) ∧ H4 = H3) I3 ⟨1, rfl, -1, rfl, rfl, rfl⟩) fun vs s4 ⟨o, H4, I4, ps, eo, e4⟩ => ?_
  subst eo e4
  cases pl
  cases pu
  obtain ⟨tk, rfl⟩ : ∃ tk, vs = Value.int (-1) tk := by cases ps; exact ⟨_, rfl⟩
  have I5 : L2.Inv X pins σ H4 { s4 with heap := s4.heap.push { cls := .type "slice", data := .fields #[.none, .none, .int (-1) tk] } } := I4.kept (t' := s4.toks) fun b ob q => Heap.get?_push_of_some _ q
  obtain ⟨its, r, ht, hz⟩ := I5.tuple hx
  have hlen := r.length
  show wpAny (model X.prog X.w) X.A (subscriptTail e (.Slice none none (some (.UnaryOp .USub (.Constant (.int 1) k p1) p2)) p3) (.ref a) (.ref s4.heap.objs.size)) (EP X pins σ Q) X.xe { s4 with heap := s4.heap.push { cls := .type "slice", data := .fields #[.none, .none, .int (-1) tk] } }
  refine tail_any (ops := [.ref a, .ref s4.heap.objs.size]) ht.typeIs (PyProof.Rows.slot_tuple_getitem.lookup) ?_ (by with_unfolding_all rfl)
  refine getItem_tuple_rev ht (Heap.IsSliceOf.new _ .none .none (.int (-1) tk)) ?_ (by rw [List.size_toArray]; omega)
  refine ⟨.ref _, _, I5.laid (t' := s4.toks) (o := .tup xs.reverse) (fun b ob q => Heap.get?_push_of_some _ q) (Nat.le_refl _) ?_, rfl, q _ (I5.hok.fresh (Nat.le_refl _))⟩
  exact ⟨by rw [List.length_reverse]; exact hz, _, r.reverse, IsTup.new _ _⟩
/-- xs[::-1] of a tuple -/
@[irreducible] def revTK (x : D) (m : M) (Q : Kd) : Prop := Box <| ∃ ds, res m x = .tup ds ∧ Q (.tup ds.reverse) m
theorem revT_of {x : D} {m : M} {Q : Kd} {ds : List D} (e : res m x = .tup ds) (q : Q (.tup ds.reverse) m) : revTK x m Q := by unfold revTK; exact ⟨⟨ds, e, q⟩⟩
def tRevTU (te : TE2) : TE2 := fun g m Q => te g m fun x m1 => revTK x m1 Q
theorem revTU {k : Nat} {p1 p2 p3 : Pos} (he : PE2 X ω e te) : PE2 X ω (.Subscript e (.Slice none none (some (.UnaryOp .USub (.Constant (.int 1) k p1) p2)) p3) pos) (tRevTU te) :=
  (pe_revT pe_sem).to2 fun σ H g m Q S hm q => (he.sem S hm q).mono fun v H1 ⟨d, m1, s1, r1, q1⟩ => by
    unfold revTK at q1
    obtain ⟨ds, e1, q2⟩ := q1.out
    obtain ⟨a, ws, rfl, k1, k2⟩ := tupOf r1 e1
    exact ⟨a, ws, rfl, k1, fun p hp => P2.go s1 (.new s1.mem hp (.tup (.inl (Rd.of (Step.new_at s1.mem hp))) (k2.rev.mono (Step.new s1.mem hp).ex)) q2)⟩
end
end Z

/-! Z30: tuples without a dict of their own (made by tuple(..)); dict(..) of one. -/
namespace Z
open PySem PySem.Spec PyProof.Rows L2
section
variable {X : Cx}
theorem call_tupleP : CallR X (.type "tuple") (fun xs H Q => ∃ p ys, xs = [.ref p] ∧ SqL X.K H p ys ∧ ∀ l (o : Obj), H l = none → o.dict = none → Q (.ref l) (upd H l (.frz o (.tup ys)))) := by
  intro pins s σ H xs us Q I r h
  obtain ⟨p, ys, rfl, hq, q⟩ := h
  obtain ⟨u, rfl, rx⟩ := vals1 r
  cases rx
  obtain ⟨its, r', pl, hz⟩ := I.list hq
  have hlen := r'.length
  refine call_tuple_list pl.isList (fun h' kp => ?_) (by simp only [List.size_toArray] <;> omega)
  have I1 : L2.Inv X pins σ H { s with heap := h' } := I.kept (t' := s.toks) kp
  have I2 : L2.Inv X pins σ (upd H h'.objs.size (.frz { cls := .type "tuple", data := .seq its.toArray } (.tup ys))) { s with heap := h'.push { cls := .type "tuple", data := .seq its.toArray } } :=
    I1.laid (t' := s.toks) (fun b o e => Heap.get?_push_of_some _ e) (Nat.le_refl _) (show ObjOk X.prog X.w _ _ _ (.frz _ (.tup ys)) from ⟨Heap.get?_push_size _ rfl, hz, its, r', IsTup.new _ _⟩)
  exact ⟨.ref h'.objs.size, _, I2, rfl, q _ _ (I1.hok.fresh (Nat.le_refl _)) rfl⟩
theorem pairs_of2 {pins : List (Addr × Obj)} {σ : St} {H : Hp} {s : Shared} (I : L2.Inv X pins σ H s) : ∀ {ps : List Addr} {kvs : List (Key × V)}, Paired (fun p kv => SqT X.K H p [kV kv.1, kv.2]) ps kvs →
    ∃ (prs : List (Key × Value)) (us : List Value), KV kvs prs ∧ prs.length = ps.length ∧ us.length = ps.length ∧ ∀ (j : Nat) (q : Key × Value), prs[j]? = some q → ∃ (b : Addr) (u : Value), ps[j]? = some b ∧ us[j]? = some u ∧ IsTup s.heap b #[u, q.2] ∧ (mixKind X.prog X.w).is q.1 u = true
  | _, _, .nil => ⟨[], [], .nil, rfl, rfl, fun j q e => by simp at e⟩
  | _, _, .cons (a := p) (b := kv) h t => by
    obtain ⟨prs, us, r, hl, hl2, hp⟩ := pairs_of2 I t
    obtain ⟨its, rv, ht, _⟩ := I.tuple h
    obtain ⟨u, y, ei, ru, ry⟩ := vals2 rv
    subst ei
    refine ⟨(kv.1, y) :: prs, u :: us, .cons ⟨rfl, ry⟩ r, by rw [List.length_cons, List.length_cons, hl], by rw [List.length_cons, List.length_cons, hl2], fun j q e => ?_⟩
    cases j with
    | zero =>
      have e' : (kv.1, y) = q := Option.some.inj e
      subst e'
      exact ⟨p, u, rfl, rfl, ht, kV_is (P := X.prog) (w := X.w) ru⟩
    | succ j =>
      obtain ⟨b, u', e1, e2, e3, e4⟩ := hp j q (by simpa using e)
      exact ⟨b, u', by simpa using e1, by simpa using e2, e3, e4⟩
/-- dict(t) of a tuple of pairs -/
theorem call_dictT (hcalm : X.calm = true) : CallR X (.type "dict") (fun xs H Q => ∃ (a : Addr) (o : Obj) (ps : List Addr) (kvs : List (Key × V)), xs = [.ref a] ∧ H a = some (.frz o (.tup (ps.map V.ref))) ∧ o.dict = none ∧ Paired (fun p kv => SqT X.K H p [kV kv.1, kv.2]) ps kvs ∧
    ∀ p, H p = none → Q (.ref p) (upd H p (.dK (mergeK [] kvs)))) := by
  intro pins s σ H xs us Q I r q
  obtain ⟨a, o, ps, kvs, ex, ha, hd, hp, q⟩ := q
  subst ex
  obtain ⟨u, eu, rx⟩ := vals1 r
  subst eu
  cases rx
  obtain ⟨ho, hz, its, rv, pl⟩ := (show ObjOk X.prog X.w H s.heap a (.frz o (.tup (ps.map V.ref))) from I.hok a _ ha)
  have ei := refs_at rv
  subst ei
  rw [List.length_map] at hz
  obtain ⟨prs, us, rel, hl, hl2, hpr⟩ := pairs_of2 I hp
  obtain ⟨o2, ho2, hc, n, hdat⟩ := pl
  have e2 : o = o2 := Option.some.inj (ho.symm.trans ho2)
  subst e2
  have P := PySem.PairArg.tuple (prog := X.prog) (w := X.w) a (ps.map Value.ref).toArray (fun j => ps.getD j 0) (us.zip (prs.map (·.2)))
  have hzl : (us.zip (prs.map (·.2))).length = ps.length := by rw [List.length_zip, List.length_map]; omega
  have hat : ∀ j k v, (us.zip (prs.map (·.2)))[j]? = some (k, v) → ∃ key b, prs[j]? = some (key, v) ∧ ps[j]? = some b ∧ IsTup s.heap b #[k, v] ∧ (mixKind X.prog X.w).is key k = true := fun j k v e => by
    rw [List.getElem?_zip_eq_some] at e
    obtain ⟨e1, e2⟩ := e
    rw [List.getElem?_map] at e2
    cases hq : prs[j]? with
    | none => rw [hq] at e2; cases e2
    | some q' =>
      rw [hq] at e2
      cases e2
      obtain ⟨b, u, h1, h2, h3, h4⟩ := hpr j q' hq
      rw [e1] at h2
      cases h2
      exact ⟨q'.1, b, hq, h1, h3, h4⟩
  refine PySem.call_dict_pairs (knd := mixKind X.prog X.w) (kvs := prs) P (I.ok.hd hcalm) ⟨⟨o, n, ho, hc, hd, hdat⟩, ?_, ?_⟩ ⟨?_, ?_⟩ (by rw [hzl]; exact hz) fun h' tk hd' k => ?_
  · rw [hzl]; simp
  · intro j k v e
    obtain ⟨key, b, h1, h2, h3, h4⟩ := hat j k v e
    refine ⟨by simp [h2], ?_⟩
    have : ps.getD j 0 = b := by simp [h2]
    show PairAt s.heap (ps.getD j 0) k v
    rw [this]
    exact .inl h3
  · rw [hzl, hl]
  · intro i key v e
    obtain ⟨k, b, h1, h2, h3, h4⟩ := hat i key v e
    exact ⟨k, h1, h4⟩
  · have hm : (s.heap.objs.size == sysModules) = false := beq_eq_false_iff_ne.mpr (Nat.ne_of_gt I.big)
    have hlen : (mergeK [] kvs).length ≤ sizeLine := by
      refine Nat.le_trans (length_mergeK kvs []) ?_
      rw [List.length_nil, Nat.zero_add, rel.length, hl]
      exact hz
    exact ⟨.ref s.heap.objs.size, upd H s.heap.objs.size (.dK (mergeK [] kvs)), I.laid (t' := tk) (fun b o e => k b o (by simp) e) (Nat.le_refl _) (show ObjOk X.prog X.w _ _ _ (.dK (mergeK [] kvs)) from ⟨hlen, hm, merged [] prs, KV.merge rel .nil, hd'⟩), rfl, q _ (I.hok.fresh (Nat.le_refl _))⟩
end
/-- tuple(xs) of a list, known to be without a dict -/
@[irreducible] def ptuK (x : D) (m : M) (Q : Kd) : Prop := Box <| ∃ ds, lsD (res m x) = some ds ∧ Q (.ptu ds) m
theorem ptu_of {x : D} {m : M} {Q : Kd} {ds : List D} (e : lsD (res m x) = some ds) (q : Q (.ptu ds) m) : ptuK x m Q := by unfold ptuK; exact ⟨⟨ds, e, q⟩⟩
def kPtu : RC2 := fun xs m Q => match xs with | [x] => ptuK x m Q | _ => False
theorem kc_ptu {K : PySem.W.Frag} : CvC K (fun xs H Q => ∃ p ys, xs = [.ref p] ∧ SqL K H p ys ∧ ∀ l (o : Obj), H l = none → o.dict = none → Q (.ref l) (upd H l (.frz o (.tup ys)))) kPtu := fun H m ds vs Q Q' hm r h k => by
  unfold kPtu at h
  split at h
  · unfold ptuK at h
    obtain ⟨es, e, q⟩ := h.out
    obtain ⟨v1, rfl, ra⟩ := one_rep r
    obtain ⟨a, ws, rfl, h1, h2⟩ := lstOf ra hm e
    exact ⟨a, ws, rfl, h1, fun l o hl ho => k _ _ (.new hm hl (.ptu (Step.new_at hm hl) ho (h2.mono (Step.new hm hl).ex)) q)⟩
  · exact h.elim
/-- dict(t) of such a tuple of pairs -/
@[irreducible] def dctTK (F : List (Key × D) → M → Prop) (x : D) (m : M) : Prop := Box <| ∃ ds l, x = .ptu ds ∧ prsD ds = some l ∧ F (mgK [] l) m
theorem dct_t {F : List (Key × D) → M → Prop} {m : M} {ds : List D} {l : List (Key × D)} (h : prsD ds = some l) (q : F (mgK [] l) m) : dctTK F (.ptu ds) m := by unfold dctTK; exact ⟨⟨ds, l, rfl, h, q⟩⟩
def kDctT : RC2 := fun xs m Q => match xs with | [x] => dctTK (fun l m => Q (tbD l) m) x m | _ => False
theorem kc_dctT {K : PySem.W.Frag} : CvC K (fun xs H Q => ∃ (a : Addr) (o : Obj) (ps : List Addr) (kvs : List (Key × V)), xs = [.ref a] ∧ H a = some (.frz o (.tup (ps.map V.ref))) ∧ o.dict = none ∧ Paired (fun p kv => SqT K H p [kV kv.1, kv.2]) ps kvs ∧
    ∀ p, H p = none → Q (.ref p) (upd H p (.dK (mergeK [] kvs)))) kDctT := fun H m ds vs Q Q' hm r h k => by
  unfold kDctT at h
  split at h
  · unfold dctTK at h
    obtain ⟨es, l, rfl, e, q⟩ := h.out
    obtain ⟨v1, rfl, ra⟩ := one_rep r
    cases ra with
    | ptu h1 h0 h2 =>
      obtain ⟨ps, kvs, rfl, h3, h4⟩ := prs_rep h2 e
      exact ⟨_, _, ps, kvs, rfl, hid_ex _ _ h1, h0, h3, fun p hp => k _ _ (.new hm hp (((h4.merge .nil).mono (Step.new hm hp).ex).rep (Step.new_at hm hp)) q)⟩
  · exact h.elim
section
variable {X : Cx} {ω : Bx} {p pos : Pos} {e : Expr} {es : List Expr} {t : TA2}
theorem tuplePU (hg : Gl X "tuple") (hm : X.mg "tuple" = none) (ha : PA2 X ω (e :: es) t) (he : starEach (e :: es) X.env = (false, eval e X.env) :: starEach es X.env := by rfl) (hpl : (backTo pos (starEach es X.env)).any (·.1) = false := by rfl) : PE2 X ω (.Call (.Name "tuple" p) (e :: es) [] pos) (tCB2 kPtu t) :=
  q_callTy call_tupleP kc_ptu hg hm bt_tuple ha (by decide) (by decide) he hpl
theorem dictTU (hc : X.calm = true) (hg : Gl X "dict") (hm : X.mg "dict" = none) (ha : PA2 X ω (e :: es) t) (he : starEach (e :: es) X.env = (false, eval e X.env) :: starEach es X.env := by rfl) (hpl : (backTo pos (starEach es X.env)).any (·.1) = false := by rfl) : PE2 X ω (.Call (.Name "dict" p) (e :: es) [] pos) (tCB2 kDctT t) :=
  q_callTy (call_dictT hc) kc_dctT hg hm bt_dict ha (by decide) (by decide) he hpl
end
end Z

/-! Z31: a comprehension as an owned value; sorted lists of texts are one. -/
namespace Z
open PySem PySem.Spec PyProof.Rows L2
section
variable {X : Cx} {ω : Bx}
theorem q_lcM {elt tg iter : Expr} {ifs : List Expr} {scope : Scope} {own : List (Str × Nat)} {pos : Pos} {ti : TI2} {g : TG2} {tt : TT2} {te : TE2} (hc : X.calm = true) (hN : X.N.Nodup) (hi : PI2 X ω tg iter ti) (ok : BlkOk X.N X.env.scope scope own)
    (hg : ∀ (s : Shared) (H : Hp) (C : Addr) (cl : List (Str × Addr)) (fp : List Addr), PGc (X.blk s H scope (compEnvC scope cl C X.env) fp) ω tg (own.map (·.2)) g)
    (ht : ∀ (s : Shared) (H : Hp) (C : Addr) (cl : List (Str × Addr)) (fp : List Addr), PTs2 (X.blk s H scope (compEnvC scope cl C X.env) fp) ω ifs tt)
    (he : ∀ (s : Shared) (H : Hp) (C : Addr) (cl : List (Str × Addr)) (fp : List Addr), PE2 (X.blk s H scope (compEnvC scope cl C X.env) fp) ω elt te) (hs : ∀ x, foldedSetIterable iter X.env x = pure x := by intro _; rfl) :
    PE2 X ω (.ListComp elt [⟨tg, iter, ifs, 0⟩] scope pos) (tLcM ti g tt te (own.map (·.2))) := by
  have h := pe_lc (X := X) (elt := elt) (tg := tg) (iter := iter) (ifs := ifs) (scope := scope) (own := own) (pos := pos)
    (g := fun v σ H Q => ∀ s0 H0 C cl fp, semG (X.blk s0 H0 scope (compEnvC scope cl C X.env) fp) tg v σ H Q)
    (tt := fun σ H Q => ∀ s0 H0 C cl fp pins s, Inv (X.blk s0 H0 scope (compEnvC scope cl C X.env) fp) pins σ H s → wpAny (model X.prog X.w) X.A (forIn ifs true fun c r => if r = true then do let ok ← isTrue c (compEnvC scope cl C X.env) (eval c (compEnvC scope cl C X.env)); pure (ForInStep.yield ok) else pure (ForInStep.yield r)) (TP (X.blk s0 H0 scope (compEnvC scope cl C X.env) fp) pins σ Q) (fun _ _ => False) s)
    (te := fun σ H Q => ∀ s0 H0 C cl fp, semE (X.blk s0 H0 scope (compEnvC scope cl C X.env) fp) elt σ H Q)
    hc hN (pi_sem (X := X) (tg := tg) (iter := iter)) ok
    (fun s0 H0 C cl fp => ⟨fun pins s σ H v u Q I r z => z s0 H0 C cl fp pins s u I r⟩) (fun s0 H0 C cl fp => ⟨fun pins s σ H Q I z => z s0 H0 C cl fp pins s I⟩) (fun s0 H0 C cl fp => ⟨fun pins s σ H Q I z => z s0 H0 C cl fp pins s I⟩) hs
  refine h.to2 fun σ H gg m Q S hm q => (hi.sem S hm q).mono fun J H1 ⟨ds, keep, m1, s1, wk, q1⟩ => fun Dl hD => ?_
  obtain ⟨hlen, W, w0, turn⟩ := LcG.out q1
  refine ⟨fun i n H' => n = ds.length - i ∧ i ≤ ds.length ∧ ∃ acc m', m' Dl = none ∧ acc.length ≤ i ∧ Step X.K m1 H1 (upM m' Dl (.lst acc)) H' ∧ W i acc m',
    ⟨ds.length, by simp, Nat.zero_le _, [], m1, s1.mem.fresh hD, Nat.le_refl _, Step.newM (c := .lst []) s1.mem hD ⟨[], upd_same, .nil⟩, w0⟩, ?_⟩
  rintro i n H' ⟨rfl, hi', acc, m', hmD, hal, st, w'⟩
  obtain ⟨hk, he'⟩ := turn i acc m' w'
  obtain ⟨kp, ht'⟩ := hk Dl hmD
  by_cases hlt : i < ds.length
  · obtain ⟨hgo, hy⟩ := wk.go i _ H' st kp hlt
    refine .inr ⟨hgo, fun H2 => ∃ acc m', m' Dl = none ∧ acc.length ≤ i + 1 ∧ Step X.K m1 H1 (upM m' Dl (.lst acc)) H2 ∧ W (i + 1) acc m', fun H2 ⟨acc2, m2, a, b, c, d⟩ => ⟨ds.length - (i + 1), by omega, rfl, hlt, acc2, m2, a, b, c, d⟩, fun v H2 y => ?_⟩
    obtain ⟨d, hd, st2, rv⟩ := hy v H2 y
    have st12 := st.trans st2
    intro s0 H0 C cl fp
    have SW : SlotOk X.K ω (wipe2 gg (own.map (·.2))) (L2.wipe σ (own.map (·.2))) (hid (upM m' Dl (.lst acc)) H2) := ((S.mono s1.ex).mono st12.ex).wipe _
    refine ((hg s0 H0 C cl fp).sem SW st12.mem rv (ht' d hd)).mono fun σ3 H3 ⟨⟨g3, m3, s3, S3, q3⟩, hw⟩ => ⟨?_, ?_⟩
    · rw [hw]
      have ww : ∀ vs : List Nat, L2.wipe (L2.wipe σ vs) vs = L2.wipe σ vs := fun vs => by
        have gen : ∀ us : List Nat, (∀ u ∈ us, u ∈ vs) → L2.wipe (L2.wipe σ us) vs = L2.wipe σ vs := by
          intro us
          induction us with
          | nil => intro _; rfl
          | cons u us ih =>
            intro hu
            show L2.wipe ((L2.wipe σ us).set u none) vs = _
            rw [wipe_set (hu u List.mem_cons_self)]
            exact ih fun z hz => hu z (List.mem_cons_of_mem _ hz)
        exact gen vs fun _ z => z
      exact ww _
    · intro s0 H0 C cl fp pins s I
      refine thn ((ht s0 H0 C cl fp).sem S3 s3.mem q3 pins s I) fun b s4 ⟨H4, I4, m4, st4, q4⟩ => ⟨H4, I4, ?_⟩
      have st14 := (st12.trans s3).trans st4
      cases b with
      | true =>
        rw [if_pos rfl] at q4
        refine iteT ?_
        intro s0 H0 C cl fp
        refine ((he s0 H0 C cl fp).sem (S3.mono st4.ex) st4.mem q4).mono fun yv H5 ⟨yd, m5', st5, ry, m5, e5, hm5, w5⟩ => ?_
        subst e5
        have st15 := st14.trans st5
        obtain ⟨accV, ha, hr⟩ := st15.mem Dl _ upM_same
        refine ⟨accV, ha, by rw [hr.length]; omega, acc ++ [yd], m5, hm5, by rw [List.length_append, List.length_singleton]; omega, ?_, w5⟩
        have stn := Step.upM (c := .lst (acc ++ [yd])) (o := .lst (accV ++ [yv])) st15.mem upM_same ⟨_, upd_same, hr.append (.cons ry .nil)⟩
        rw [upM_upM] at stn
        exact st15.trans stn
      | false =>
        rw [if_neg Bool.false_ne_true] at q4
        refine iteF ?_
        obtain ⟨m5, e5, hm5, w5⟩ := q4
        subst e5
        exact ⟨acc, m5, hm5, by omega, st14, w5⟩
  · have e : i = ds.length := by omega
    have st' := s1.trans st
    exact .inl ⟨wk.stop i _ H' st kp (by omega), ⟨.ref Dl, _, st', .ref Dl, he' e Dl hmD⟩⟩
end
/-! ### the order of texts -/
def leS (a b : Str) : Prop := ¬ b.cps.toList < a.cps.toList
theorem leS_trans {a b c : Str} (h1 : leS a b) (h2 : leS b c) : leS a c := by
  unfold leS at *
  exact List.not_lt.mpr (List.le_trans (List.not_lt.mp h1) (List.not_lt.mp h2))
theorem leS_anti {a b : Str} (h1 : leS a b) (h2 : leS b a) : a = b := by
  unfold leS at *
  exact TL.ext_tl (List.le_antisymm (List.not_lt.mp h1) (List.not_lt.mp h2))
theorem rising_pw : ∀ (p : Str) (l : List Str), risingS p l = true → (∀ x ∈ l, leS p x) ∧ l.Pairwise leS
  | _, [], _ => ⟨fun _ h => absurd h List.not_mem_nil, .nil⟩
  | p, x :: r, h => by
    have h : (!ltCps x.cps.toList p.cps.toList && risingS x r) = true := h
    rw [Bool.and_eq_true, ltCps_eq] at h
    have h1 : leS p x := by
      have := h.1
      simpa [leS] using this
    have ⟨h2, h3⟩ := rising_pw x r h.2
    refine ⟨fun y hy => ?_, List.pairwise_cons.mpr ⟨h2, h3⟩⟩
    rcases List.mem_cons.mp hy with e | e
    · rw [e]; exact h1
    · exact leS_trans h1 (h2 y e)
theorem sortedS_pw {l : List Str} (h : sortedS l = true) : l.Pairwise leS := by
  cases l with
  | nil => exact .nil
  | cons x r => exact List.pairwise_cons.mpr (rising_pw x r h)
theorem sortedS_one {a b zs : List Str} (ha : a.Perm zs) (hb : b.Perm zs) (sa : sortedS a = true) (sb : sortedS b = true) : a = b :=
  List.Perm.eq_of_pairwise (fun x y _ _ h1 h2 => leS_anti h1 h2) (sortedS_pw sa) (sortedS_pw sb) (ha.trans hb.symm)
/-- without doubles: strictly rising -/
theorem sortedS_lt {l : List Str} (h : sortedS l = true) (hn : l.Nodup) : l.Pairwise fun a b => a.cps.toList < b.cps.toList := by
  refine List.Pairwise.imp ?_ ((sortedS_pw h).and hn)
  intro a b ⟨h1, h2⟩
  rcases Decidable.em (a.cps.toList < b.cps.toList) with h3 | h3
  · exact h3
  · exact absurd (leS_anti h1 h3) h2
end Z

/-! Z32: an owned list given up: it is a value from there on. -/
namespace Z
open PySem PySem.Spec PyProof.Rows L2
def tValU (t : TE2) : TE2 := fun g m Q => t g m fun x m1 => ∃ l ds, x = .ref l ∧ m1 l = some (.lst ds) ∧ Q (.lst ds) (dropM m1 l)
theorem dropM_same {m : M} {p : Addr} : dropM m p p = none := if_pos rfl
theorem valU {X : Cx} {ω : Bx} {e : Expr} {t : TE2} (h : PE2 X ω e t) : PE2 X ω e (tValU t) := ⟨fun {σ H g m Q} S hm q => (h.sem S hm q).mono fun v H1 ⟨d, m1, s1, r1, l, ds, e, hl, q1⟩ => by
  subst e
  have hv : v = .ref l := by cases r1; rfl
  subst hv
  obtain ⟨vs, h1, h2⟩ := s1.mem l _ hl
  have st := Step.dropM (p := l) s1.mem
  exact ⟨.lst ds, _, s1.trans st, .lst (hid_of dropM_same h1) (h2.mono st.ex), q1⟩⟩
theorem drop_up {m : M} {l : Addr} {c : C} (h : m l = none) : dropM (upM m l c) l = m := by
  funext a
  unfold dropM upM
  by_cases e : a = l
  · rw [if_pos e, e, h]
  · rw [if_neg e, if_neg e]
theorem StAt.give {p l : Addr} {m m' : M} {c : C} (h : StAt p (upM m l c) m') (hl : m l = none) (hne : l ≠ p) : StAt p m (dropM m' l) := by
  obtain ⟨st, h1, rfl⟩ := h
  refine ⟨st, h1, ?_⟩
  funext a
  unfold dropM upM
  by_cases e : a = l
  · subst e; rw [if_pos rfl, if_neg hne, hl]
  · rw [if_neg e]
    by_cases e2 : a = p
    · rw [if_pos e2, if_pos e2]
    · rw [if_neg e2, if_neg e2, if_neg e]
end Z

/-! Z33: list(xs) as an owned list. -/
namespace Z
open PySem PySem.Spec PyProof.Rows L2
section
variable {X : Cx} {ω : Bx} {p pos : Pos} {e : Expr} {es : List Expr} {t : TA2}
theorem listUM (hg : Gl X "list") (hm : X.mg "list" = none) (ha : PA2 X ω (e :: es) t) (he : starEach (e :: es) X.env = (false, eval e X.env) :: starEach es X.env := by rfl) (hpl : (backTo pos (starEach es X.env)).any (·.1) = false := by rfl) : PE2 X ω (.Call (.Name "list" p) (e :: es) [] pos) (tCB2 cListM t) :=
  q_callTy call_list_of cc_listM hg hm bt_list ha (by decide) (by decide) he hpl
end
end Z

/-! Z34: a dict that is never changed (.fdi), made by dict(..); its keys walked. -/
namespace Z
open PySem PySem.Spec PyProof.Rows L2
def fdD (l : List (Key × D)) : D := .fdi (l.map (·.1)) (l.map (·.2))
theorem res_fd {m : M} {l : List (Key × D)} : res m (fdD l) = tbD l := rfl
theorem RP.repF {K : PySem.W.Frag} {G : Hp} {a : Addr} {o : Obj} {l : List (Key × V)} {l' : List (Key × D)} (h : RP K G l l') (e : G a = some (.frz o (.dK l))) : Rep K G (.ref a) (fdD l') := by
  refine .fdi (vs := l.map (·.2)) (o := o) ?_ (by have := h.len; simpa using this.symm) h.vals
  rw [e, ← h.keys, ← unz]
theorem upd_upd' {H : Hp} {p : Addr} {u v : HO} : upd (upd H p u) p v = upd H p v := by
  funext b
  by_cases e : b = p
  · subst e; rw [upd_same, upd_same]
  · rw [upd_ne e, upd_ne e, upd_ne e]
def rDctF (K : PySem.W.Frag) : List V → Hp → VK → Prop := fun xs H Q => rDct K xs H fun v H' => ∃ p kvs, v = .ref p ∧ H' = upd H p (.dK kvs) ∧ ∀ od, Q v (upd H p (.frz od (.dK kvs)))
def kDctF : RC2 := fun xs m Q => match xs with | [x] => dctK (fun l m => Q (fdD l) m) x m | _ => False
theorem kc_dctF {K : PySem.W.Frag} : CvC K (rDctF K) kDctF := fun H m ds vs Q Q' hm r h k => by
  unfold kDctF at h
  split at h
  · obtain ⟨v1, rfl, ra⟩ := one_rep r
    exact kc_dctG hm ra h fun p ls l hp h2 q => ⟨p, ls, rfl, rfl, fun od => k _ _ (.new hm hp ((h2.mono (Step.new hm hp).ex).repF (Step.new_at hm hp)) q)⟩
  · exact h.elim
theorem cr_dctF {X : Cx} (hc : X.calm = true) : CallR X (.type "dict") (rDctF X.K) := fun pins s σ H xs us Q I r h => by
  refine thn (cr_dct hc pins s σ H xs us _ I r h) ?_
  rintro v s1 ⟨x, H1, I1, rv, p, kvs, rfl, rfl, q⟩
  obtain ⟨od, I2⟩ := I1.lock upd_same (show Mut (some (.dK kvs)) from trivial)
  rw [upd_upd'] at I2
  exact ⟨_, _, I2, rv, q od⟩
/-- the key, as a value -/
def keyV : Key → D | .inl i => .int i | .inr z => .str z
theorem keyV_rep {K : PySem.W.Frag} {G : Hp} (k : Key) : Rep K G (kV k) (keyV k) := by cases k; exact .int _; exact .str _
@[irreducible] def keysK (R : List D → (M → Prop) → M → Prop) (d : D) (m1 : M) : Prop := Box <| ∃ l, d = fdD l ∧ R (l.map fun p => keyV p.1) (fun _ => True) m1
theorem keysK_of {R : List D → (M → Prop) → M → Prop} {l : List (Key × D)} {m1 : M} (q : R (l.map fun p => keyV p.1) (fun _ => True) m1) : keysK R (fdD l) m1 := by unfold keysK; exact ⟨⟨l, rfl, q⟩⟩
def iKeysU (tl : TE2) : TI2 := fun g m R => tl g m fun d m1 => keysK R d m1
section
variable {X : Cx} {ω : Bx} {p pos : Pos} {e tg : Expr} {es : List Expr} {t : TA2} {te : TE2}
theorem dictFU (hc : X.calm = true) (hg : Gl X "dict") (hm : X.mg "dict" = none) (ha : PA2 X ω (e :: es) t) (he : starEach (e :: es) X.env = (false, eval e X.env) :: starEach es X.env := by rfl) (hpl : (backTo pos (starEach es X.env)).any (·.1) = false := by rfl) : PE2 X ω (.Call (.Name "dict" p) (e :: es) [] pos) (tCB2 kDctF t) :=
  q_callTy (cr_dctF hc) kc_dctF hg hm bt_dict ha (by decide) (by decide) he hpl
theorem dkeysU (hl : PE2 X ω e te) : PI2 X ω tg e (iKeysU te) :=
  (pi_keys pe_sem).to2 fun σ H g m R S hm q => (hl.sem S hm q).mono fun v H1 ⟨d, m1, s1, r1, q1⟩ => by
    dsimp only at q1
    unfold keysK at q1
    obtain ⟨l, rfl, q2⟩ := q1.out
    unfold fdD at r1
    cases r1 with
    | @fdi a _ vs _ o h1 h0 h2 =>
      refine ⟨a, o, rfl, .inl ⟨_, hid_ex _ _ h1, _, _, m1, s1, ⟨fun i m' H' st _ hi => ?_, fun i m' H' st _ hi => ?_⟩, q2⟩⟩
      · have hk := (st.keep a _ (hid_ex _ _ h1) (hid_some h1).1).1
        rw [List.length_map] at hi
        refine ⟨⟨hk, ?_⟩, fun w H'' y => ?_⟩
        · rw [List.length_zip, ← h0, Nat.min_self, List.length_map]; exact hi
        · obtain ⟨rfl, k, v, hkv, rfl⟩ := y
          rw [List.getElem?_zip_eq_some] at hkv
          obtain ⟨e1, _⟩ := hkv
          rw [List.getElem?_map] at e1
          refine ⟨keyV k, ?_, .refl st.mem, keyV_rep k⟩
          rw [List.getElem?_map]
          cases hq : l[i]? with
          | none => rw [hq] at e1; cases e1
          | some z => rw [hq] at e1; cases e1; rfl
      · have hk := (st.keep a _ (hid_ex _ _ h1) (hid_some h1).1).1
        rw [List.length_map] at hi
        refine ⟨hk, ?_⟩
        rw [List.length_zip, ← h0, Nat.min_self, List.length_map]; exact hi
end
theorem kLst_of {m : M} {Q : Kd} {x : D} {ds : List D} (e : itsD (res m x) = some ds) (q : Q (.lst ds) m) : kList [x] m Q := by
  unfold kList kIts
  refine ⟨?_⟩
  dsimp only
  cases h : res m x <;> rw [h] at e <;> first | (cases e; exact q) | cases e
/-! ### a comprehension with a test, both moving a state -/
theorem lc_fR {tg : TG2} {tt : TT2} {te : TE2} {vs : List Nat} {g : Sl} {m1 : M} {ds : List D} {keep : M → Prop} {Q : Kd} {p : Addr} (R : D → D → Prop) (hs : StAt p m1 m1) (hl : ds.length ≤ sizeLine) (hk : ∀ mm, keep mm)
    (he : ∀ d ∈ ds, ∀ mm, StAt p mm mm → ∀ (kf : M → Prop) (k : Kd), (∀ mm', StAt p mm mm' → kf mm') → (∀ y mm', R d y → StAt p mm mm' → k y mm') → tg d (wipe2 g vs) mm fun g2 m2 => tt g2 m2 fun b m3 => if b = true then te g2 m3 k else kf m3)
    (hq : ∀ ys m', ys.length ≤ ds.length → (∀ y ∈ ys, ∃ d ∈ ds, R d y) → StAt p m1 m' → Q (.lst ys) m') : LcG tg tt te vs g Q ds keep m1 := by
  refine LcG.mk hl (fun i acc m' => acc.length ≤ i ∧ (∀ y ∈ acc, ∃ d ∈ ds, R d y) ∧ StAt p m1 m') ⟨Nat.zero_le _, fun _ h => (by simp at h), hs⟩ ?_
  rintro i acc m' ⟨hi, hP, hm⟩
  refine ⟨fun Dl hD => ⟨hk _, fun d hd => ?_⟩, fun e => hq _ _ (e ▸ hi) hP hm⟩
  have hmem := List.mem_of_getElem? hd
  obtain ⟨st, hst, hat⟩ := hm.at
  have hne : p ≠ Dl := ne_ofM hat hD
  have h2 : StAt p (upM m' Dl (.lst acc)) (upM m' Dl (.lst acc)) := StAt.mk (by rw [upM_ne hne]; exact hat) hst
  refine he d hmem _ h2 (fun m3 => ∃ m5, m3 = upM m5 Dl (.lst acc) ∧ m5 Dl = none ∧ _) _ (fun mm' hmm => ?_) (fun y mm' hy hmm => ?_)
  · obtain ⟨st', hst', rfl⟩ := hmm
    exact ⟨upM m' p (.lst st'), upM_comm hne.symm, by rw [upM_ne hne.symm]; exact hD, by omega, hP, hm.trans ⟨st', hst', rfl⟩⟩
  · obtain ⟨st', hst', rfl⟩ := hmm
    refine ⟨upM m' p (.lst st'), upM_comm hne.symm, by rw [upM_ne hne.symm]; exact hD, by rw [List.length_append, List.length_singleton]; omega, fun z hz => ?_, hm.trans ⟨st', hst', rfl⟩⟩
    rcases List.mem_append.mp hz with h | h
    · exact hP z h
    · rw [List.mem_singleton] at h; subst h; exact ⟨d, hmem, hy⟩
end Z

/-! Z35: in, of plain data in a list or a tuple. -/
namespace Z
open PySem PySem.Spec PyProof.Rows L2
def rInP (K : PySem.W.Frag) (neg : Bool) : R2 := fun x y H Q => ∃ d ds, Dp K H x d ∧ (Dp K H y (.list ds) ∨ Dp K H y (.tuple ds)) ∧ d.canLay0 = true ∧ d.depth ≤ 60 ∧ SeqAt.shaped (.list ds) = true ∧ Q (.bl (if neg then !(ds.any fun z => PyData.eqv z d) else ds.any fun z => PyData.eqv z d)) H
section
variable {X : Cx}
theorem op_inP (hu : X.A.units + 64 < cLine) : OpR X (compareOp .In) (rInP X.K false) := by
  intro pins s σ H x y v u Q I rx ry h
  obtain ⟨d, ds, hd, he, sd, sx, se, q⟩ := h
  have hroom : X.A.units + 1 + min (PyData.depthAll ds) d.depth < cLine := by have := Nat.min_le_right (PyData.depthAll ds) d.depth; omega
  obtain ⟨as, r1⟩ := Dp.reads I d x v hd rx
  rcases he with he | he
  · obtain ⟨bs, r2⟩ := Dp.reads I (.list ds) y u he ry
    exact SeqAt.in_list_reads r2 r1 (SeqAt.canLay_of_shaped se) sd hroom ⟨.bl _, H, I, rfl, q⟩
  · obtain ⟨bs, r2⟩ := Dp.reads I (.tuple ds) y u he ry
    exact SeqAt.in_tuple_reads r2 r1 (SeqAt.canLay_of_shaped se) sd hroom ⟨.bl _, H, I, rfl, q⟩
theorem op_notInP (hu : X.A.units + 64 < cLine) : OpR X (compareOp .NotIn) (rInP X.K true) := by
  intro pins s σ H x y v u Q I rx ry h
  obtain ⟨d, ds, hd, he, sd, sx, se, q⟩ := h
  have hroom : X.A.units + 1 + min (PyData.depthAll ds) d.depth < cLine := by have := Nat.min_le_right (PyData.depthAll ds) d.depth; omega
  obtain ⟨as, r1⟩ := Dp.reads I d x v hd rx
  rcases he with he | he
  · obtain ⟨bs, r2⟩ := Dp.reads I (.list ds) y u he ry
    exact SeqAt.notIn_list_reads r2 r1 (SeqAt.canLay_of_shaped se) sd hroom ⟨.bl _, H, I, rfl, q⟩
  · obtain ⟨bs, r2⟩ := Dp.reads I (.tuple ds) y u he ry
    exact SeqAt.notIn_tuple_reads r2 r1 (SeqAt.canLay_of_shaped se) sd hroom ⟨.bl _, H, I, rfl, q⟩
end
@[irreducible] def oInP (neg : Bool) : R22 := fun x y m Q => Box <| ∃ ds b, itsD (res m y) = some ds ∧ okD 60 (res m x) = true ∧ okDs 59 ds = true ∧ (ds.any fun z => eqD z (res m x)) = b ∧ Q (.bl (if neg then !b else b)) m
theorem in_p {neg b : Bool} {x y : D} {m : M} {Q : Kd} {ds : List D} (e : itsD (res m y) = some ds) (h1 : okD 60 (res m x) = true) (h2 : okDs 59 ds = true) (h3 : (ds.any fun z => eqD z (res m x)) = b) (q : Q (.bl (if neg then !b else b)) m) : oInP neg x y m Q := by
  unfold oInP; exact ⟨⟨ds, b, e, h1, h2, h3, q⟩⟩
theorem pys_any (x : D) : ∀ ds : List D, ((pys ds).any fun z => PyData.eqv z (py x)) = ds.any fun z => eqD z x
  | [] => rfl
  | d :: r => by simp only [pys, List.any_cons, pys_any x r, eqD]
theorem pyTup {ds : List D} : py (.tup ds) = .tuple (pys ds) := by simp only [py]
theorem pyLst {ds : List D} : py (.lst ds) = .list (pys ds) := by simp only [py]
theorem pyRol {ds : List D} : py (.rol ds) = .list (pys ds) := by simp only [py]
theorem cv_inP {K : PySem.W.Frag} {neg : Bool} : Cv2 K (rInP K neg) (oInP neg) := fun H m dx dy x y Q Q' hm rx ry h k => by
  unfold oInP at h
  obtain ⟨ds, b, e, h1, h2, h3, q⟩ := h.out
  have dx' := (repRes rx hm).dp h1
  have hy : okD 60 (res m dy) = true ∧ (py (res m dy) = .list (pys ds) ∨ py (res m dy) = .tuple (pys ds)) := by
    cases he : res m dy <;> rw [he] at e <;> first | (cases e; (refine ⟨by simpa only [okD] using h2, ?_⟩; first | exact .inr pyTup | exact .inl pyLst | exact .inl pyRol)) | cases e
  have dy' := (repRes ry hm).dp hy.1
  have sl : SeqAt.shaped (.list (pys ds)) = true := by
    have := okD_shaped (n := 60) (d := .lst ds) (by simpa only [okD] using h2) (by decide)
    simpa only [py] using this
  refine ⟨py (res m dx), pys ds, dx', ?_, (okD_lay 60 _ h1).1, (okD_lay 60 _ h1).2, sl, ?_⟩
  · rcases hy.2 with e2 | e2
    · rw [e2] at dy'; exact .inl dy'
    · rw [e2] at dy'; exact .inr dy'
  · rw [pys_any, h3]
    exact k _ _ (.same hm (.bl _) q)
section
variable {X : Cx} {ω : Bx} {a b : Expr} {ta tb : TE2} {pos : Pos}
theorem inP {k : Nat} (hr : Room k X.A) (ha : PE2 X ω a ta) (hb : PE2 X ω b tb) (hm : behindInMarks .In b = false) : PE2 X ω (.Compare a [.In] [b] pos) (tOp2 (oInP false) ta tb) := q_cmp (op_inP hr.units) cv_inP ha hb hm
theorem notInP {k : Nat} (hr : Room k X.A) (ha : PE2 X ω a ta) (hb : PE2 X ω b tb) (hm : behindInMarks .NotIn b = false) : PE2 X ω (.Compare a [.NotIn] [b] pos) (tOp2 (oInP true) ta tb) := q_cmp (op_notInP hr.units) cv_inP ha hb hm
theorem tinP {k : Nat} (hr : Room k X.A) (ha : PE2 X ω a ta) (hb : PE2 X ω b tb) (hm : behindInMarks .In b = false) : PT2 X ω (.Compare a [.In] [b] pos) (tTU (tOp2 (oInP false) ta tb)) := testC (op_inP hr.units) cv_inP ha hb hm
theorem tnotInP {k : Nat} (hr : Room k X.A) (ha : PE2 X ω a ta) (hb : PE2 X ω b tb) (hm : behindInMarks .NotIn b = false) : PT2 X ω (.Compare a [.NotIn] [b] pos) (tTU (tOp2 (oInP true) ta tb)) := testC (op_notInP hr.units) cv_inP ha hb hm
end
end Z

/-! Z36: numbers as rationals. -/
namespace Z
open PySem PySem.Spec PyProof.Rows L2
def qF (p : Fr) : Rat := (p.1 : Rat) / (p.2 : Rat)
theorem cast_ne {b : Int} (h : b ≠ 0) : (b : Rat) ≠ 0 := fun e => h (by exact_mod_cast e)
theorem qF_of {p : Fr} {a b : Int} (hp : p.2 ≠ 0) (hb : b ≠ 0) (e : p.1 * b = a * p.2) : qF p = (a : Rat) / b := by
  have h1 := cast_ne hp
  have h2 := cast_ne hb
  have h3 : (p.1 : Rat) * b = a * p.2 := by exact_mod_cast e
  unfold qF
  grind
theorem qF_low {a b : Int} (hb : 0 < b) : qF (lowP a b) = (a : Rat) / b := qF_of (by have := (lowP_lo (a := a) hb).1; omega) (by omega) (lowP_eq hb)
theorem qF_mk {a b : Int} (hb : b ≠ 0) : qF (mkP a b) = (a : Rat) / b := qF_of (by have := (mkP_lo (a := a) hb).1; omega) hb (mkP_eq hb)
theorem qF_plus {p q : Fr} (hp : 0 < p.2) (hq : 0 < q.2) : qF (plusP p q) = qF p + qF q := by
  unfold plusP
  rw [qF_low (ovMul_pos hp hq)]
  have h1 := cast_ne (b := p.2) (by omega)
  have h2 := cast_ne (b := q.2) (by omega)
  unfold qF
  push_cast
  grind
theorem qF_less {p q : Fr} (hp : 0 < p.2) (hq : 0 < q.2) : qF (lessP p q) = qF p - qF q := by
  unfold lessP
  rw [qF_low (ovMul_pos hp hq)]
  have h1 := cast_ne (b := p.2) (by omega)
  have h2 := cast_ne (b := q.2) (by omega)
  unfold qF
  push_cast
  grind
theorem qF_times {p q : Fr} (hp : 0 < p.2) (hq : 0 < q.2) : qF (timesP p q) = qF p * qF q := by
  unfold timesP
  rw [qF_low (ovMul_pos hp hq)]
  have h1 := cast_ne (b := p.2) (by omega)
  have h2 := cast_ne (b := q.2) (by omega)
  unfold qF
  push_cast
  grind
theorem qF_share {p q : Fr} (hp : 0 < p.2) (hq : 0 < q.2) (h0 : q.1 ≠ 0) : qF (shareP p q) = qF p / qF q := by
  unfold shareP
  rw [qF_mk (Int.mul_ne_zero (by omega) h0)]
  have h1 := cast_ne (b := p.2) (by omega)
  have h2 := cast_ne (b := q.2) (by omega)
  have h3 := cast_ne h0
  unfold qF
  push_cast
  grind
theorem qF_inj {p q : Fr} (hp : Lo p) (hq : Lo q) (e : qF p = qF q) : p = q := by
  refine lo_same hp hq ?_
  have h1 := cast_ne (b := p.2) (by have := hp.1; omega)
  have h2 := cast_ne (b := q.2) (by have := hq.1; omega)
  unfold qF at e
  have h3 : (p.1 : Rat) * q.2 = q.1 * p.2 := by grind
  exact_mod_cast h3
theorem qF_zero : qF (0, 1) = 0 := by unfold qF; grind
theorem qF_one : qF (1, 1) = 1 := by unfold qF; grind
theorem qF_zero_iff {p : Fr} (h : Lo p) : qF p = 0 ↔ p = (0, 1) := ⟨fun e => qF_inj h ⟨by decide, by decide⟩ (by rw [e, qF_zero]), fun e => by rw [e, qF_zero]⟩
theorem cast_pos {b : Int} (h : 0 < b) : (0 : Rat) < (b : Rat) := by exact_mod_cast h
/-- the order, as it is compared -/
theorem gap_q {p q : Fr} (hp : 0 < p.2) (hq : 0 < q.2) : (gapP p q : Rat) = (qF p - qF q) * ((p.2 : Rat) * q.2) := by
  have h1 := cast_ne (b := p.2) (by omega)
  have h2 := cast_ne (b := q.2) (by omega)
  unfold gapP qF
  push_cast
  grind
theorem gap_neg {p q : Fr} (hp : 0 < p.2) (hq : 0 < q.2) : gapP p q < 0 ↔ qF p < qF q := by
  have h := gap_q hp hq
  have h3 : (0 : Rat) < (p.2 : Rat) * q.2 := Rat.mul_pos (cast_pos hp) (cast_pos hq)
  constructor
  · intro h0
    have h0 : (gapP p q : Rat) < 0 := by exact_mod_cast h0
    rw [h] at h0
    refine Classical.byContradiction fun hn => ?_
    have h4 : 0 ≤ qF p - qF q := by grind
    have h5 := Rat.mul_nonneg h4 (by grind : (0 : Rat) ≤ (p.2 : Rat) * q.2)
    grind
  · intro h0
    have h4 : 0 < qF q - qF p := by grind
    have h5 := Rat.mul_pos h4 h3
    have h6 : (gapP p q : Rat) < 0 := by grind
    exact_mod_cast h6
theorem gap_zero {p q : Fr} (hp : 0 < p.2) (hq : 0 < q.2) : gapP p q = 0 ↔ qF p = qF q := by
  have h := gap_q hp hq
  have h3 : (0 : Rat) < (p.2 : Rat) * q.2 := Rat.mul_pos (cast_pos hp) (cast_pos hq)
  constructor
  · intro h0
    rw [h0] at h
    have h5 : (qF p - qF q) * ((p.2 : Rat) * q.2) = 0 := by rw [← h]; rfl
    rcases Rat.mul_eq_zero.mp h5 with h6 | h6
    · grind
    · rw [h6] at h3; exact absurd h3 (by decide)
  · intro h0
    rw [h0] at h
    have h6 : (gapP p q : Rat) = 0 := by grind
    exact_mod_cast h6
theorem gap_pos {p q : Fr} (hp : 0 < p.2) (hq : 0 < q.2) : 0 < gapP p q ↔ qF q < qF p := by
  have h1 := gap_neg hp hq
  have h2 := gap_zero hp hq
  constructor
  · intro h
    refine Classical.byContradiction fun hn => ?_
    rcases (by grind : qF p < qF q ∨ qF p = qF q) with h3 | h3
    · have := h1.mpr h3; omega
    · have := h2.mpr h3; omega
  · intro h
    refine Classical.byContradiction fun hn => ?_
    rcases (by omega : gapP p q < 0 ∨ gapP p q = 0) with h3 | h3
    · have := h1.mp h3; grind
    · have := h2.mp h3; grind
end Z

/-! Z37: rationals as data. -/
namespace Z
open PySem PySem.Spec PyProof.Rows L2
def fr (a : Rat) : Fr := (a.num, (a.den : Int))
theorem fr_lo (a : Rat) : Lo (fr a) := ⟨by have := a.den_pos; show (0 : Int) < (a.den : Int); omega, a.reduced⟩
theorem qF_fr (a : Rat) : qF (fr a) = a := by
  have h := Rat.num_divInt_den a
  rw [Rat.divInt_eq_div] at h
  exact h
theorem fr_qF {p : Fr} (h : Lo p) : fr (qF p) = p := qF_inj (fr_lo _) h (qF_fr _)
theorem fr_inj {a b : Rat} (h : fr a = fr b) : a = b := by rw [← qF_fr a, ← qF_fr b, h]
theorem fr_pos (a : Rat) : 0 < (fr a).2 := (fr_lo a).1
theorem fr_plus (a b : Rat) : plusP (fr a) (fr b) = fr (a + b) := by
  rw [← fr_qF (p := plusP (fr a) (fr b)) (lowP_lo (ovMul_pos (fr_pos a) (fr_pos b))), qF_plus (fr_pos a) (fr_pos b), qF_fr, qF_fr]
theorem fr_less (a b : Rat) : lessP (fr a) (fr b) = fr (a - b) := by
  rw [← fr_qF (p := lessP (fr a) (fr b)) (lowP_lo (ovMul_pos (fr_pos a) (fr_pos b))), qF_less (fr_pos a) (fr_pos b), qF_fr, qF_fr]
theorem fr_times (a b : Rat) : timesP (fr a) (fr b) = fr (a * b) := by
  rw [← fr_qF (p := timesP (fr a) (fr b)) (lowP_lo (ovMul_pos (fr_pos a) (fr_pos b))), qF_times (fr_pos a) (fr_pos b), qF_fr, qF_fr]
theorem fr_num {a : Rat} : (fr a).1 = 0 ↔ a = 0 := by
  show a.num = 0 ↔ _
  exact Rat.num_eq_zero
theorem fr_share {a b : Rat} (h : b ≠ 0) : shareP (fr a) (fr b) = fr (a / b) := by
  have h0 : (fr b).1 ≠ 0 := fun e => h (fr_num.mp e)
  rw [← fr_qF (p := shareP (fr a) (fr b)) (mkP_lo (Int.mul_ne_zero (by have := fr_pos a; omega) h0)), qF_share (fr_pos a) (fr_pos b) h0, qF_fr, qF_fr]
theorem fr_mk {i j : Int} (h : j ≠ 0) : mkP i j = fr ((i : Rat) / j) := by
  rw [← fr_qF (p := mkP i j) (mkP_lo h), qF_mk h]
theorem fr_low {i j : Int} (h : 0 < j) : lowP i j = fr ((i : Rat) / j) := by
  rw [← fr_qF (p := lowP i j) (lowP_lo h), qF_low h]
theorem fr_int (i : Int) : fr (i : Rat) = (i, 1) := by
  have h : Lo (i, 1) := ⟨by show (0 : Int) < 1; decide, Int.gcd_one_right i⟩
  rw [← fr_qF h]
  congr 1
  unfold qF
  grind
theorem fr_zero : fr 0 = (0, 1) := fr_int 0
theorem fr_one : fr 1 = (1, 1) := fr_int 1
theorem fr_neg1 : fr (-1) = (-1, 1) := fr_int (-1)
theorem fr_abs (a : Rat) : (((fr a).1.natAbs : Int), (fr a).2) = fr (if a < 0 then -a else a) := by
  have h : Lo (((fr a).1.natAbs : Int), (fr a).2) := ⟨fr_pos a, by
    have := (fr_lo a).2
    rw [← this]
    rfl⟩
  rw [← fr_qF h]
  congr 1
  have hp := cast_pos (fr_pos a)
  have hq := qF_fr a
  unfold qF at hq ⊢
  by_cases h0 : (fr a).1 < 0
  · have e : (((fr a).1.natAbs : Int) : Rat) = -((fr a).1 : Rat) := by
      have : ((fr a).1.natAbs : Int) = -(fr a).1 := by omega
      rw [this]; push_cast; rfl
    have h1 : ((fr a).1 : Rat) < 0 := by exact_mod_cast h0
    have h2 : a < 0 := by
      rw [← hq]
      have := Rat.mul_pos (a := -((fr a).1 : Rat)) (b := ((fr a).2 : Rat)⁻¹) (by grind) (Rat.inv_pos.mpr hp)
      grind
    rw [if_pos h2]
    show (((fr a).1.natAbs : Int) : Rat) / _ = _
    rw [e, ← hq]
    grind
  · have e : (((fr a).1.natAbs : Int) : Rat) = ((fr a).1 : Rat) := by
      have : ((fr a).1.natAbs : Int) = (fr a).1 := by omega
      rw [this]
    have h1 : (0 : Rat) ≤ ((fr a).1 : Rat) := by exact_mod_cast Int.not_lt.mp h0
    have h2 : ¬ a < 0 := by
      rw [← hq]
      have := Rat.mul_nonneg (a := ((fr a).1 : Rat)) (b := ((fr a).2 : Rat)⁻¹) h1 (by have := Rat.inv_pos.mpr hp; grind)
      grind
    rw [if_neg h2]
    show (((fr a).1.natAbs : Int) : Rat) / _ = _
    rw [e]
    exact hq
/-- a number, as data -/
def nQ (a : Rat) : D := nD (fr a)
theorem nQ_inj {a b : Rat} (h : nQ a = nQ b) : a = b := by
  unfold nQ nD at h
  simp at h
  exact fr_inj (Prod.ext h.1 h.2)
/-- of n bits -/
def Sz (n : Nat) (a : Rat) : Prop := Bd n (fr a)
theorem Sz.mono {n k : Nat} {a : Rat} (h : Sz n a) (hk : n ≤ k := by decide) : Sz k a := Bd.mono h hk
theorem Sz.plus {n k : Nat} {a b : Rat} (h1 : Sz n a) (h2 : Sz k b) : Sz (n + k + 1) (a + b) := by
  unfold Sz
  rw [← fr_plus]
  refine lowP_bd ⟨?_, ?_⟩
  · exact bdAdd (bdMul h1.1 h2.2) (by rw [Nat.add_comm n k]; exact bdMul h2.1 h1.2)
  · exact Nat.lt_of_lt_of_le (bdMul h1.2 h2.2) (Nat.pow_le_pow_right (by decide) (Nat.le_succ _))
theorem Sz.times {n k : Nat} {a b : Rat} (h1 : Sz n a) (h2 : Sz k b) : Sz (n + k) (a * b) := by
  unfold Sz
  rw [← fr_times]
  exact lowP_bd ⟨bdMul h1.1 h2.1, bdMul h1.2 h2.2⟩
theorem Sz.less {n k : Nat} {a b : Rat} (h1 : Sz n a) (h2 : Sz k b) : Sz (n + k + 1) (a - b) := by
  unfold Sz
  rw [← fr_less]
  refine lowP_bd ⟨?_, ?_⟩
  · exact bdSub (bdMul h1.1 h2.2) (by rw [Nat.add_comm n k]; exact bdMul h2.1 h1.2)
  · exact Nat.lt_of_lt_of_le (bdMul h1.2 h2.2) (Nat.pow_le_pow_right (by decide) (Nat.le_succ _))
theorem Sz.share {n k : Nat} {a b : Rat} (h1 : Sz n a) (h2 : Sz k b) (h : b ≠ 0) : Sz (n + k) (a / b) := by
  unfold Sz
  rw [← fr_share h]
  refine mkP_bd ⟨bdMul h1.1 h2.2, ?_⟩
  rw [Nat.add_comm]
  have := bdMul h2.1 h1.2
  rw [Int.mul_comm] at this
  exact this
theorem Sz.zero {n : Nat} (h : 0 < n) : Sz n 0 := by
  unfold Sz; rw [fr_zero]
  exact ⟨Nat.pow_pos (by decide), Nat.one_lt_two_pow (by omega)⟩
theorem Sz.one {n : Nat} (h : 0 < n) : Sz n 1 := by
  unfold Sz; rw [fr_one]
  exact ⟨Nat.one_lt_two_pow (by omega), Nat.one_lt_two_pow (by omega)⟩
theorem Sz.neg1 {n : Nat} (h : 0 < n) : Sz n (-1) := by
  unfold Sz; rw [fr_neg1]
  exact ⟨Nat.one_lt_two_pow (by omega), Nat.one_lt_two_pow (by omega)⟩
/-- how two rows compare -/
def cmpQ : List Rat → List Rat → Int
  | a :: r, b :: t => if a < b then -1 else if b < a then 1 else cmpQ r t
  | _, _ => 0
def sgQ (a b : Rat) : Int := if a < b then -1 else if b < a then 1 else 0
theorem gap_fr (a b : Rat) : sgI (gapP (fr a) (fr b)) = sgQ a b := by
  have h1 := gap_neg (fr_pos a) (fr_pos b)
  have h2 := gap_pos (fr_pos a) (fr_pos b)
  rw [qF_fr, qF_fr] at h1 h2
  unfold sgQ
  by_cases h : a < b
  · rw [if_pos h, sgI_neg (h1.mpr h)]
  · rw [if_neg h]
    by_cases h3 : b < a
    · rw [if_pos h3, sgI_pos (h2.mpr h3)]
    · rw [if_neg h3]
      have e : gapP (fr a) (fr b) = 0 := by
        rcases sgI_cases (gapP (fr a) (fr b)) with ⟨h4, _⟩ | ⟨h4, _⟩ | ⟨h4, _⟩
        · exact absurd (h2.mp h4) h3
        · exact h4
        · exact absurd (h1.mp h4) h
      rw [e]; rfl
end Z

/-! Z38: sorted of a tuple of ints; the number of unlike ints. -/
namespace Z
open PySem PySem.Spec PyProof.Rows L2
section
variable {pg : Program} {w : World} {A : Around} {Ee : Value → Shared → Prop} {z : Shared}
/-- a tuple's items, collected -/
theorem collectT {q : Addr} {us : List Value} {R : List Value → Shared → Prop} (hq : z.heap.IsTuple q us.toArray) (hz : us.length ≤ sizeLine)
    (h : R us { z with heap := (z.heap.push (seqObj "list" #[] 0)).update z.heap.objs.size (Obj.mapSeq (· ++ us.toArray)) }) : wpAny (model pg w) A (collect (.ref q)) R Ee z := by
  obtain ⟨ob, hob, hcl, k, hdt⟩ := id hq
  have e1 : (z.heap.push (seqObj "list" #[] 0)).get? q = some ob := Heap.get?_push_of_some _ hob
  have e2 : (z.heap.push (seqObj "list" #[] 0)).get? z.heap.objs.size = some (seqObj "list" #[] 0) := Heap.get?_push_size _ rfl
  unfold collect
  refine wpAny_bind (wpAny_runValue (codeAny_builtin entry_proto_collect' ?_))
  show wpAny _ _ (do again (.builtin "list.__iadd__" ⟨[← newList [], .ref q], []⟩)) _ _ z
  refine wpAny_bind (wpAny_newList (wpAny_pure ⟨Code.quiet_builtin _ (by decide +kernel), codeAny_builtin entry_list_iadd' ?_⟩))
  show wpAny _ _ (Builtin.List.listExtendWith (.ref z.heap.objs.size) (.ref q) (.ref z.heap.objs.size)) _ _ { z with heap := z.heap.push (seqObj "list" #[] 0) }
  unfold Builtin.List.listExtendWith
  refine wpAny_bind (wpAny_typeOf (T := "tuple") ⟨ob, e1, hcl⟩ ?_)
  rw [if_pos (by rw [show (Value.type "tuple" == Value.type "tuple") = true from rfl]; simp)]
  refine wpAny_bind (listItems_at e1 hdt ?_)
  refine wpAny_bind (listItems_at (xs := #[]) (n := 0) e2 rfl ?_)
  rw [if_neg (by simp)]
  refine wpAny_bind (listUpdate_at (xs := #[]) (n := 0) e2 rfl ?_ (Nat.zero_le _) ?_)
  rotate_left
  · show (#[] ++ us.toArray).size ≤ sizeLine + 1
    rw [Array.size_append, List.size_toArray]
    show 0 + us.length ≤ _
    omega
  refine wpAny_pure ?_
  refine wpAny_bind (wpAny_load (get?_update_seq e2 _) ?_)
  show wpAny _ _ (pure ((#[] : Array Value) ++ us.toArray).toList) R Ee _
  have e3 : ((#[] : Array Value) ++ us.toArray).toList = us := by simp
  rw [e3]
  exact wpAny_pure h
open SrtO Srt in
theorem sortedT {q : Addr} {us : List Value} {lv : Value → Value → Bool} {R : Value → Shared → Prop} (O : Swo lv) (hq : z.heap.IsTuple q us.toArray) (hz : us.length ≤ sizeLine)
    (hS : 2 ≤ us.length → ∀ (h1 : Heap) (a : Addr), h1.get? a = some (seqObj "list" us.toArray 0) → (∀ b o, z.heap.get? b = some o → b ≠ a ∧ h1.get? b = some o) → SortableO pg w A.in1.in1 { z with heap := h1 } a us lv)
    (h : ∀ out : List Value, Srtd lv out → Stb lv out us → R (.ref (z.heap.objs.size + 1)) { z with heap := sortedAll z.heap us out.toArray }) : wpAny (model pg w) A (call (.builtin "sorted") [.ref q]) R Ee z := by
  refine Calls.call_function_entry kind_sorted plain_sorted entry_sorted (args_sorted1 _) ?_
  unfold Builtin.«sorted»
  refine wpAny_bind (m := checkCount "sorted" 1 1 _) (wpAny_pure ?_)
  refine wpAny_bind (collectT hq hz ?_)
  refine wpAny_bind (wpAny_newList ?_ hz)
  obtain ⟨h2, e2⟩ : ∃ h2, h2 = (z.heap.push (seqObj "list" #[] 0)).update z.heap.objs.size (Obj.mapSeq (· ++ us.toArray)) := ⟨_, rfl⟩
  have es : h2.objs.size = z.heap.objs.size + 1 := by rw [e2, Heap.size_update, size_push']
  have eL : (h2.push (seqObj "list" us.toArray 0)).get? (z.heap.objs.size + 1) = some (seqObj "list" us.toArray 0) := by rw [← es]; exact Heap.get?_push_size _ rfl
  have kp : ∀ b o, z.heap.get? b = some o → b ≠ z.heap.objs.size + 1 ∧ (h2.push (seqObj "list" us.toArray 0)).get? b = some o := fun b o g => by
    have hl : b < z.heap.objs.size := Heap.lt_size g
    refine ⟨Nat.ne_of_lt (Nat.lt_succ_of_lt hl), Heap.get?_push_of_some _ ?_⟩
    rw [e2, Heap.get?_update_ne _ _ _ _ (Nat.ne_of_lt hl)]
    exact Heap.get?_push_of_some _ g
  rw [← e2]
  show wpAny _ _ _ _ _ { z with heap := h2.push (seqObj "list" us.toArray 0) }
  dsimp only
  rw [es]
  refine wpAny_bind (wpAny_holding (wpAny_call_entry slot_list_sort ⟨_, eL, rfl⟩ entry_list_sort (list_sort_ord O eL hz (fun g => hS g _ _ eL kp) fun out a b => ⟨_, rfl, ?_⟩) (args_list_sort _)))
  rw [e2]
  exact wpAny_pure ⟨_, rfl, h out a b⟩
end
/-- sorted(t), ints in a tuple -/
def rSortedTI (K : PySem.W.Frag) : List V → Hp → VK → Prop := fun vs H Q => ∃ (a : Addr) (ns : List Int), vs = [V.ref a] ∧ SqT K H a (ns.map V.int) ∧
  ∀ (ms : List Int) (p : Addr), ms.Perm ns → ms.Pairwise (· ≤ ·) → H p = none → Q (.ref p) (upd H p (.lst (ms.map V.int)))
theorem cr_sortedTI {X : Cx} : CallR X (.builtin "sorted") (rSortedTI X.K) := fun pins s σ H vs us Q I r ⟨a, ns, e, hs, q⟩ => by
  subst e
  obtain ⟨its, rv, hl, hz⟩ := I.tuple hs
  rw [Vals.ref1 r]
  have hi := rv.ints
  refine sortedT SrtO.swo_int hl (by rw [← rv.length]; exact hz) (fun g h1 b _ _ => SrtO.ints_sortable hi g) fun out h1 h2 => ?_
  obtain ⟨k1, k2, k3⟩ := SrtO.ints_out hi h1 h2
  obtain ⟨ep, he⟩ := PyProof.Rows.sortedAll_at s.heap its out.toArray
  have hn : ((out.map SrtO.iv).map V.int).length ≤ sizeLine := by
    rw [List.length_map] at hz ⊢
    rw [k2.length_eq]
    exact hz
  exact ⟨.ref _, upd H (s.heap.objs.size + 1) (.lst ((out.map SrtO.iv).map V.int)), I.laid (t' := s.toks) (fun _ _ => PyProof.Rows.sortedAll_old) (Nat.le_succ _) ⟨hn, out, ep, vals_of_ints k1, he⟩, rfl, q _ _ k2 k3 (I.hok.fresh (Nat.le_succ _))⟩
/-- sorted of ints, in a list or a tuple, any number of them -/
@[irreducible] def sortIK (x : D) (m : M) (Q : Kd) : Prop := Box <| ∃ ns : List Int, itsD (res m x) = some (ns.map D.int) ∧ ∀ ms : List Int, ms.Perm ns → ms.Pairwise (· ≤ ·) → Q (.lst (ms.map D.int)) m
theorem sortI_of {x : D} {m : M} {Q : Kd} (ns : List Int) (e : itsD (res m x) = some (ns.map D.int)) (q : ∀ ms : List Int, ms.Perm ns → ms.Pairwise (· ≤ ·) → Q (.lst (ms.map D.int)) m) : sortIK x m Q := by unfold sortIK; exact ⟨⟨ns, e, q⟩⟩
def kSortI : RC2 := fun xs m Q => match xs with | [x] => sortIK x m Q | _ => False
theorem kc_sortI {K : PySem.W.Frag} : CvC K (fun vs H Q => rSortedI K vs H Q ∨ rSortedTI K vs H Q) kSortI := fun H m ds vs Q Q' hm r h k => by
  cases r with
  | nil => exact h.elim
  | cons r1 r2 =>
    cases r2 with
    | cons _ _ => exact h.elim
    | nil =>
      have h : sortIK _ _ _ := h
      unfold sortIK at h
      obtain ⟨ns, e, q⟩ := h.out
      obtain ⟨a, ws, rfl, hs, hr⟩ := itsOf r1 hm e
      rw [hr.ints] at hs
      have fin : ∀ (ms : List Int) (p : Addr), ms.Perm ns → ms.Pairwise (· ≤ ·) → H p = none → Q' (.ref p) (upd H p (.lst (ms.map V.int))) := fun ms p h1 h2 hp => k _ _ (.new hm hp (.lst (Step.new_at hm hp) (Reps.of_ints ms)) (q ms h1 h2))
      rcases hs with hs | hs
      · exact .inl ⟨a, ns, rfl, hs, fin⟩
      · exact .inr ⟨a, ns, rfl, hs, fin⟩
section
variable {X : Cx} {ω : Bx} {p pos : Pos} {e : Expr} {es : List Expr} {t : TA2}
theorem sortedIU (hg : Gl X "sorted") (hm : X.mg "sorted" = none) (ha : PA2 X ω (e :: es) t) (he : starEach (e :: es) X.env = (false, eval e X.env) :: starEach es X.env := by rfl) (hpl : (backTo pos (starEach es X.env)).any (·.1) = false := by rfl) : PE2 X ω (.Call (.Name "sorted" p) (e :: es) [] pos) (tCB2 kSortI t) :=
  q_callB (fun pins s σ H vs us Q I r h => h.elim (fun h => cr_sortedI pins s σ H vs us Q I r h) fun h => cr_sortedTI pins s σ H vs us Q I r h) kc_sortI hg hm bt_sorted ha (he := he) (hpl := hpl)
end
/-! ### len(set(..)) of ints -/
theorem SetR.keys {w : World} {h : Heap} {a : Addr} {S : Int → Bool} {n : Nat} (R : SetR w h a S n) : ∃ ks : List Int, ks.Nodup ∧ (∀ k, k ∈ ks ↔ S k = true) ∧ ks.length = n := by
  obtain ⟨o, es, ep, t, _, _, _, _, nd, hm, _, _, hn, _⟩ := R
  exact ⟨es.toList.map L2.keyOf, nd, fun k => (hm k).symm, by rw [List.length_map, Array.length_toList]; exact hn⟩
theorem dedup_nd : ∀ (i : Nat) (f : Nat → Int), (firstMet f i).Nodup
  | 0, _ => List.nodup_nil
  | i + 1, f => by
    rw [firstMet_succ]
    unfold step_dedup
    have ih := dedup_nd i f
    split
    · exact ih
    · rename_i h
      rw [List.nodup_append]
      refine ⟨ih, by simp, fun a ha b hb e => h ?_⟩
      rw [List.mem_singleton.mp hb] at e
      rw [List.any_eq_true]
      exact ⟨a, ha, by rw [e]; exact beq_self_eq_true _⟩
@[irreducible] def lenSetK (x : D) (m : M) (Q : Kd) : Prop := Box <| ∃ ns : List Int, itsD (res m x) = some (ns.map D.int) ∧ ns.length + 1 < scanBound ∧ ∀ ks : List Int, ks.Nodup → (∀ k, k ∈ ks ↔ k ∈ ns) → Q (.int ks.length) m
theorem lenSet_of {x : D} {m : M} {Q : Kd} (ns : List Int) (e : itsD (res m x) = some (ns.map D.int)) (hl : ns.length + 1 < scanBound) (q : ∀ ks : List Int, ks.Nodup → (∀ k, k ∈ ks ↔ k ∈ ns) → Q (.int ks.length) m) : lenSetK x m Q := by unfold lenSetK; exact ⟨⟨ns, e, hl, q⟩⟩
def tLenSetU (te : TE2) : TE2 := fun g m Q => te g m fun x m1 => lenSetK x m1 Q
end Z

/-! Z39: len(set(..)) of ints; calls by keywords; list.insert. -/
namespace Z
open PySem PySem.Spec PyProof.Rows L2
section
variable {X : Cx} {ω : Bx} {a : Expr} {ta : TE} {p p2 q pos : Pos}
def rLenSet (K : PySem.W.Frag) (x : V) (H1 : Hp) (Q : VK) : Prop := ∃ l, ∃ ns : List Int, x = .ref l ∧ (SqL K H1 l (ns.map V.int) ∨ SqT K H1 l (ns.map V.int)) ∧ ns.length + 1 < scanBound ∧ ∀ ks : List Int, ks.Nodup → (∀ k, k ∈ ks ↔ k ∈ ns) → Q (.int ks.length) H1
theorem getD_mem_iff (ns : List Int) (k : Int) : ((List.range ns.length).map fun i => ns.getD i 0).any (· == k) = true ↔ k ∈ ns := by
  rw [List.any_map, List.any_eq_true]
  constructor
  · rintro ⟨i, hi, e⟩
    have hi := List.mem_range.mp hi
    have e : (ns.getD i 0 == k) = true := e
    rw [List.getD_eq_getElem?_getD, List.getElem?_eq_getElem hi] at e
    rw [← eq_of_beq e]
    exact List.getElem_mem hi
  · intro h
    obtain ⟨i, hi⟩ := List.getElem?_of_mem h
    have hl := (List.getElem?_eq_some_iff.mp hi).1
    refine ⟨i, List.mem_range.mpr hl, ?_⟩
    show (ns.getD i 0 == k) = true
    rw [List.getD_eq_getElem?_getD, hi]
    exact beq_self_eq_true k
theorem pe_lenSetI (hc : X.calm = true) (hg : Gl X "len") (hm : X.mg "len" = none) (hg2 : Gl X "set") (hm2 : X.mg "set" = none) (ha : PE X a ta)
    (na : starEach [a] X.env = (false, eval a X.env) :: starEach [] X.env := by rfl) : PE X (.Call (.Name "len" p) [.Call (.Name "set" p2) [a] [] q] [] pos) (fun σ H Q => ta σ H fun x H1 => rLenSet X.K x H1 Q) := by
  refine ⟨fun pins s σ H Q I h => ?_⟩
  refine Call_ (ld_blt I hg hm boot_len ?_)
  refine PyProof.Rows.callWith_builtin1 (PyProof.Rows.args_cons ?_ rfl) rfl rfl
  refine Call_ (ld_blt I hg2 hm2 boot_set ?_)
  refine PyProof.Rows.callWith_type1 (PyProof.Rows.args_cons (thn (ha.run pins s σ H _ I h) fun v s1 ⟨x, H1, I1, r1, q1⟩ => PyProof.Rows.args_nil ?_) na) na rfl
  obtain ⟨l, ns, rfl, hq, hb, q1⟩ := q1
  cases r1
  have fin : ∀ (h' : Heap) (tk : Nat) (o : Obj) (es : Array (Int × Value)) (ep : Nat) (t : SetTable) (ks : List Int), h'.get? s1.heap.objs.size = some o → o.ExactSet → o.data = .set es ep t → t.fits es.size = true → es.size = ks.length → ks.length < 2 ^ 62 → ks.Nodup → (∀ k, k ∈ ks ↔ k ∈ ns) → (∀ b o, b < s1.heap.objs.size → s1.heap.get? b = some o → h'.get? b = some o) →
      wpAny (model X.prog X.w) X.A (spliced (backTo pos (starEach [] X.env))) (fun vs s₂ => wpAny (model X.prog X.w) X.A (call (.builtin "len") (Value.ref s1.heap.objs.size :: vs)) (EP X pins σ Q) X.xe s₂) X.xe { s1 with heap := h', toks := tk } := fun h' tk o es ep t ks ho hex hd hf hn hk hnd hmem hkeep => by
    refine PyProof.Rows.args_nil ?_
    have I2 : Inv X pins σ H1 { s1 with heap := h', toks := tk } := I1.kept fun b o e => hkeep b o (Heap.lt_size e) e
    exact call_len_set ho hex hd hf (by rw [hn]; omega) ⟨.int ks.length, H1, I2.tok _, ⟨_, by rw [hn]⟩, q1 ks hnd hmem⟩
  have hbig : scanBound < 2 ^ 62 := by unfold scanBound; decide
  rcases hq with hq | hq
  · obtain ⟨its, r, pl, hz⟩ := I1.list hq
    have hi := r.ints
    have hsz : its.toArray.size = ns.length := by rw [List.size_toArray, hi.length]
    refine PySem.call_set_list (I1.ok.hd hc) pl.isList (by simpa using hi) (by rw [hsz]; exact hb) fun h' tk hS hk => ?_
    obtain ⟨o, es, ep, t, ho, hex, hd, _, hm1, hsb, hf, hn⟩ := hS
    refine fin h' tk o es ep t (firstMet (fun i => ns.getD i 0) its.toArray.size) ho hex hd hf hn ?_ (dedup_nd _ _) (fun k => ?_) hk
    · have := firstMet_length_le (fun i => ns.getD i 0) its.toArray.size
      omega
    · rw [hsz]
      have h1 := firstMet_any (fun i => ns.getD i 0) ns.length k
      rw [← getD_mem_iff ns k, ← h1, List.any_eq_true]
      exact ⟨fun h => ⟨k, h, beq_self_eq_true k⟩, fun ⟨j, hj, e⟩ => by rw [← eq_of_beq e]; exact hj⟩
  · obtain ⟨its, r, pl, hz⟩ := I1.tuple hq
    refine call_set_tupI ns (I1.ok.hd hc) pl (by simpa using r.ints) hb fun h' tk c R hc2 hk => ?_
    obtain ⟨ks, hnd, hks, hlen⟩ := SetR.keys R
    obtain ⟨o, es, ep, t, ho, hex, hd, _, _, _, _, hf, hn, _⟩ := R
    exact fin h' tk o es ep t ks ho hex hd hf (by rw [hn, hlen]) (by omega) hnd (fun k => by rw [hks]; exact decide_eq_true_iff) fun b o _ e => hk b o e
theorem lenSetU {te : TE2} (hc : X.calm = true) (hg : Gl X "len") (hm : X.mg "len" = none) (hg2 : Gl X "set") (hm2 : X.mg "set" = none) (ha : PE2 X ω a te)
    (na : starEach [a] X.env = (false, eval a X.env) :: starEach [] X.env := by rfl) : PE2 X ω (.Call (.Name "len" p) [.Call (.Name "set" p2) [a] [] q] [] pos) (tLenSetU te) :=
  (pe_lenSetI hc hg hm hg2 hm2 pe_sem na).to2 fun σ H g m Q S hm q => (ha.sem S hm q).mono fun x H1 ⟨d, m1, s1, r1, q1⟩ => by
    have q1 : lenSetK d m1 Q := q1
    unfold lenSetK at q1
    obtain ⟨ns, e, hl, q1⟩ := q1.out
    obtain ⟨a, ws, rfl, hs, hr⟩ := itsOf r1 s1.mem e
    rw [hr.ints] at hs
    exact ⟨a, ns, rfl, hs, hl, fun ks h1 h2 => P2.go s1 (.same s1.mem (.int _) (q1 ks h1 h2))⟩
end

/-! ### calls by keywords, in the parameters' order -/
def semK (X : Cx) (kws : List Keyword) : TA := fun σ H Q => ∀ (pos : Pos) pins s, Inv X pins σ H s → wpAny (model X.prog X.w) X.A (evalAll ((backToKw pos (keywordEach kws X.env)).map (·.2))) (AP X pins σ Q) X.xe s
theorem pk_sem {X : Cx} {kws : List Keyword} : PK X kws (semK X kws) := ⟨fun pos pins s σ H Q I h => h pos pins s I⟩
theorem semK.mono {X : Cx} {kws : List Keyword} {σ : St} {H : Hp} {Q Q' : List V → Hp → Prop} (h : semK X kws σ H Q) (k : ∀ v H', Q v H' → Q' v H') : semK X kws σ H Q' := fun pos pins s I => thn (h pos pins s I) fun _ _ ⟨v, H', a, b, c⟩ => ⟨v, H', a, b, k _ _ c⟩
structure PK2 (X : Cx) (ω : Bx) (kws : List Keyword) (t : TA2) : Prop where
  sem : ∀ {σ : St} {H : Hp} {g : Sl} {m : M} {Q : List D → M → Prop}, SlotOk X.K ω g σ (hid m H) → MemOk X.K m H → t g m Q → semK X kws σ H (P2A X.K m H Q)
section
variable {X : Cx} {ω : Bx} {e : Expr} {kws : List Keyword} {te : TE2} {t tk : TA2} {nm : Option Str} {kpos p pos : Pos}
theorem qk_nil : PK2 X ω [] tNil2 := ⟨fun S hm q pos pins s I => pk_nil.run pos pins s _ _ _ I ⟨[], _, .refl hm, .nil, q⟩⟩
theorem qk_cons (ha : PE2 X ω e te) (hr : PK2 X ω kws t) : PK2 X ω (⟨nm, e, kpos⟩ :: kws) (tCons2 te t) :=
  ⟨fun {σ H g m Q} S hm q pos pins s I => (pk_cons (nm := nm) (kpos := kpos) pe_sem pk_sem).run pos pins s σ H (P2A X.K m H Q) I
    ((ha.sem S hm q).mono fun x H1 ⟨d, m1, s1, r1, q1⟩ => (hr.sem (S.mono s1.ex) s1.mem q1).mono fun xs H2 ⟨ds, m2, s2, r2, q2⟩ => ⟨d :: ds, m2, s1.trans s2, .cons (r1.mono s2.ex) r2, q2⟩)⟩
/-- a def called with n things by place, the others by the names ks, in order -/
structure DefKw (P : Program) (w : World) (K : PySem.W.Frag) (mg : Str → Option Value) (base : Heap) (k : Nat) (x : Str) (sp : Sp2) (n : Nat) (ks : List Str) : Prop where
  ex : ∃ (f : Addr) (fd : FuncData) (ps : List Str), FnOk P w K mg base CX0 k f fd ps (lift K sp) ∧ mg x = some (.ref f) ∧ PySem.W.keepIn K (.ref f) = true ∧ ps ≠ [] ∧ ∀ (s : Shared) (us ws : List Value), K.In s.heap → us.length = n → (us ++ ws).length = ps.length → BindsTo s fd ⟨us, ks.zip ws⟩ (ps.zip (us ++ ws))
def arG {α : Type} (n : Nat) (us ws : List α) : List α := if us.length = n then us ++ ws else []
def tCallKU (sp : Sp2) (n : Nat) (t tk : TA2) : TE2 := fun g m Q => t g m fun ds m1 => tk g m1 fun es m2 => ds.length = n ∧ sp (ds ++ es) m2 Q no2
theorem kb_of {K : PySem.W.Frag} {fd : FuncData} {ps ks : List Str} {n : Nat} (h0 : ps ≠ []) (h : ∀ (s : Shared) (us ws : List Value), K.In s.heap → us.length = n → (us ++ ws).length = ps.length → BindsTo s fd ⟨us, ks.zip ws⟩ (ps.zip (us ++ ws))) : KBinds K fd ps ks (arG n) (arG n) := by
  refine ⟨fun s us ws hK hl => ?_, fun {vs us zs ws} r1 r2 => ?_⟩
  · unfold arG at hl ⊢
    by_cases hn : us.length = n
    · rw [if_pos hn] at hl ⊢; exact h s us ws hK hn hl
    · rw [if_neg hn] at hl; exact absurd (List.eq_nil_of_length_eq_zero hl.symm) h0
  · unfold arG
    rw [r1.length]
    split
    · exact r1.append r2
    · exact .nil
variable {k kk n : Nat} {sp : Sp2} {x : Str} {ks : List Str} {es : List Expr}
theorem callKU (D : DefKw X.prog X.w X.K X.mg X.base k x sp n ks) (hr : Room kk X.A) (hg : Gl X x) (ha : PA2 X ω (e :: es) t) (hkw : PK2 X ω kws tk) (hk : k ≤ kk := by decide)
    (hall : (backToKw pos (keywordEach kws X.env)).all (·.1.isSome) = true := by rfl) (hks : (backToKw pos (keywordEach kws X.env)).filterMap (·.1) = ks := by rfl) (hdb : (x == ("__debug__" : Str)) = false := by decide)
    (he : starEach (e :: es) X.env = (false, eval e X.env) :: starEach es X.env := by rfl) (hpl : ((backTo pos (starEach (e :: es) X.env)).any (·.1) || (backToKw pos (keywordEach kws X.env)).any (·.1.isNone)) = false := by rfl) :
    PE2 X ω (.Call (.Name x p) (e :: es) kws pos) (tCallKU sp n t tk) := by
  obtain ⟨f, fd, ps, F, h1, h2, h0, h3⟩ := D.ex
  refine (pe_callK F (hr.mono hk) hg h1 h2 (kb_of h0 h3) pass0 pa_sem pk_sem hall hks hdb he hpl).to2 fun σ H g m Q S hm q => (ha.sem S hm q).mono fun vs H1 ⟨ds, m1, s1, r1, q1⟩ => (hkw.sem (S.mono s1.ex) s1.mem q1).mono fun zs H2 ⟨es, m2, s2, r2, hl, q2⟩ => ?_
  show lift X.K sp (arG n vs zs) H2 _ _
  unfold arG
  rw [if_pos (by rw [r1.length]; exact hl)]
  exact ⟨ds ++ es, m2, Q, no2, s2.mem, (r1.mono s2.ex).append r2, q2, fun v H' h => P2.go (s1.trans s2) h, fun _ _ _ _ h => h.elim⟩
/-- all by names -/
theorem callK0U (D : DefKw X.prog X.w X.K X.mg X.base k x sp 0 ks) (hr : Room kk X.A) (hg : Gl X x) (hkw : PK2 X ω kws tk) (hk : k ≤ kk := by decide)
    (hall : (backToKw pos (keywordEach kws X.env)).all (·.1.isSome) = true := by rfl) (hks : (backToKw pos (keywordEach kws X.env)).filterMap (·.1) = ks := by rfl) (hdb : (x == ("__debug__" : Str)) = false := by decide)
    (hpl : ((backTo pos (starEach [] X.env)).any (·.1) || (backToKw pos (keywordEach kws X.env)).any (·.1.isNone)) = false := by rfl) : PE2 X ω (.Call (.Name x p) [] kws pos) (tCallKU sp 0 tNil2 tk) := by
  obtain ⟨f, fd, ps, F, h1, h2, h0, h3⟩ := D.ex
  refine ⟨fun {σ H g m Q} S hm q pins s I => ?_⟩
  refine wpAny_Call_Name_kw (ld_glob I hg h1 ?_ hdb)
  refine PySem.W.callWith_KW0 (h₀ := X.base) I.ok.mod.kin h2 hall (thn (hkw.sem S hm q pos pins s I) fun ws s2 ⟨zs, H2, I2, rz, ds, m2, s2', r2, hl, q2⟩ => ⟨I2.kIn, ?_⟩) hpl
  rw [hks]
  exact run_fnk (us := []) (vs := []) F (hr.mono hk) (kb_of (n := 0) h0 h3) pass0 I2 .nil rz ⟨ds, m2, Q, no2, s2'.mem, by show Reps _ _ (arG 0 [] zs) ds; exact r2, q2, fun v H' h => P2.go s2' h, fun _ _ _ _ h => h.elim⟩
end
end Z

/-! Z40: list.insert, pop(i), reverse; tuple.index of ints. -/
namespace Z
open PySem PySem.Spec PyProof.Rows L2
section
variable {K : PySem.W.Frag}
def mInsert : RM2 := fun d ds m Q => match ds with
  | [.int i, y] => ∃ p xs, d = .ref p ∧ m p = some (.lst xs) ∧ xs.length < sizeLine ∧ 0 ≤ i ∧ i < 2 ^ 63 ∧ Q .non (upM m p (.lst (xs.take i.toNat ++ [y] ++ xs.drop i.toNat)))
  | _ => False
theorem cm_insert : CvM K "list" (fun x vs H Q => ∃ (l : Addr) (xs : List V) (i : Int) (y : V), x = .ref l ∧ vs = [.int i, y] ∧ H l = some (.lst xs) ∧ xs.length < sizeLine ∧ 0 ≤ i ∧ i < 2 ^ 63 ∧ Q .non (upd H l (.lst (xs.take i.toNat ++ [y] ++ xs.drop i.toNat)))) mInsert := fun H m d v ds vs Q Q' hm r rs h k => by
  unfold mInsert at h
  split at h
  · rename_i i y
    obtain ⟨p, xs, rfl, hp, hl, h0, h1, q⟩ := h
    obtain ⟨a, b, rfl, ra, rb⟩ := rs.two
    cases ra
    obtain ⟨ws, hH, hr⟩ := hm p _ hp
    have hv : v = .ref p := by cases r; rfl
    subst hv
    exact ⟨p, ws, i, b, rfl, rfl, hH, by rw [hr.length]; exact hl, h0, h1, k _ _ ⟨.non, _, Step.upM (c := .lst (xs.take i.toNat ++ [y] ++ xs.drop i.toNat)) hm hp ⟨_, upd_same, ((hr.take _).append (.cons rb .nil)).append (hr.drop _)⟩, .non, q⟩⟩
  · exact h.elim
theorem Reps.erase {G : Hp} : ∀ {vs : List V} {ds : List D} (i : Nat), Reps K G vs ds → Reps K G (vs.eraseIdx i) (ds.eraseIdx i)
  | _, _, _, .nil => .nil
  | _, _, 0, .cons _ t => t
  | _, _, i + 1, .cons r t => .cons r (Reps.erase i t)
def mPopAt : RM2 := fun d ds m Q => match ds with
  | [.int i] => ∃ p xs k y, d = .ref p ∧ m p = some (.lst xs) ∧ -(2 ^ 63) ≤ i ∧ i < 2 ^ 63 ∧ seqIndex? i xs.length = some k ∧ xs[k]? = some y ∧ Q y (upM m p (.lst (xs.eraseIdx k)))
  | _ => False
theorem cm_popAt : CvM K "list" rPopAt mPopAt := fun H m d v ds vs Q Q' hm r rs h k => by
  unfold mPopAt at h
  split at h
  · rename_i i
    obtain ⟨p, xs, j, y, rfl, hp, h0, h1, hj, hy, q⟩ := h
    obtain ⟨a, rfl, ra⟩ := one_rep rs
    cases ra
    obtain ⟨ws, hH, hr⟩ := hm p _ hp
    have hv : v = .ref p := by cases r; rfl
    subst hv
    obtain ⟨u, hu, ru⟩ := hr.get hy
    have st := Step.upM (c := .lst (xs.eraseIdx j)) (o := .lst (ws.eraseIdx j)) hm hp ⟨_, upd_same, Reps.erase j hr⟩
    exact ⟨p, ws, i, j, u, rfl, rfl, hH, h0, h1, by rw [hr.length]; exact hj, hu, k _ _ ⟨y, _, st, ru.mono st.ex, q⟩⟩
  · exact h.elim
def mReverse : RM2 := fun d ds m Q => ∃ p xs, d = .ref p ∧ ds = [] ∧ m p = some (.lst xs) ∧ Q .non (upM m p (.lst xs.reverse))
theorem cm_reverse : CvM K "list" rReverse mReverse := fun H m d v ds vs Q Q' hm r rs ⟨p, xs, e1, e2, hp, q⟩ k => by
  subst e1; subst e2
  cases rs
  obtain ⟨ws, hH, hr⟩ := hm p _ hp
  have hv : v = .ref p := by cases r; rfl
  subst hv
  exact ⟨p, ws, rfl, rfl, hH, k _ _ ⟨.non, _, Step.upM (c := .lst xs.reverse) hm hp ⟨_, upd_same, Reps.rev hr⟩, .non, q⟩⟩
/-- the first place of an int in a tuple -/
@[irreducible] def idxTK (x y : D) (m : M) (Q : Kd) : Prop := Box <| ∃ (ns : List Int) (z : Int) (j : Nat), res m x = .tup (ns.map D.int) ∧ y = .int z ∧ ns[j]? = some z ∧ (∀ i, i < j → ns[i]? ≠ some z) ∧ Q (.int (j : Int)) m
theorem idxT_of {x : D} {m : M} {Q : Kd} {ns : List Int} {z : Int} {j : Nat} (e : res m x = .tup (ns.map D.int)) (h : ns[j]? = some z) (h2 : ∀ i, i < j → ns[i]? ≠ some z) (q : Q (.int (j : Int)) m) : idxTK x (.int z) m Q := by unfold idxTK; exact ⟨⟨ns, z, j, e, rfl, h, h2, q⟩⟩
def mIdxT : RM2 := fun d ds m Q => match ds with | [y] => idxTK d y m Q | _ => False
def rIdxT (K : PySem.W.Frag) : V → List V → Hp → VK → Prop := fun x xs H Q => ∃ p, ∃ ns : List Int, ∃ z j, x = .ref p ∧ xs = [.int z] ∧ SqT K H p (ns.map V.int) ∧ ns[j]? = some z ∧ (∀ i, i < j → ns[i]? ≠ some z) ∧ Q (.int (j : Nat)) H
theorem cm_idxT : CvM K "tuple" (rIdxT K) mIdxT := fun H m d v ds vs Q Q' hm r rs h k => by
  unfold mIdxT at h
  split at h
  · unfold idxTK at h
    obtain ⟨ns, z, j, e, rfl, h1, h2, q⟩ := h.out
    obtain ⟨a, rfl, ra⟩ := one_rep rs
    cases ra
    obtain ⟨p, ws, rfl, hs, hr⟩ := tupOf r e
    rw [hr.ints] at hs
    exact ⟨p, ns, z, j, rfl, rfl, hs, h1, h2, k _ _ (.same hm (.int _) q)⟩
  · exact h.elim
def isTp : D → M → Prop := fun d m => ∃ ds, res m d = .tup ds
def isTpW : D → M → Prop := fun d m => ∃ ns : List Int, res m d = .tup (ns.map D.int)
end
theorem flat_ints (ns : List Int) : (ns.map V.int).all flatV = true := List.all_eq_true.mpr fun v hv => by
  obtain ⟨i, _, rfl⟩ := List.mem_map.mp hv
  rfl
theorem mt_idxT {X : Cx} : MtR X "tuple.index" (rIdxT X.K) := fun pins s σ H x xs v us Q I rx rs ⟨p, ns, z, j, e1, e2, hq, hy, hno, q⟩ => by
  subst e1; subst e2
  cases rx
  obtain ⟨u, rfl, t, rfl⟩ := vals1 rs
  obtain ⟨its, r, pl, hz⟩ := I.tuple hq
  obtain ⟨⟨cls, dd, dt, sl⟩, ho, hc, n, hd⟩ := pl
  simp only at hc hd
  subst hc; subst hd
  have hl : its.toArray.size = ns.length := by rw [List.size_toArray, ← r.length, List.length_map]
  have hj : j < its.toArray.size := by rw [hl]; exact (List.getElem?_eq_some_iff.mp hy).1
  have it : ∀ (i : Nat) (hi : i < its.toArray.size), ∃ y t2, ns[i]? = some y ∧ its.toArray[i] = Value.int y t2 := fun i hi => by
    have hi2 : i < ns.length := by rw [← hl]; exact hi
    obtain ⟨w, hw, t2, hw2⟩ := r.get (i := i) (x := .int ns[i]) (by simp [hi2])
    refine ⟨ns[i], t2, List.getElem?_eq_getElem hi2, ?_⟩
    have e := (List.getElem?_eq_some_iff.mp hw).2
    rw [← hw2, ← e]
    simp
  refine call_meets PySem.F.slot_tuple_index ⟨_, ho, rfl⟩ PySem.F.entry_tuple_index (PySem.F.args_tuple_index_2 _ _) (TI.tuple_indexAt p its.toArray n dd sl (.int z t) (eqU (.int z)) j hj ?_ ?_) ⟨ho, fun w hw => ?_, ⟨.int (j : Nat), H, I.tok _, ⟨_, rfl⟩, q⟩⟩
  · obtain ⟨y, t2, k1, k2⟩ := it j hj
    rw [hy] at k1
    cases k1
    rw [k2]
    exact beq_self_eq_true z
  · intro i hi hij
    obtain ⟨y, t2, k1, k2⟩ := it i hi
    rw [k2]
    show (y == z) = false
    exact beq_eq_false_iff_ne.mpr fun e => hno i hij (by rw [k1, e])
  · exact mem_eqAt (x := .int z) ⟨t, rfl⟩ rfl r (flat_ints ns) w (by simpa using hw)
/-! ### tuples known to be without a dict: made, joined, cut, asked -/
def isPt : D → M → Prop := fun d m => ∃ ds, d = .ptu ds
theorem ptuOf {K : PySem.W.Frag} {m : M} {H : Hp} {v : V} {ds : List D} (r : Rep K (hid m H) v (.ptu ds)) : ∃ a vs o, v = .ref a ∧ H a = some (.frz o (.tup vs)) ∧ o.dict = none ∧ Reps K (hid m H) vs ds := by
  cases r with
  | ptu h1 h0 h2 => exact ⟨_, _, _, rfl, hid_ex _ _ h1, h0, h2⟩
section
variable {X : Cx} {ω : Bx}
/-- a new such tuple -/
theorem ptu_new {K : PySem.W.Frag} {m : M} {H : Hp} {p : Addr} {o : Obj} {vs : List V} {ds : List D} {Q : Kd} (hm : MemOk K m H) (hp : H p = none) (h0 : o.dict = none) (r : Reps K (hid m H) vs ds) (q : Q (.ptu ds) m) : P2 K m H Q (.ref p) (upd H p (.frz o (.tup vs))) :=
  .new hm hp (.ptu (Step.new_at hm hp) h0 (r.mono (Step.new hm hp).ex)) q
def tTupP (t : TA) : TE := fun σ H Q => t σ H fun xs H1 => xs.length ≤ sizeLine ∧ ∀ p (o : Obj), H1 p = none → o.dict = none → Q (.ref p) (upd H1 p (.frz o (.tup xs)))
theorem pe_tupP {es : List Expr} {pos : Pos} {t : TA} {x1} (h : PA X es t) : PE X (.Tuple es x1 pos) (tTupP t) := ⟨fun pins s σ H Q I hq => by
  refine wpAny_Tuple_spliced (thn (h.run pos pins s σ H _ I hq) fun us s1 ⟨xs, H1, I1, r, z, q⟩ => ⟨by rw [← r.length]; exact z, ?_⟩)
  have new : H1 s1.heap.objs.size = none := I1.hok.fresh (Nat.le_refl _)
  refine ⟨.ref s1.heap.objs.size, upd H1 s1.heap.objs.size (.frz { cls := .type "tuple", data := .seq us.toArray } (.tup xs)), I1.laid (t' := s1.toks) (fun b u e => Heap.get?_push_of_some _ e) (Nat.le_refl _) ?_, rfl, q _ _ new rfl⟩
  exact ⟨Heap.get?_push_size _ rfl, z, us, r, IsTup.new _ _⟩⟩
def tTupPU (t : TA2) : TE2 := fun g m Q => t g m fun ds m1 => shL 64 ds (Q (.ptu ds) m1)
theorem tupPU {es : List Expr} {pos : Pos} {t : TA2} {x1} (h : PA2 X ω es t) : PE2 X ω (.Tuple es x1 pos) (tTupPU t) :=
  (pe_tupP (x1 := x1) pa_sem).to2 fun σ H g m Q S hm q => (h.sem S hm q).mono fun xs H1 ⟨ds, m1, s1, r1, z⟩ =>
    have z := shL.out z
    ⟨by rw [r1.length]; exact Nat.le_trans z.1 (szN 64), fun p o hp h0 => P2.go s1 (ptu_new s1.mem hp h0 r1 z.2)⟩
def PtA (H : Hp) (a : Addr) (xs : List V) : Prop := ∃ o : Obj, H a = some (.frz o (.tup xs)) ∧ o.dict = none
theorem PtA.t {K : PySem.W.Frag} {H : Hp} {a : Addr} {xs : List V} (h : PtA H a xs) : SqT K H a xs := let ⟨o, h1, _⟩ := h; .inl (.inr ⟨o, h1⟩)
def rCatP : R2 := fun x y H Q => ∃ a b xs ys, x = .ref a ∧ y = .ref b ∧ PtA H a xs ∧ PtA H b ys ∧ xs.length + ys.length ≤ sizeLine ∧
  (xs = [] → Q (.ref b) H) ∧ (xs ≠ [] → ys = [] → Q (.ref a) H) ∧ (xs ≠ [] → ys ≠ [] → ∀ p (o : Obj), H p = none → o.dict = none → Q (.ref p) (upd H p (.frz o (.tup (xs ++ ys)))))
theorem op_catP : OpR X (binaryOp .Add) rCatP := fun pins s σ H x y v u Q I rx ry ⟨a, b, xs, ys, e1, e2, ha, hb, hz, q0, q1, q2⟩ => by
  subst e1; subst e2
  cases rx
  cases ry
  obtain ⟨its, r1, p1, _⟩ := I.tuple (ha.t (K := X.K))
  obtain ⟨jts, r2, p2, _⟩ := I.tuple (hb.t (K := X.K))
  by_cases hx : xs = []
  · subst hx
    cases r1
    exact cat_tup0 p1 p2 ⟨.ref b, H, I, rfl, q0 rfl⟩
  · refine HT.cat_tup p1 p2 (fun z => hx (r1.nil_iff.mp z)) (fun z => ⟨.ref a, H, I, rfl, q1 hx (r2.nil_iff.mp z)⟩) (fun z => ?_) (by rw [← r1.length, ← r2.length]; exact hz)
    refine ⟨.ref s.heap.objs.size, upd H s.heap.objs.size (.frz { cls := .type "tuple", data := .seq (its ++ jts).toArray } (.tup (xs ++ ys))), I.laid (t' := s.toks) (fun b ob q => Heap.get?_push_of_some _ q) (Nat.le_refl _) ?_, rfl, q2 hx (fun w => z (r2.nil_iff.mpr w)) _ _ (I.hok.fresh (Nat.le_refl _)) rfl⟩
    exact ⟨Heap.get?_push_size _ rfl, by rw [List.length_append]; exact hz, _, r1.append r2, IsTup.new _ _⟩
/-- t + u of such tuples -/
@[irreducible] def oCatP : R22 := fun x y m Q => Box <| ∃ xs ys, x = .ptu xs ∧ y = .ptu ys ∧ xs.length + ys.length ≤ sizeLine ∧ Q (.ptu (xs ++ ys)) m
theorem catP_of {m : M} {Q : Kd} {xs ys : List D} (h : xs.length + ys.length ≤ sizeLine) (q : Q (.ptu (xs ++ ys)) m) : oCatP (.ptu xs) (.ptu ys) m Q := by unfold oCatP; exact ⟨⟨xs, ys, rfl, rfl, h, q⟩⟩
theorem cv_catP {K : PySem.W.Frag} : Cv2 K rCatP oCatP := fun H m dx dy x y Q Q' hm rx ry h k => by
  unfold oCatP at h
  obtain ⟨xs, ys, rfl, rfl, hl, q⟩ := h.out
  have hrx := rx
  have hry := ry
  obtain ⟨a, vs, o, rfl, h1, h0, r1⟩ := ptuOf rx
  obtain ⟨b, ws, o2, rfl, h2, h3, r2⟩ := ptuOf ry
  refine ⟨a, b, vs, ws, rfl, rfl, ⟨o, h1, h0⟩, ⟨o2, h2, h3⟩, by rw [r1.length, r2.length]; exact hl, fun e => ?_, fun _ e => ?_, fun _ _ p ob hp hd => k _ _ (ptu_new hm hp hd (r1.append r2) q)⟩
  · subst e
    cases r1
    exact k _ _ (.same hm hry (by rw [List.nil_append] at q; exact q))
  · subst e
    cases r2
    exact k _ _ (.same hm hrx (by rw [List.append_nil] at q; exact q))
variable {a b e : Expr} {ta tb te : TE2} {pos : Pos}
theorem addPU (ha : PE2 X ω a ta) (hb : PE2 X ω b tb) : PE2 X ω (.BinOp a .Add b pos) (tOp2 oCatP ta tb) := q_op op_catP cv_catP ha hb
def rSlP : V → Option Int → Option Int → Hp → VK → Prop := fun x lo hi H Q => ∃ a xs, x = .ref a ∧ PtA H a xs ∧
  (HT.sIx xs.length 0 lo = 0 ∧ HT.sIx xs.length xs.length hi = xs.length → Q (.ref a) H) ∧ (¬ (HT.sIx xs.length 0 lo = 0 ∧ HT.sIx xs.length xs.length hi = xs.length) → ∀ p (o : Obj), H p = none → o.dict = none → Q (.ref p) (upd H p (.frz o (.tup (cutV xs lo hi)))))
theorem sl_tupP : SlR X rSlP := fun pins s σ H x v vl vu lo hi sl Q I rx hs pl pu ⟨a, xs, e, hx, q1, q2⟩ => by
  subst e
  cases rx
  obtain ⟨its, r, ht, hz⟩ := I.tuple (hx.t (K := X.K))
  have hlen : its.toArray.size = xs.length := by rw [List.size_toArray]; exact r.length.symm
  refine ⟨"tuple", _, PyProof.Rows.slot_tuple_getitem.lookup, ht.typeIs, ?_⟩
  by_cases hw : HT.sIx xs.length 0 lo = 0 ∧ HT.sIx xs.length xs.length hi = xs.length
  · exact getItem_tuple_whole ht hs pl pu (by rw [hlen]; exact hw) ⟨.ref a, H, I, rfl, q1 hw⟩
  · refine HT.getItem_tuple_cut ht hs pl pu (by rw [hlen]; exact hw) ?_ (by rw [hlen]; exact hz)
    rw [hlen]
    refine ⟨.ref s.heap.objs.size, upd H s.heap.objs.size (.frz { cls := .type "tuple", data := .seq ((its.drop (HT.sIx xs.length 0 lo)).take (HT.sIx xs.length xs.length hi - HT.sIx xs.length 0 lo)).toArray } (.tup (cutV xs lo hi))), I.laid (t' := s.toks) (fun b ob q => Heap.get?_push_of_some _ q) (Nat.le_refl _) ?_, rfl, q2 hw _ _ (I.hok.fresh (Nat.le_refl _)) rfl⟩
    exact ⟨by first | exact Heap.get?_push_size _ rfl | (simp; exact Heap.get?_push_size _ rfl), Nat.le_trans (cutV_length xs lo hi) hz, _, (r.drop (HT.sIx xs.length 0 lo)).take (HT.sIx xs.length xs.length hi - HT.sIx xs.length 0 lo), by first | exact IsTup.new _ _ | (simp; exact IsTup.new _ _)⟩
end

@[irreducible] def sUP : D → Option Int → Option Int → M → Kd → Prop := fun x lo hi m Q => Box <| ∃ xs, x = .ptu xs ∧ Q (.ptu (Z.cutD xs lo hi)) m
theorem slP_of {m : M} {Q : Kd} {xs : List D} {lo hi : Option Int} (q : Q (.ptu (Z.cutD xs lo hi)) m) : sUP (.ptu xs) lo hi m Q := by unfold sUP; exact ⟨⟨xs, rfl, q⟩⟩
theorem cs_UP {K : PySem.W.Frag} : CvS K rSlP sUP := fun H m d v lo hi Q Q' hm r h k => by
  unfold sUP at h
  obtain ⟨xs, rfl, q⟩ := h.out
  have hr := r
  obtain ⟨a, vs, o, rfl, h1, h0, r1⟩ := ptuOf r
  refine ⟨a, vs, rfl, ⟨o, h1, h0⟩, fun ⟨h2, h3⟩ => ?_, fun _ p ob hp hd => k _ _ (ptu_new hm hp hd (r1.cut lo hi) q)⟩
  rw [r1.length] at h2 h3
  have ec : Z.cutD xs lo hi = xs := by
    unfold Z.cutD
    rw [h2, h3, List.drop_zero, Nat.sub_zero, List.take_length]
  rw [ec] at q
  exact k _ _ (.same hm hr q)
section
variable {X : Cx} {ω : Bx} {o e : Expr} {es : List Expr} {te to : TE2} {p2 pos apos cpos : Pos} {lo hi : Option Expr} {tl th : TO2}
theorem slPU (he : PE2 X ω e te) (hl : PO2 X ω lo tl) (hh : PO2 X ω hi th) : PE2 X ω (.Subscript e (.Slice lo hi none p2) pos) (tSl2 sUP te tl th) := q_slice sl_tupP cs_UP he hl hh
/-- t.index(x) of such a tuple of ints -/
theorem tyP_is {pins : List (Addr × Obj)} {σ : St} {H : Hp} {s : Shared} {x : V} {v : Value} (I : L2.Inv X pins σ H s) (r : RelV x v) (h : ∃ a xs, x = .ref a ∧ PtA H a xs) :
    s.TypeIs v "tuple" ∧ ∀ a, v = .ref a → ∃ ob, s.heap.get? a = some ob ∧ ob.dict = none := by
  obtain ⟨a, xs, rfl, ob, h1, h0⟩ := h
  cases r
  obtain ⟨ho, hz, its, rv, pl⟩ := (show ObjOk X.prog X.w H s.heap a (.frz ob (.tup xs)) from I.hok a _ h1)
  obtain ⟨o2, ho2, hc, _⟩ := pl
  have e2 : ob = o2 := Option.some.inj (ho.symm.trans ho2)
  subst e2
  exact ⟨⟨ob, ho, hc⟩, fun b e => by cases e; exact ⟨ob, ho, h0⟩⟩
def tBMP (r : V → List V → Hp → VK → Prop) (to : TE) (t : TA) : TE := fun σ H Q => to σ H fun x H1 => (∃ a xs, x = .ref a ∧ PtA H1 a xs) ∧ t σ H1 fun xs H2 => r x xs H2 Q
theorem pe_bmP {name : Str} {id : String} {r : V → List V → Hp → VK → Prop} {to : TE} {t : TA} (pa : PlainAttrs "tuple") (slot : Slot "tuple" name id) (hty : typeOf (.builtin id) = pure (.type "method_descriptor")) (hm : MtR X id r) (ho : PE X o to) (ha : PA X (e :: es) t)
    (hbase : attributeBase o name X.env (eval o X.env) = eval o X.env)
    (hfew : ((backTo cpos (starEach (e :: es) X.env)).all (fun x => !x.1) && (backToKw cpos (keywordEach [] X.env)).all (fun x => x.1.isSome) && decide ((e :: es).length + ([] : List Keyword).length + (if ([] : List Keyword).isEmpty then 0 else 1) < 30)) = true)
    (hline : (apos.endLine == cpos.line) = true) (hs : starEach (e :: es) X.env = (false, eval e X.env) :: starEach es X.env) (hplain : (backTo cpos (starEach es X.env)).any (·.1) = false) :
    PE X (.Call (.Attribute o name apos) (e :: es) [] cpos) (tBMP r to t) := ⟨fun pins s σ H Q I h => by
  refine wpAny_Call_method_late hbase hfew hline rfl (thn (ho.run pins s σ H _ I h) fun v s1 ⟨x, H1, I1, r1, ty, q1⟩ => ?_)
  obtain ⟨h1, h2⟩ := tyP_is I1 r1 ty
  refine ⟨"tuple", id, pa, slot, hty, h1, h2, ?_⟩
  have hA := ha.run cpos pins s1 σ H1 _ I1 q1
  rw [hs] at hA ⊢
  refine Calls.callWith_builtin (by show (false || (backTo cpos (starEach es X.env)).any (·.1)) = false; rw [hplain] <;> rfl) (Calls.evalArgs_plain ?_)
  exact thn hA fun us s2 ⟨vs, H2, I2, r2, q2⟩ => hm pins s2 σ H2 x vs v us Q I2 r1 r2 q2⟩
theorem m_indexP (ho : PE2 X ω o to) (he : PE2 X ω e te) (hbase : attributeBase o "index" X.env (eval o X.env) = eval o X.env := by rfl)
    (hfew : ((backTo cpos (starEach [e] X.env)).all (fun x => !x.1) && (backToKw cpos (keywordEach [] X.env)).all (fun x => x.1.isSome) && decide ([e].length + ([] : List Keyword).length + (if ([] : List Keyword).isEmpty then 0 else 1) < 30)) = true := by rfl)
    (hline : (apos.endLine == cpos.line) = true := by rfl) (hs : starEach [e] X.env = (false, eval e X.env) :: starEach [] X.env := by rfl) (hplain : (backTo cpos (starEach [] X.env)).any (·.1) = false := by rfl) :
    PE2 X ω (.Call (.Attribute o "index" apos) [e] [] cpos) (tBM2 isPt mIdxT to (tCons2 te tNil2)) :=
  (pe_bmP PySem.F.plainAttrs_tuple PySem.F.slot_tuple_index PySem.F.type_tuple_index mt_idxT pe_sem pa_sem hbase hfew hline hs hplain).to2 fun σ H g m Q S hmm q => (ho.sem S hmm q).mono fun v H1 ⟨d, m1, s1, r1, hok, q1⟩ => by
    obtain ⟨ds, rfl⟩ := hok
    obtain ⟨a, vs, ob, rfl, h1, h0, _⟩ := ptuOf r1
    exact ⟨⟨a, vs, rfl, ob, h1, h0⟩, ((qa_cons he qa_nil hs).sem (S.mono s1.ex) s1.mem q1).mono fun vs H2 ⟨es, m2, s2, rs, q2⟩ => cm_idxT H2 m2 _ _ es vs Q _ s2.mem (r1.mono s2.ex) rs q2 fun _ _ h => P2.go (s1.trans s2) h⟩
theorem m_insert2M {f : Expr} {tf : TE2} (ho : PE2 X ω o to) (he : PE2 X ω e te) (hf : PE2 X ω f tf) (hbase : attributeBase o "insert" X.env (eval o X.env) = eval o X.env := by rfl)
    (hfew : ((backTo cpos (starEach [e, f] X.env)).all (fun x => !x.1) && (backToKw cpos (keywordEach [] X.env)).all (fun x => x.1.isSome) && decide ([e, f].length + ([] : List Keyword).length + (if ([] : List Keyword).isEmpty then 0 else 1) < 30)) = true := by rfl)
    (hline : (apos.endLine == cpos.line) = true := by rfl) (hs : starEach [e, f] X.env = (false, eval e X.env) :: starEach [f] X.env := by rfl) (hs2 : starEach [f] X.env = (false, eval f X.env) :: starEach [] X.env := by rfl) (hplain : (backTo cpos (starEach [f] X.env)).any (·.1) = false := by rfl) :
    PE2 X ω (.Call (.Attribute o "insert" apos) [e, f] [] cpos) (tBM2 isL mInsert to (tCons2 te (tCons2 tf tNil2))) :=
  q_bm PySem.F.plainAttrs_list PySem.F.slot_list_insert PySem.F.type_list_insert mt_insert cm_insert ct_lst ho (qa_cons he (qa_cons hf qa_nil hs2) hs) hbase hfew hline hs hplain
theorem m_popAt1M (ho : PE2 X ω o to) (he : PE2 X ω e te) (hbase : attributeBase o "pop" X.env (eval o X.env) = eval o X.env := by rfl)
    (hfew : ((backTo cpos (starEach [e] X.env)).all (fun x => !x.1) && (backToKw cpos (keywordEach [] X.env)).all (fun x => x.1.isSome) && decide ([e].length + ([] : List Keyword).length + (if ([] : List Keyword).isEmpty then 0 else 1) < 30)) = true := by rfl)
    (hline : (apos.endLine == cpos.line) = true := by rfl) (hs : starEach [e] X.env = (false, eval e X.env) :: starEach [] X.env := by rfl) :
    PE2 X ω (.Call (.Attribute o "pop" apos) [e] [] cpos) (tBM2 isL mPopAt to (tCons2 te tNil2)) :=
  q_bm PySem.F.plainAttrs_list PySem.F.slot_list_pop PySem.F.type_list_pop mt_popAt cm_popAt ct_lst ho (qa_cons he qa_nil hs) hbase hfew hline hs
theorem m_reverse0M (ho : PE2 X ω o to) (hbase : attributeBase o "reverse" X.env (eval o X.env) = eval o X.env := by rfl)
    (hline : (apos.endLine == cpos.line) = true := by rfl) : PE2 X ω (.Call (.Attribute o "reverse" apos) [] [] cpos) (tBM02 isL mReverse to) :=
  q_bm0 PySem.F.plainAttrs_list PySem.F.slot_list_reverse PySem.F.type_list_reverse mt_reverse cm_reverse ct_lst ho hbase hline
end
end Z

/-! Z41: ways that join behind an if; tuple(range(..)). -/
namespace Z
open PySem PySem.Spec PyProof.Rows L2
section
variable {X : Cx} {ω : Bx} {st : Stmt} {t : TS2}
/-- what holds behind the statement is said once -/
def tCutS (t : TS2) : TS2 := fun E g m => ∃ I : Sl → M → Prop, t { E with nx := I } g m ∧ ∀ g' m', I g' m' → E.nx g' m'
theorem qs_cut (h : PS2 X ω st t) : PS2 X ω st (tCutS t) := ⟨fun {σ H g m E} S hm ⟨I, h1, h2⟩ => (h.sem S hm h1).mono (fun _ _ ⟨g', m', a, b, c⟩ => ⟨g', m', a, b, h2 _ _ c⟩) (fun _ _ q => q) (fun _ _ q => q) fun _ _ q => q⟩
end
/-! ### tuple(range(..)) -/
@[irreducible] def tupRgK (i j : Int) (m : M) (Q : Kd) : Prop := Box <| RgOk i j ∧ Q (.tup (rngD i (j - i).toNat)) m
theorem tupRg_of {i j : Int} {m : M} {Q : Kd} (h : RgOk i j) (q : Q (.tup (rngD i (j - i).toNat)) m) : tupRgK i j m Q := by unfold tupRgK; exact ⟨⟨h, q⟩⟩
theorem rg_rep {K : PySem.W.Frag} {G : Hp} (i j : Int) : Reps K G (rgV i j) (rngD i (j - i).toNat) := by
  have e1 : rgV i j = ((List.range (j - i).toNat).map fun k : Nat => i + (k : Int)).map V.int := by unfold rgV; rw [List.map_map]; rfl
  have e2 : rngD i (j - i).toNat = ((List.range (j - i).toNat).map fun k : Nat => i + (k : Int)).map D.int := by unfold rngD; rw [List.map_map]; rfl
  rw [e1, e2]
  exact Reps.of_ints _
section
variable {X : Cx} {ω : Bx} {a b : Expr} {ta tb : TE2} {p p2 pos pos2 : Pos}
def tTupRgU1 (ta : TE2) : TE2 := fun g m Q => ta g m fun x m1 => match x with | .int j => tupRgK 0 j m1 Q | _ => False
def tTupRgU2 (ta tb : TE2) : TE2 := fun g m Q => ta g m fun x m1 => tb g m1 fun y m2 => match x, y with | .int i, .int j => tupRgK i j m2 Q | _, _ => False
theorem tupRg1U (hc : X.calm = true) (hg : Gl X "tuple") (hm : X.mg "tuple" = none) (hg2 : Gl X "range") (hm2 : X.mg "range" = none) (ha : PE2 X ω a ta) (na : starEach [a] X.env = (false, eval a X.env) :: starEach [] X.env := by rfl)
    (ne : starEach [Expr.Call (.Name "range" p2) [a] [] pos2] X.env = (false, eval (Expr.Call (.Name "range" p2) [a] [] pos2) X.env) :: starEach [] X.env := by rfl) :
    PE2 X ω (.Call (.Name "tuple" p) [.Call (.Name "range" p2) [a] [] pos2] [] pos) (tTupRgU1 ta) :=
  (pe_tupRg hc hg hm (prg_1 hg2 hm2 pe_sem na) ne).to2 fun σ H g m Q S hmm q => (ha.sem S hmm q).mono fun v H1 ⟨d, m1, s1, r1, q1⟩ => by
    dsimp only at q1
    split at q1
    · cases r1
      unfold tupRgK at q1
      obtain ⟨h1, h2⟩ := q1.out
      exact ⟨_, rfl, h1, fun q hq => P2.go s1 (.new s1.mem hq (.tup (SqT.of (Step.new_at s1.mem hq)) (rg_rep _ _)) h2)⟩
    · exact q1.elim
theorem tupRg2U (hc : X.calm = true) (hg : Gl X "tuple") (hm : X.mg "tuple" = none) (hg2 : Gl X "range") (hm2 : X.mg "range" = none) (ha : PE2 X ω a ta) (hb : PE2 X ω b tb) (na : starEach [a, b] X.env = (false, eval a X.env) :: starEach [b] X.env := by rfl)
    (nb : starEach [b] X.env = (false, eval b X.env) :: starEach [] X.env := by rfl) (hp : (backTo pos2 (starEach [b] X.env)).any (·.1) = false := by rfl)
    (ne : starEach [Expr.Call (.Name "range" p2) [a, b] [] pos2] X.env = (false, eval (Expr.Call (.Name "range" p2) [a, b] [] pos2) X.env) :: starEach [] X.env := by rfl) :
    PE2 X ω (.Call (.Name "tuple" p) [.Call (.Name "range" p2) [a, b] [] pos2] [] pos) (tTupRgU2 ta tb) :=
  (pe_tupRg hc hg hm (prg_2 hg2 hm2 pe_sem pe_sem na nb hp) ne).to2 fun σ H g m Q S hmm q => (ha.sem S hmm q).mono fun v H1 ⟨d, m1, s1, r1, q1⟩ => (hb.sem (S.mono s1.ex) s1.mem q1).mono fun u H2 ⟨d2, m2, s2, r2, q2⟩ => by
    dsimp only at q2
    split at q2
    · cases r1
      cases r2
      unfold tupRgK at q2
      obtain ⟨h1, h2⟩ := q2.out
      exact ⟨_, _, rfl, rfl, h1, fun q hq => P2.go (s1.trans s2) (.new s2.mem hq (.tup (SqT.of (Step.new_at s2.mem hq)) (rg_rep _ _)) h2)⟩
    · exact q2.elim
end

/-! ### t + u of any tuples -/
@[irreducible] def oAddT : R22 := fun x y m Q => Box <| ∃ xs ys, res m x = .tup xs ∧ res m y = .tup ys ∧ xs.length + ys.length ≤ sizeLine ∧ Q (.tup (xs ++ ys)) m
theorem addT_of {m : M} {x y : D} {xs ys : List D} {Q : Kd} (h1 : res m x = .tup xs) (h2 : res m y = .tup ys) (h3 : xs.length + ys.length ≤ sizeLine) (q : Q (.tup (xs ++ ys)) m) : oAddT x y m Q := by unfold oAddT; exact ⟨⟨xs, ys, h1, h2, h3, q⟩⟩
section
variable {X : Cx} {ω : Bx} {a b : Expr} {ta tb : TE2} {pos : Pos}
theorem oAddT_U {x y : D} {m : M} {Q : Kd} (h : oAddT x y m Q) : oAddU x y m Q := by
  unfold oAddT at h
  obtain ⟨xs, ys, h1, h2, h3, q⟩ := h.out
  unfold oAddU
  rw [h1, h2]
  exact ⟨h3, q⟩
theorem addTU (ha : PE2 X ω a ta) (hb : PE2 X ω b tb) : PE2 X ω (.BinOp a .Add b pos) (tOp2 oAddT ta tb) := q_op op_addU (fun H m dx dy x y Q Q' hm rx ry h k => cv_addU H m dx dy x y Q Q' hm rx ry (oAddT_U h) k) ha hb
end
end Z

/-! Z42: drawing states of two numbers. -/
namespace Z
open PySem PySem.Spec PyProof.Rows L2
def DrB (ds : List D) : Prop := ∃ a b : Int, ds = [.int a, .int b] ∧ 0 ≤ a ∧ 0 ≤ b
def StB (p : Addr) (m m' : M) : Prop := ∃ ds, DrB ds ∧ m' = upM m p (.lst ds)
theorem StB.at {p : Addr} {m m' : M} (h : StB p m m') : ∃ ds, DrB ds ∧ m' p = some (.lst ds) := by
  obtain ⟨ds, h1, rfl⟩ := h
  exact ⟨ds, h1, upM_same⟩
theorem StB.self {p : Addr} {m m' : M} (h : StB p m m') : StB p m' m' := by
  obtain ⟨ds, h1, rfl⟩ := h
  exact ⟨ds, h1, upM_upM.symm⟩
theorem StB.trans {p : Addr} {m m' m2 : M} (h : StB p m m') (h2 : StB p m' m2) : StB p m m2 := by
  obtain ⟨ds, h1, rfl⟩ := h
  obtain ⟨ds2, h2, rfl⟩ := h2
  exact ⟨ds2, h2, upM_upM⟩
theorem StB.ne {p a : Addr} {m m' : M} (h : StB p m m') (ha : a ≠ p) : m' a = m a := by
  obtain ⟨ds, h1, rfl⟩ := h
  exact upM_ne ha
theorem StB.mk {p : Addr} {m : M} {ds : List D} (h : m p = some (.lst ds)) (s : DrB ds) : StB p m m := ⟨ds, s, by
  funext b
  by_cases e : b = p
  · subst e; rw [h, upM_same]
  · rw [upM_ne e]⟩
theorem StB.grow {p l : Addr} {m m' : M} {c c' : C} (h : StB p (upM m l c) m') (hne : l ≠ p) : StB p (upM m l c') (upM m' l c') := by
  obtain ⟨st, h1, rfl⟩ := h
  refine ⟨st, h1, ?_⟩
  rw [upM_comm hne.symm, upM_upM]
theorem StB.own {p l : Addr} {m m' : M} {c : C} (h : StB p (upM m l c) m') (hne : l ≠ p) : m' l = some c := by
  obtain ⟨st, h1, rfl⟩ := h
  rw [upM_ne hne, upM_same]
theorem StB.start {p l : Addr} {m : M} {c : C} (h : StB p m m) (hl : m l = none) : StB p (upM m l c) (upM m l c) ∧ l ≠ p := by
  obtain ⟨st, h1, h2⟩ := h.at
  have hne : p ≠ l := ne_ofM h2 hl
  exact ⟨StB.mk (by rw [upM_ne hne]; exact h2) h1, hne.symm⟩
theorem StB.drop {p l : Addr} {m m' : M} {c : C} (h : StB p (upM m l c) m') (hl : m l = none) : ∃ m2, Sub m2 m' ∧ StB p m m2 := by
  obtain ⟨st, h1, rfl⟩ := h
  refine ⟨upM m p (.lst st), fun a d q => ?_, st, h1, rfl⟩
  by_cases e : a = p
  · subst e
    rw [upM_same] at q ⊢
    exact q
  · rw [upM_ne e] at q ⊢
    rw [upM_ne (ne_ofM q hl)]
    exact q
theorem StB.give {p l : Addr} {m m' : M} {c : C} (h : StB p (upM m l c) m') (hl : m l = none) (hne : l ≠ p) : StB p m (dropM m' l) := by
  obtain ⟨st, h1, rfl⟩ := h
  refine ⟨st, h1, ?_⟩
  funext a
  unfold dropM upM
  by_cases e : a = l
  · subst e; rw [if_pos rfl, if_neg hne, hl]
  · rw [if_neg e]
    by_cases e2 : a = p
    · rw [if_pos e2, if_pos e2]
    · rw [if_neg e2, if_neg e2, if_neg e]
theorem lc_sbR {tg : TG2} {te : TE2} {vs : List Nat} {g : Sl} {m1 : M} {ds : List D} {keep : M → Prop} {Q : Kd} {p : Addr} (R : D → D → Prop) (hs : StB p m1 m1) (hl : ds.length ≤ sizeLine) (hk : ∀ mm, keep mm)
    (he : ∀ d ∈ ds, ∀ mm, StB p mm mm → ∀ k : Kd, (∀ y mm', R d y → StB p mm mm' → k y mm') → tg d (wipe2 g vs) mm fun g2 m2 => te g2 m2 k) (hq : ∀ ys m', ys.length = ds.length → (∀ (j : Nat) (y : D), ys[j]? = some y → ∃ d, ds[j]? = some d ∧ R d y) → StB p m1 m' → Q (.lst ys) m') : LcG tg tYes2 te vs g Q ds keep m1 := by
  refine LcG.mk hl (fun i acc m' => acc.length = i ∧ (∀ (j : Nat) (y : D), acc[j]? = some y → ∃ d, ds[j]? = some d ∧ R d y) ∧ StB p m1 m') ⟨rfl, fun _ _ h => (by simp at h), hs⟩ ?_
  rintro i acc m' ⟨rfl, hP, hm⟩
  refine ⟨fun Dl hD => ⟨hk _, fun d hd => ?_⟩, fun e => hq _ _ e hP hm⟩
  have hmem := List.mem_of_getElem? hd
  obtain ⟨st, hst, hat⟩ := hm.at
  have hne : p ≠ Dl := ne_ofM hat hD
  have h2 : StB p (upM m' Dl (.lst acc)) (upM m' Dl (.lst acc)) := StB.mk (by rw [upM_ne hne]; exact hat) hst
  refine he d hmem _ h2 _ fun y mm' hy hmm => ?_
  obtain ⟨st', hst', rfl⟩ := hmm
  refine ⟨upM m' p (.lst st'), upM_comm hne.symm, by rw [upM_ne hne.symm]; exact hD, by simp, ?_, hm.trans ⟨st', hst', rfl⟩⟩
  intro j z hz
  by_cases hj : j < acc.length
  · rw [List.getElem?_append_left hj] at hz
    exact hP j z hz
  · rw [List.getElem?_append_right (by omega)] at hz
    have hj0 : j - acc.length = 0 := by
      cases e : j - acc.length with
      | zero => rfl
      | succ n => rw [e] at hz; simp at hz
    rw [hj0] at hz
    cases hz
    have : j = acc.length := by omega
    subst this
    exact ⟨d, hd, hy⟩
theorem lc_fbR {tg : TG2} {tt : TT2} {te : TE2} {vs : List Nat} {g : Sl} {m1 : M} {ds : List D} {keep : M → Prop} {Q : Kd} {p : Addr} (R : D → D → Prop) (hs : StB p m1 m1) (hl : ds.length ≤ sizeLine) (hk : ∀ mm, keep mm)
    (he : ∀ d ∈ ds, ∀ mm, StB p mm mm → ∀ (kf : M → Prop) (k : Kd), (∀ mm', StB p mm mm' → kf mm') → (∀ y mm', R d y → StB p mm mm' → k y mm') → tg d (wipe2 g vs) mm fun g2 m2 => tt g2 m2 fun b m3 => if b = true then te g2 m3 k else kf m3)
    (hq : ∀ ys m', ys.length ≤ ds.length → (∀ y ∈ ys, ∃ d ∈ ds, R d y) → StB p m1 m' → Q (.lst ys) m') : LcG tg tt te vs g Q ds keep m1 := by
  refine LcG.mk hl (fun i acc m' => acc.length ≤ i ∧ (∀ y ∈ acc, ∃ d ∈ ds, R d y) ∧ StB p m1 m') ⟨Nat.zero_le _, fun _ h => (by simp at h), hs⟩ ?_
  rintro i acc m' ⟨hi, hP, hm⟩
  refine ⟨fun Dl hD => ⟨hk _, fun d hd => ?_⟩, fun e => hq _ _ (e ▸ hi) hP hm⟩
  have hmem := List.mem_of_getElem? hd
  obtain ⟨st, hst, hat⟩ := hm.at
  have hne : p ≠ Dl := ne_ofM hat hD
  have h2 : StB p (upM m' Dl (.lst acc)) (upM m' Dl (.lst acc)) := StB.mk (by rw [upM_ne hne]; exact hat) hst
  refine he d hmem _ h2 (fun m3 => ∃ m5, m3 = upM m5 Dl (.lst acc) ∧ m5 Dl = none ∧ _) _ (fun mm' hmm => ?_) (fun y mm' hy hmm => ?_)
  · obtain ⟨st', hst', rfl⟩ := hmm
    exact ⟨upM m' p (.lst st'), upM_comm hne.symm, by rw [upM_ne hne.symm]; exact hD, by omega, hP, hm.trans ⟨st', hst', rfl⟩⟩
  · obtain ⟨st', hst', rfl⟩ := hmm
    refine ⟨upM m' p (.lst st'), upM_comm hne.symm, by rw [upM_ne hne.symm]; exact hD, by rw [List.length_append, List.length_singleton]; omega, fun z hz => ?_, hm.trans ⟨st', hst', rfl⟩⟩
    rcases List.mem_append.mp hz with h | h
    · exact hP z h
    · rw [List.mem_singleton] at h; subst h; exact ⟨d, hmem, hy⟩
/-- a list of one's own, by the way of which other ones were made and left -/
def Hold (p l : Addr) (m m' : M) (ds : List D) : Prop := l ≠ p ∧ m l = none ∧ m' l = some (.lst ds) ∧ ∃ st, DrB st ∧ m' p = some (.lst st) ∧ Sub (upM m p (.lst st)) m'
theorem Hold.ofNew {p l : Addr} {m m' : M} {ds : List D} (hs : StB p m m') (h : m' l = none) : Hold p l m (upM m' l (.lst ds)) ds := by
  obtain ⟨st, h1, rfl⟩ := hs
  have hne : l ≠ p := fun e => by rw [e, upM_same] at h; cases h
  rw [upM_ne hne] at h
  exact ⟨hne, h, upM_same, st, h1, by rw [upM_ne hne.symm, upM_same], Sub.refl.up (by rw [upM_ne hne]; exact h)⟩
theorem Hold.at {p l : Addr} {m m' : M} {ds : List D} (h : Hold p l m m' ds) : m' l = some (.lst ds) := h.2.2.1
theorem Hold.self {p l : Addr} {m m' : M} {ds : List D} (h : Hold p l m m' ds) : StB p m' m' := by
  obtain ⟨_, _, _, st, h1, h2, _⟩ := h
  exact StB.mk h2 h1
theorem Hold.move {p l : Addr} {m m' m2 : M} {ds : List D} (h : Hold p l m m' ds) (hs : StB p m' m2) : Hold p l m m2 ds := by
  obtain ⟨a, b, c, st, h1, h2, h3⟩ := h
  obtain ⟨st2, k1, rfl⟩ := hs
  refine ⟨a, b, by rw [upM_ne a]; exact c, st2, k1, upM_same, fun x d q => ?_⟩
  by_cases e : x = p
  · subst e
    rw [upM_same] at q ⊢
    exact q
  · rw [upM_ne e] at q ⊢
    exact h3 x d (by rw [upM_ne e]; exact q)
theorem Hold.fresh {p l l2 : Addr} {m m' : M} {ds ds2 : List D} (h : Hold p l m m' ds) (hl : m' l2 = none) : Hold p l2 m (upM m' l2 (.lst ds2)) ds2 := by
  obtain ⟨a, b, c, st, h1, h2, h3⟩ := h
  have hne : l2 ≠ p := fun e => by rw [e, h2] at hl; cases hl
  have h4 : upM m p (.lst st) l2 = none := by
    cases e : upM m p (.lst st) l2 with
    | none => rfl
    | some d => rw [h3 _ _ e] at hl; cases hl
  refine ⟨hne, by rw [upM_ne hne] at h4; exact h4, upM_same, st, h1, by rw [upM_ne hne.symm]; exact h2, h3.up hl⟩
theorem Hold.app {p l : Addr} {m m' : M} {ds ds2 : List D} (h : Hold p l m m' ds) : Hold p l m (upM m' l (.lst ds2)) ds2 := by
  obtain ⟨a, b, c, st, h1, h2, h3⟩ := h
  refine ⟨a, b, upM_same, st, h1, by rw [upM_ne a.symm]; exact h2, fun x d q => ?_⟩
  by_cases e : x = l
  · subst e
    rw [upM_ne a, b] at q
    cases q
  · rw [upM_ne e]
    exact h3 x d q
theorem Hold.drop {p l : Addr} {m m' : M} {ds : List D} (h : Hold p l m m' ds) : ∃ m2, Sub m2 m' ∧ StB p m m2 := by
  obtain ⟨_, _, _, st, h1, _, h3⟩ := h
  exact ⟨_, h3, st, h1, rfl⟩
end Z

/-! Z43: the greatest of a tuple of ints, with a default. -/
namespace Z
open PySem PySem.Spec PyProof.Rows L2
/-- the greatest of some whole numbers, c where there are none -/
def IsMax (c : Int) (ns : List Int) (M : Int) : Prop := (ns = [] → M = c) ∧ (ns ≠ [] → M ∈ ns ∧ ∀ z ∈ ns, z ≤ M)
theorem ints_read (h : Heap) : ∀ {us : List Value} {ns : List Int}, IntsAre us ns → ∃ as, ReadsAll h us (ns.map PyData.int) as
  | _, _, .nil => ⟨_, .nil⟩
  | _, _, .cons n t r => by
    obtain ⟨as, k⟩ := ints_read h r
    exact ⟨_, .cons (.int n t) k⟩
theorem ints_deep : ∀ ns : List Int, PyData.depthAll (ns.map PyData.int) = 0
  | [] => rfl
  | n :: r => by
    show max (PyData.depth (.int n)) (PyData.depthAll (r.map PyData.int)) = 0
    rw [ints_deep r]
    rfl
theorem ints_like (ns : List Int) : PySem.W.AlikeAll (ns.map PyData.int) := by
  refine ⟨fun x hx y hy => ?_, fun x hx => ?_⟩
  · obtain ⟨i, _, rfl⟩ := List.mem_map.mp hx
    obtain ⟨j, _, rfl⟩ := List.mem_map.mp hy
    rfl
  · obtain ⟨i, _, rfl⟩ := List.mem_map.mp hx
    exact fun e => nomatch e
theorem most_of : ∀ (ns : List Int) (i : Int), ∃ M, PySem.W.maxD (.int i) (ns.map PyData.int) = .int M ∧ M ∈ i :: ns ∧ ∀ z ∈ i :: ns, z ≤ M
  | [], i => ⟨i, rfl, List.mem_cons_self, fun z hz => by rw [List.mem_singleton.mp hz]; exact Int.le_refl _⟩
  | n :: r, i => by
    obtain ⟨M, h1, h2, h3⟩ := most_of r (if i < n then n else i)
    refine ⟨M, ?_, ?_, fun z hz => ?_⟩
    · have e : PySem.W.maxD (.int i) ((n :: r).map PyData.int) = PySem.W.maxD (if PySem.W.dataLt (.int i) (.int n) = true then .int n else .int i) (r.map PyData.int) := rfl
      rw [e, PySem.W.dataLt_int, ← h1]
      by_cases hk : i < n
      · rw [decide_eq_true hk, if_pos rfl, if_pos hk]
      · rw [decide_eq_false hk, if_neg Bool.false_ne_true, if_neg hk]
    · rcases List.mem_cons.mp h2 with e | e
      · rw [e]; split <;> simp
      · exact List.mem_cons_of_mem _ (List.mem_cons_of_mem _ e)
    · have h4 := h3 _ List.mem_cons_self
      rcases List.mem_cons.mp hz with e | e
      · rw [e]; split at h4 <;> omega
      · rcases List.mem_cons.mp e with e | e
        · rw [e]; split at h4 <;> omega
        · exact h3 z (List.mem_cons_of_mem _ e)
def rMaxDT (K : PySem.W.Frag) : List V → List V → Hp → VK → Prop := fun vs zs H Q => ∃ (a : Addr) (ns : List Int) (c : Int), vs = [V.ref a] ∧ zs = [V.int c] ∧ SqT K H a (ns.map V.int) ∧ ∀ M, IsMax c ns M → Q (.int M) H
theorem cr_maxDT {X : Cx} (hc : X.calm = true) (hu : X.A.units + 1 < cLine) : CallRK X (.builtin "max") [Str.ofString "default"] (rMaxDT X.K) := by
  intro pins s σ H vs zs us ws Q I r rz ⟨a, ns, c, e1, e2, hs, q⟩
  subst e1 e2
  obtain ⟨its, rv, hl, hz⟩ := I.tuple hs
  rw [Vals.ref1 r]
  obtain ⟨w1, rfl, e3⟩ := vals1 rz
  obtain ⟨as, hr⟩ := ints_read s.heap rv.ints
  refine PySem.W.max_tuple_default (I.ok.hd hc) hl (by rw [List.toList_toArray]; exact hr) (ints_like ns) (by rw [ints_deep]; exact hu) (fun h0 h' tk k => ?_) (fun y ys i v h' tk bs ey hv hR k => ?_)
  · have h0 : ns = [] := List.map_eq_nil_iff.mp h0
    exact ⟨.int c, H, I.kept k, e3, q c ⟨fun _ => rfl, fun h => absurd h0 h⟩⟩
  · cases ns with
    | nil => cases ey
    | cons n r =>
      cases ey
      obtain ⟨M, h1, h2, h3⟩ := most_of r n
      rw [h1] at hR
      cases hR
      exact ⟨.int M, H, I.kept k, ⟨_, rfl⟩, q M ⟨fun h => (nomatch h), fun _ => ⟨h2, h3⟩⟩⟩
/-- max(t, default=c) -/
@[irreducible] def maxDK (c : Int) (x : D) (m : M) (Q : Kd) : Prop := Box <| ∃ ns : List Int, res m x = .tup (ns.map D.int) ∧ ∀ M, IsMax c ns M → Q (.int M) m
theorem maxD_of {c : Int} {x : D} {m : M} {Q : Kd} (ns : List Int) (e : res m x = .tup (ns.map D.int)) (q : ∀ M, IsMax c ns M → Q (.int M) m) : maxDK c x m Q := by unfold maxDK; exact ⟨⟨ns, e, q⟩⟩
def tMaxDU (c : Int) (te : TE2) : TE2 := fun g m Q => te g m fun x m1 => maxDK c x m1 Q
section
variable {X : Cx} {ω : Bx} {e : Expr} {te : TE2} {p pos p2 kpos : Pos} {c : Int} {k j : Nat}
theorem maxDU (hc : X.calm = true) (hr : Room k X.A) (hg : Gl X "max") (hm : X.mg "max" = none) (he : PE2 X ω e te)
    (hs : starEach [e] X.env = (false, eval e X.env) :: starEach [] X.env := by rfl) :
    PE2 X ω (.Call (.Name "max" p) [e] [⟨some (Str.ofString "default"), .Constant (.int c) j p2, kpos⟩] pos) (tMaxDU c te) :=
  (pe_callBK (x := "max") (id := "max") (cr_maxDT hc (by have := hr.units; omega)) hg hm bt_max pa_sem pk_sem (by decide) (by decide) (by rw [hs]; rfl) (by rw [hs]; rfl)).to2 fun σ H g m Q S hm q =>
    ((qa_cons he qa_nil hs).sem (Q := fun xs m2 => match xs with | [x] => maxDK c x m2 Q | _ => False) S hm (show te g m (fun x m1 => maxDK c x m1 Q) from q)).mono fun vs H1 ⟨ds, m1, s1, r1, q1⟩ =>
    ((qk_cons q_int qk_nil).sem (Q := fun zs m2 => zs = [.int c] ∧ m2 = m1) (S.mono s1.ex) s1.mem ⟨rfl, rfl⟩).mono fun zs H2 ⟨es, m2, s2, r2, q2⟩ => by
      obtain ⟨rfl, rfl⟩ := q2
      obtain ⟨w, rfl, rw⟩ := one_rep r2
      cases rw
      match ds, q1 with
      | [d], q1 =>
        unfold maxDK at q1
        obtain ⟨ns, e1, q1⟩ := q1.out
        obtain ⟨w, rfl, rw⟩ := one_rep r1
        obtain ⟨a, ws, rfl, hs, hr⟩ := tupOf (rw.mono s2.ex) e1
        rw [hr.ints] at hs
        exact ⟨a, ns, c, rfl, rfl, hs, fun M hM => P2.go (s1.trans s2) (.same s2.mem (.int _) (q1 M hM))⟩
end
end Z

/-! Z44: an owned dict given up and locked: from then on it is never changed. -/
namespace Z
open PySem PySem.Spec PyProof.Rows L2
theorem Step.frz {K : PySem.W.Frag} {m : M} {H : Hp} {p : Addr} {c : C} {o : HO} (h : MemOk K m H) (hm : m p = some c) : Step K m H (Z.dropM m p) (upd H p o) := by
  have ne : ∀ a, m a = none → a ≠ p := fun a z q => by subst q; rw [hm] at z; cases z
  have dn : ∀ a, a ≠ p → Z.dropM m p a = m a := fun a q => if_neg q
  have e : Ex (hid m H) (hid (Z.dropM m p) (upd H p o)) := fun a u z => by
    obtain ⟨z1, z2⟩ := hid_some z
    exact hid_of (by rw [dn a (ne a z1)]; exact z1) (by rw [upd_ne (ne a z1)]; exact z2)
  refine ⟨fun a u h1 h2 => ⟨by rw [upd_ne (ne a h2)]; exact h1, by rw [dn a (ne a h2)]; exact h2⟩, fun a c' hc => ?_⟩
  have q : a ≠ p := fun q => by subst q; rw [Z.dropM_same] at hc; cases hc
  rw [dn a q] at hc
  exact (h a c' hc).mono (upd_ne q) e
/-- an owned dict, given up and locked -/
def tValF (t : TE2) : TE2 := fun g m Q => t g m fun x m1 => ∃ l dl, x = .ref l ∧ m1 l = some (tbC dl) ∧ Q (fdD dl) (dropM m1 l)
theorem valFU {X : Cx} {ω : Bx} {e : Expr} {t : TE2} (h : PE2 X ω e t) : PE2 X ω e (tValF t) := ⟨fun {σ H g m Q} S hm q pins s I => thn ((h.sem S hm q) pins s I) fun u s1 ⟨v, H1, I1, rv, d, m1, st, r1, l, dl, e, hl, q1⟩ => by
  subst e
  have hv : v = .ref l := by cases r1; rfl
  subst hv
  obtain ⟨ls, h1, h2⟩ := tabAt st.mem hl
  obtain ⟨od, I2⟩ := I1.lock h1 (show Mut (some (.dK ls)) from trivial)
  have st2 := Step.frz (o := .frz od (.dK ls)) st.mem hl
  exact ⟨.ref l, _, I2, rv, fdD dl, dropM m1 l, st.trans st2, (h2.mono st2.ex).repF (hid_of Z.dropM_same upd_same), q1⟩⟩
end Z

/-! Z45: enumerate over a list or a tuple. -/
namespace Z
open PySem PySem.Spec PyProof.Rows L2
/-- the tuple at a, each item in a new pair behind its place -/
def IteT (K : PySem.W.Frag) (a : Addr) : It where
  go := fun i H => ∃ (xs : List V) (x : V), SqT K H a xs ∧ xs[i]? = some x
  yld := fun i H v H' => ∃ T x, v = .ref T ∧ H T = none ∧ H' = upd H T (.tup [.int (i : Nat), x]) ∧ ∀ xs, SqT K H a xs → xs[i]? = some x
  stop := fun i H => ∃ xs : List V, SqT K H a xs ∧ xs.length ≤ i
/-- the iterator's cells while a tuple is numbered -/
def EnSt (a e it : Addr) (items : Array Value) (i : Nat) (h : Heap) : Prop := (∃ old, IsEnum h e it ((i : Nat) : Int) old) ∧ h.IsTupleIter it a i ∧ h.IsTuple a items
theorem turn_enT {P : Program} {w : World} {K : PySem.W.Frag} {elts : List Expr} {kk : Nat} {tpos : Pos} {a e it : Addr} (n1 : e ≠ it) (n2 : a ≠ it) (n3 : e ≠ a) :
    Turn P w K (.Tuple elts kk tpos) (IteT K a) [e, it] e (fun i h => (∃ old, IsEnum h e it ((i : Nat) : Int) old) ∧ h.IsTupleIter it a i) where
  mem := List.mem_cons_self
  obj := fun i h st b hb => by
    obtain ⟨⟨old, he⟩, ⟨o, ho, _, hd⟩⟩ := st
    rcases List.mem_cons.mp hb with z | z
    · subst z
      exact ⟨_, he, fun v q => nomatch q⟩
    · obtain rfl := List.mem_singleton.mp z
      exact ⟨o, ho, fun v q => by rw [hd] at q; cases q⟩
  keep := fun i h h' st k => by
    obtain ⟨⟨old, he⟩, hi⟩ := st
    exact ⟨⟨old, k e List.mem_cons_self _ he⟩, hi.at fun o q => k it (List.mem_cons_of_mem _ List.mem_cons_self) o q⟩
  item := by
    intro X hP hw hK hc i pins s σ H E I hf st hg
    subst hP hw hK
    obtain ⟨⟨old, he⟩, hit⟩ := st
    obtain ⟨xs, x, hq, hx⟩ := hg
    obtain ⟨its, rv, p, hz⟩ := I.tuple hq
    obtain ⟨u, hu, ru⟩ := rv.get hx
    have hel : e < s.heap.objs.size := Heap.lt_size he
    have hil : it < s.heap.objs.size := by obtain ⟨_, q, _⟩ := hit; exact Heap.lt_size q
    have hul : i < its.toArray.size := by
      have := (List.getElem?_eq_some_iff.mp hu).1
      simpa using this
    refine wpAny_pyNext_enum_itemC (Draws.tuple (A := X.A.in1) (I.ok.hd hc) it a n2 its.toArray) he ⟨hit, p⟩ hul n1 (by simp [n1, n3]) fun y h' tk hy ho hst hT hsz hk => ?_
    have ey : y = u := by
      have : its.toArray[i]? = some u := by simpa using hu
      rw [this] at hy
      exact (Option.some.inj hy).symm
    subst ey
    refine ⟨_, rfl, wpAny_letOwnedTupleGo_enum (s := { s with heap := h', toks := tk + 1 }) ho fun h'' he' sb => ?_⟩
    have hT2 : h''.get? s.heap.objs.size = some { cls := .type "tuple", data := .seq #[.int i tk, y] } := (sb.2 _ (Nat.ne_of_gt hel)).trans hT
    have new : ObjOk X.prog X.w (upd H s.heap.objs.size (.tup [.int (i : Nat), x])) h'' s.heap.objs.size (.tup [.int (i : Nat), x]) :=
      ⟨show 2 ≤ sizeLine by decide, [.int i tk, y], .cons ⟨_, rfl⟩ (.cons ru .nil), ⟨_, hT2, rfl, _, rfl⟩⟩
    have I1 : Inv X pins σ (upd H s.heap.objs.size (.tup [.int (i : Nat), x])) { s with heap := h'', toks := tk + 1 } :=
      I.turnedNew (ch := [e, it]) (fun b ob hb q => (sb.2 b (fun z => hb (z ▸ List.mem_cons_self))).trans (hk b ob (fun z => hb (z ▸ List.mem_cons_self)) (fun z => hb (z ▸ List.mem_cons_of_mem _ List.mem_cons_self)) q)) hf (Nat.le_refl _) new
    refine ⟨.ref s.heap.objs.size, _, I1, rfl, ⟨_, x, rfl, I.hok.fresh (Nat.le_refl _), rfl, fun ys hy => by rw [I.tuple_inj hy hq]; exact hx⟩, ⟨⟨y, ?_⟩, hst.1.at fun o q => (sb.2 it (Ne.symm n1)).trans q⟩, fun b hb => ?_⟩
    · have e1 : ((i + 1 : Nat) : Int) = (i : Int) + 1 := Int.natCast_succ i
      rw [e1]
      exact he'
    · have hb' : b < s.heap.objs.size := by
        rcases List.mem_cons.mp hb with z | z
        · exact z ▸ hel
        · exact (List.mem_singleton.mp z) ▸ hil
      rw [upd_ne (Nat.ne_of_lt hb')]
      exact (hf b hb).1
  done := by
    intro X hP hw hK hc i pins s σ H E I hf st hg
    subst hP hw hK
    obtain ⟨⟨old, he⟩, hit⟩ := st
    obtain ⟨xs, hq, hx⟩ := hg
    obtain ⟨its, rv, p, hz⟩ := I.tuple hq
    obtain ⟨f0, f1, f2, f3, f4, f5⟩ := hf it (List.mem_cons_of_mem _ List.mem_cons_self)
    have hl := rv.length
    have D2 : Draws X.prog X.w X.A.in1 it [it, a] i (fun j v => True) (fun j h => j = i ∧ h.IsTupleIter it a j ∧ h.IsTuple a its.toArray) := {
      live := fun _ _ st => let ⟨o, ho, _⟩ := st.2.1; ⟨o, ho⟩
      frame := fun _ _ _ st hk => ⟨st.1, st.2.1.at fun o e => hk it List.mem_cons_self o e, st.2.2.at fun o e => hk a (List.mem_cons_of_mem _ List.mem_cons_self) o e⟩
      item := fun j s Q E hj st hQ => absurd hj (by rw [st.1]; exact Nat.lt_irrefl _)
      done := fun s Q E st hE => wpAny_nextOf_tuple_end (I.ok.hd hc) st.2.1 st.2.2 (by simp; omega) hE }
    exact wpAny_pyNext_enum_endD D2 he ⟨rfl, hit, p⟩ fun h' eb => ⟨rfl, I.turned (t' := s.toks) (fun b o hb q => eb b o hb q) f0 f1 f3 f4 f5⟩
  self := fun A i s Q E st h => let ⟨⟨_, he⟩, _⟩ := st; wpAny_pyIter_enum he h
/-- the enumerate over a new tuple iterator -/
abbrev enObj (N : Nat) : Obj := { cls := .type "enumerate", data := .fields #[.none, .bool false, .ref N, rawInt 0, .none, .none] }
abbrev tupIt (t : Addr) : Obj := { cls := .type "tuple_iterator", data := .fields #[.ref t, .int 0 0] }
theorem en_made {t : Addr} {items : Array Value} :
    Meets (Builtin.«enumerate.__new__» ⟨[.type "enumerate", .ref t], []⟩) (fun _ R s => s.heap.IsTuple t items ∧
      R (.ok (.ret (.ref (s.heap.push (tupIt t)).objs.size))) { s with heap := (s.heap.push (tupIt t)).push (enObj s.heap.objs.size) }) :=
  .of_wp fun prog w A R s h => by
    obtain ⟨hp, g, d, tk, os⟩ := s
    have hl := h.1
    replace h := h.2
    have hsub := sub_enumerate
    have it1 : ∀ {A2 : Around} {E2 : Value → Shared → Prop} {Q2 : Value → Shared → Prop}, Q2 (.ref hp.objs.size) ⟨hp.push (tupIt t), g, d, tk, os⟩ → wpAny (model prog w) A2 (pyIter (.ref t)) Q2 E2 ⟨hp, g, d, tk, os⟩ := fun q => (begins_tuple t items).iter prog w _ _ _ _ hl q
    wp_walk using it1
    refine wpAny_stack_any fun st => wpAny_pure ?_
    split
    · rename_i c _ _ _ _ _
      cases (c == Value.type "enumerate") <;>
        · wp_walk using it1
          exact ⟨_, rfl, h⟩
    · wp_walk using it1
      exact ⟨_, rfl, h⟩
theorem call_enT {prog : Program} {w : World} {A : Around} {E : Value → Shared → Prop} {s : Shared} {t : Addr} {items : Array Value} {Q : Value → Shared → Prop} (hL : s.heap.IsTuple t items)
    (h : ∀ h', IsEnum h' (s.heap.objs.size + 1) s.heap.objs.size 0 .none → h'.IsTupleIter s.heap.objs.size t 0 → (∀ b o, s.heap.get? b = some o → h'.get? b = some o) → Q (.ref (s.heap.objs.size + 1)) { s with heap := h' }) :
    wpAny (model prog w) A (call (.type "enumerate") [.ref t]) Q E s := by
  have hz : (s.heap.push (tupIt t)).objs.size = s.heap.objs.size + 1 := Heap.size_push ..
  have g1 : ((s.heap.push (tupIt t)).push (enObj s.heap.objs.size)).get? (s.heap.objs.size + 1) = some (enObj s.heap.objs.size) := hz ▸ Heap.get?_push_size _ rfl
  have g0 : ((s.heap.push (tupIt t)).push (enObj s.heap.objs.size)).get? s.heap.objs.size = some (tupIt t) := Heap.get?_push_of_some _ (Heap.get?_push_size _ rfl)
  refine callType_new F.called_enumerate (by decide) (F.typeCall_enumerate_1 _) (F.newCall_enumerate_1 _) (fun ob => F.args_object_init_2 ob _) F.entry_enumerate_new en_made ⟨hL, ?_⟩
  show _ ∧ _
  rw [hz]
  exact ⟨⟨_, g1, rfl⟩, h _ g1 ⟨_, g0, rfl, rfl⟩ fun b o x => Heap.get?_push_of_some _ (Heap.get?_push_of_some _ x)⟩
def iEnumA (K : PySem.W.Frag) (ta : TA) : TI := fun σ H R => ta σ H fun vs H1 => ∃ a xs, vs = [.ref a] ∧ ((SqL K H1 a xs ∧ R (Ite K a) H1) ∨ (SqT K H1 a xs ∧ R (IteT K a) H1))
theorem pi_enA {X : Cx} {e : Expr} {ta : TA} {p pos tpos : Pos} {elts : List Expr} {kk : Nat} (hg : Gl X "enumerate") (hm : X.mg "enumerate" = none) (ha : PA X [e] ta) (hs : starEach [e] X.env = [(false, eval e X.env)] := by rfl) :
    PI X (.Tuple elts kk tpos) (.Call (.Name "enumerate" p) [e] [] pos) (iEnumA X.K ta) := by
  refine ⟨fun pins s σ H R I h => ?_⟩
  refine Call_ (ld_blt I hg hm boot_enumerate (PyProof.Rows.callWith_type1 (thn (ha.run pos pins s σ H _ I h) fun us s1 ⟨vs, H1, I1, r1, q1⟩ => ?_) hs rfl))
  obtain ⟨a, xs, ex, q⟩ := q1
  subst ex
  cases r1 with
  | cons r rr =>
    cases rr
    cases r
    have new : ∀ N : Nat, s1.heap.objs.size ≤ N → FpOk X pins H1 N := fun N hN => I1.fpOk hN (I1.hok.fresh hN)
    have two : ∀ b, b ∈ [s1.heap.objs.size + 1, s1.heap.objs.size] → FpOk X pins H1 b := fun b hb => by
      rcases List.mem_cons.mp hb with z | z
      · exact z ▸ new _ (Nat.le_succ _)
      · exact (List.mem_singleton.mp z) ▸ new _ (Nat.le_refl _)
    rcases q with ⟨hq, q⟩ | ⟨hq, q⟩
    · obtain ⟨its, rv, p', hz⟩ := I1.list hq
      refine call_enumerate_list p'.isList fun h' he hit hsz hk => wpAny_pyIter_enum he ?_
      have I2 : Inv X pins σ H1 { s1 with heap := h' } := I1.kept (t' := s1.toks) hk
      exact ⟨s1.heap.objs.size + 1, [s1.heap.objs.size + 1, s1.heap.objs.size], _, _, H1, rfl, I2, turn_enum a (s1.heap.objs.size + 1) s1.heap.objs.size, ⟨⟨.none, he⟩, hit, Nat.succ_ne_self _⟩, two, q⟩
    · obtain ⟨its, rv, p', hz⟩ := I1.tuple hq
      obtain ⟨o1, ho1, _⟩ := id p'
      have hal : a < s1.heap.objs.size := Heap.lt_size ho1
      refine call_enT (items := its.toArray) p' fun h' he hit hk => wpAny_pyIter_enum he ?_
      have I2 : Inv X pins σ H1 { s1 with heap := h' } := I1.kept (t' := s1.toks) hk
      exact ⟨s1.heap.objs.size + 1, [s1.heap.objs.size + 1, s1.heap.objs.size], _, _, H1, rfl, I2, turn_enT (Nat.succ_ne_self _) (Nat.ne_of_lt hal) (Nat.ne_of_gt (Nat.lt_succ_of_lt hal)), ⟨⟨.none, he⟩, hit⟩, two, q⟩
/-! ### on data -/
/-- numbered items, as enumerate yields them -/
def enumD (xs : List D) : List D := xs.zipIdx.map fun p => .tup [.int p.2, p.1]
theorem enumD_len {xs : List D} : (enumD xs).length = xs.length := by unfold enumD; rw [List.length_map, List.length_zipIdx]
theorem enumD_get {xs : List D} {i : Nat} {x : D} (h : xs[i]? = some x) : (enumD xs)[i]? = some (.tup [.int (i : Nat), x]) := by
  unfold enumD
  rw [List.getElem?_map, List.getElem?_zipIdx, h]
  show some (D.tup [D.int ((0 + i : Nat) : Int), x]) = _
  rw [Nat.zero_add]
@[irreducible] def enumK (R : List D → (M → Prop) → M → Prop) (a : D) (m1 : M) : Prop := Box <| match res m1 a with
  | .tup xs => R (enumD xs) (fun _ => True) m1
  | x => ∃ xs, lsD x = some xs ∧ R (enumD xs) (fun m' => lsD (res m' a) = some xs) m1
def iEnumU (ta : TA2) : TI2 := fun g m R => ta g m fun ds m1 => match ds with
  | [a] => enumK R a m1
  | _ => False
theorem enumK_tup {R : List D → (M → Prop) → M → Prop} {a : D} {m1 : M} {xs : List D} (e1 : res m1 a = .tup xs) (h : R (enumD xs) (fun _ => True) m1) : enumK R a m1 := by unfold enumK; refine ⟨?_⟩; rw [e1]; exact h
theorem enumK_lst {R : List D → (M → Prop) → M → Prop} {a : D} {m1 : M} {xs : List D} (e1 : lsD (res m1 a) = some xs) (h : R (enumD xs) (fun m' => lsD (res m' a) = some xs) m1) : enumK R a m1 := by
  unfold enumK; refine ⟨?_⟩
  split
  · rename_i q; rw [q] at e1; cases e1
  · exact ⟨xs, e1, h⟩
section
variable {X : Cx} {ω : Bx} {e : Expr}
theorem Reps.one {K : PySem.W.Frag} {G : Hp} {vs : List V} {a : D} (r : Reps K G vs [a]) : ∃ v, vs = [v] ∧ Rep K G v a := by
  cases r with
  | cons r1 r2 =>
    cases r2
    exact ⟨_, rfl, r1⟩
theorem en_step {K : PySem.W.Frag} {m : M} {H : Hp} (hm : MemOk K m H) {T : Addr} (hT : H T = none) {x : V} {dx : D} {i : Nat} (rx : Rep K (hid m H) x dx) :
    Step K m H m (upd H T (.tup [.int (i : Nat), x])) ∧ Rep K (hid m (upd H T (.tup [.int (i : Nat), x]))) (.ref T) (.tup [.int (i : Nat), dx]) := by
  have st := Step.new (K := K) hm hT (o := .tup [.int (i : Nat), x])
  exact ⟨st, .tup (SqT.of (Step.new_at hm hT)) (.cons (.int _) (.cons (rx.mono st.ex) .nil))⟩
theorem enumU {ta : TA2} {p pos tpos : Pos} {elts : List Expr} {kk : Nat} (hg : Gl X "enumerate") (hm : X.mg "enumerate" = none) (ha : PA2 X ω [e] ta)
    (hs : starEach [e] X.env = [(false, eval e X.env)] := by rfl) :
    PI2 X ω (.Tuple elts kk tpos) (.Call (.Name "enumerate" p) [e] [] pos) (iEnumU ta) :=
  (pi_enA hg hm pa_sem hs).to2 fun σ H g m R S hmm q => (ha.sem S hmm q).mono fun vs H1 ⟨ds, m1, s1, r1, q1⟩ => by
    dsimp only at q1
    split at q1
    · rename_i a
      obtain ⟨v1, rfl, ra⟩ := r1.one
      unfold enumK at q1; replace q1 := q1.out
      split at q1
      · rename_i xs e1
        obtain ⟨A, us, rfl, h1, h2⟩ := tupOf ra e1
        have ta := repT ra e1
        refine ⟨A, us, rfl, .inr ⟨h1, _, _, m1, s1, ⟨fun i m' H' st hk hi => ?_, fun i m' H' st hk hi => ?_⟩, q1⟩⟩
        · obtain ⟨A', us', e3, k1, k2⟩ := tupOf (m := m') (ta.mono st.ex) rfl
          cases e3
          rw [enumD_len] at hi
          obtain ⟨dx, x, hdx, hx, rx⟩ := k2.inj_get (i := i) hi
          refine ⟨⟨us', x, k1, hx⟩, fun v H'' yy => ?_⟩
          obtain ⟨T, x', rfl, hT, rfl, g1⟩ := yy
          have := g1 _ k1
          rw [hx] at this; cases this
          obtain ⟨st2, rr⟩ := en_step st.mem hT rx
          exact ⟨_, enumD_get hdx, st2, rr⟩
        · obtain ⟨A', us', e3, k1, k2⟩ := tupOf (m := m') (ta.mono st.ex) rfl
          cases e3
          rw [enumD_len] at hi
          exact ⟨us', k1, by rw [k2.length]; omega⟩
      · obtain ⟨xs, e1, q1⟩ := q1
        obtain ⟨A, us, rfl, h1, h2⟩ := lstOf ra s1.mem e1
        refine ⟨A, us, rfl, .inl ⟨h1, _, _, m1, s1, ⟨fun i m' H' st hk hi => ?_, fun i m' H' st hk hi => ?_⟩, q1⟩⟩
        · obtain ⟨A', us', e3, k1, k2⟩ := lstOf (ra.mono st.ex) st.mem hk
          cases e3
          rw [enumD_len] at hi
          obtain ⟨dx, x, hdx, hx, rx⟩ := k2.inj_get (i := i) hi
          refine ⟨⟨us', x, k1, hx⟩, fun v H'' yy => ?_⟩
          obtain ⟨T, x', rfl, hT, rfl, g1⟩ := yy
          have := g1 _ k1
          rw [hx] at this; cases this
          obtain ⟨st2, rr⟩ := en_step st.mem hT rx
          exact ⟨_, enumD_get hdx, st2, rr⟩
        · obtain ⟨A', us', e3, k1, k2⟩ := lstOf (ra.mono st.ex) st.mem hk
          cases e3
          rw [enumD_len] at hi
          exact ⟨us', k1, by rw [k2.length]; omega⟩
    · exact q1.elim
end
end Z

/-! Z46: tables told by functions: turning, what they say, how great their numbers are. -/
namespace Z
/-- a reckoning: rests by places, shares by variables -/
structure Ry where
  re : Nat → Rat
  sh : Int → Rat
structure Tb where
  own : List Int
  free : List Int
  row : Int → Ry
  goal : Nat → Ry
def sumF : List Int → (Int → Rat) → Rat
  | [], _ => 0
  | f :: r, g => g f + sumF r g
theorem sumF_congr {g h : Int → Rat} : ∀ {fs : List Int}, (∀ f ∈ fs, g f = h f) → sumF fs g = sumF fs h
  | [], _ => rfl
  | f :: r, k => by
    show g f + sumF r g = h f + sumF r h
    rw [k f List.mem_cons_self, sumF_congr fun x hx => k x (List.mem_cons_of_mem _ hx)]
theorem sumF_perm {g : Int → Rat} {fs gs : List Int} (h : fs.Perm gs) : sumF fs g = sumF gs g := by
  induction h with
  | nil => rfl
  | cons x _ ih => show _ + _ = _ + _; rw [ih]
  | swap x y l => show g y + (g x + sumF l g) = g x + (g y + sumF l g); grind
  | trans _ _ h1 h2 => exact h1.trans h2
theorem sumF_zero : ∀ {fs : List Int}, sumF fs (fun _ => 0) = 0
  | [] => rfl
  | f :: r => by show 0 + sumF r (fun _ => 0) = 0; rw [sumF_zero]; grind
theorem sumF_none {g : Int → Rat} {fs : List Int} (h : ∀ f ∈ fs, g f = 0) : sumF fs g = 0 := (sumF_congr h).trans sumF_zero
theorem sumF_add {g h : Int → Rat} : ∀ {fs : List Int}, sumF fs (fun f => g f + h f) = sumF fs g + sumF fs h
  | [] => by show (0 : Rat) = 0 + 0; grind
  | f :: r => by show (g f + h f) + sumF r _ = (g f + sumF r g) + (h f + sumF r h); rw [sumF_add]; grind
theorem sumF_mul {g : Int → Rat} {a : Rat} : ∀ {fs : List Int}, sumF fs (fun f => a * g f) = a * sumF fs g
  | [] => by show (0 : Rat) = a * 0; grind
  | f :: r => by show a * g f + sumF r _ = a * (g f + sumF r g); rw [sumF_mul]; grind
theorem sumF_out {g : Int → Rat} {fs : List Int} {z : Int} (h : z ∈ fs) : sumF fs g = g z + sumF (fs.erase z) g := sumF_perm (List.perm_cons_erase h)
/-- one thing put in where it belongs -/
def insS (i : Int) : List Int → List Int
  | [] => [i]
  | x :: r => if i ≤ x then i :: x :: r else x :: insS i r
theorem insS_perm {i : Int} : ∀ {l : List Int}, (insS i l).Perm (i :: l)
  | [] => .refl _
  | x :: r => by
    unfold insS
    split
    · exact .refl _
    · exact (List.Perm.cons x insS_perm).trans (.swap i x r)
theorem insS_mem {i x : Int} {l : List Int} : x ∈ insS i l ↔ x = i ∨ x ∈ l := insS_perm.mem_iff.trans List.mem_cons
theorem insS_sorted {i : Int} : ∀ {l : List Int}, l.Pairwise (· < ·) → i ∉ l → (insS i l).Pairwise (· < ·)
  | [], _, _ => List.pairwise_singleton _ _
  | x :: r, h, hi => by
    have ⟨h1, h2⟩ := List.pairwise_cons.mp h
    unfold insS
    split
    · rename_i hx
      have hix : i < x := Int.lt_iff_le_and_ne.mpr ⟨hx, fun e => hi (e ▸ List.mem_cons_self)⟩
      exact List.pairwise_cons.mpr ⟨fun y hy => (List.mem_cons.mp hy).elim (fun e => e ▸ hix) fun hy => Int.lt_trans hix (h1 y hy), h⟩
    · rename_i hx
      refine List.pairwise_cons.mpr ⟨fun y hy => ?_, insS_sorted h2 fun h => hi (List.mem_cons_of_mem _ h)⟩
      rcases insS_mem.mp hy with e | hy
      · omega
      · exact h1 y hy
/-- what a reckoning comes to; u = 1 with its rest, u = 0 without -/
def ev (y : Ry) (c : Nat) (fs : List Int) (u : Rat) (v : Int → Rat) : Rat := y.re c * u + sumF fs fun f => y.sh f * v f
theorem ev_congr {y : Ry} {c : Nat} {fs : List Int} {u : Rat} {v w : Int → Rat} (h : ∀ f ∈ fs, v f = w f) : ev y c fs u v = ev y c fs u w := by
  unfold ev
  rw [sumF_congr (h := fun f => y.sh f * w f) fun f hf => by rw [h f hf]]
def swV (i z k : Int) : Int := if k = i then z else k
def solY (i z : Int) (y : Ry) : Ry := ⟨fun c => -1 / y.sh z * y.re c, fun f => if f = i then 1 / y.sh z else -1 / y.sh z * y.sh f⟩
def putY (i z : Int) (o y : Ry) : Ry := ⟨fun c => y.re c + y.sh z * o.re c, fun f => if f = i then y.sh z * o.sh i else y.sh f + y.sh z * o.sh f⟩
/-- a table turned by an own variable and a free one -/
def turnT (T : Tb) (i z : Int) : Tb where
  own := T.own.map (swV i z)
  free := insS i (T.free.erase z)
  row := fun x => if x = z then solY i z (T.row i) else putY i z (solY i z (T.row i)) (T.row x)
  goal := fun k => putY i z (solY i z (T.row i)) (T.goal k)
structure TbW (T : Tb) : Prop where
  nd : (T.own ++ T.free).Nodup
  inc : T.free.Pairwise (· < ·)
theorem TbW.ndo {T : Tb} (h : TbW T) : T.own.Nodup := (List.nodup_append.mp h.nd).1
theorem TbW.ndf {T : Tb} (h : TbW T) : T.free.Nodup := (List.nodup_append.mp h.nd).2.1
theorem TbW.dis {T : Tb} (h : TbW T) {i : Int} (h1 : i ∈ T.own) (h2 : i ∈ T.free) : False := (List.nodup_append.mp h.nd).2.2 i h1 i h2 rfl
theorem mem_swV {own : List Int} {i z x : Int} (hi : i ∈ own) : x ∈ own.map (swV i z) ↔ x = z ∨ (x ∈ own ∧ x ≠ i) := by
  refine ⟨fun h => ?_, fun h => ?_⟩
  · obtain ⟨v, hv, rfl⟩ := List.mem_map.mp h
    unfold swV
    by_cases e : v = i
    · rw [if_pos e]; exact .inl rfl
    · rw [if_neg e]; exact .inr ⟨hv, e⟩
  · rcases h with rfl | ⟨h1, h2⟩
    · exact List.mem_map.mpr ⟨i, hi, if_pos rfl⟩
    · exact List.mem_map.mpr ⟨x, h1, if_neg h2⟩
theorem swV_perm {own : List Int} {i z : Int} (hn : own.Nodup) (hi : i ∈ own) : (own.map (swV i z)).Perm (z :: own.erase i) := by
  refine ((List.perm_cons_erase hi).map (swV i z)).trans ?_
  rw [List.map_cons]
  have e : (own.erase i).map (swV i z) = own.erase i := (List.map_congr_left fun x hx => show swV i z x = id x from if_neg fun e => absurd (e ▸ hx) (by rw [hn.mem_erase_iff]; exact fun h => h.1 rfl)).trans (List.map_id _)
  rw [e, show swV i z i = z from if_pos rfl]
theorem mem_freeT {T : Tb} (h : TbW T) {i z x : Int} : x ∈ (turnT T i z).free ↔ x = i ∨ (x ∈ T.free ∧ x ≠ z) := by
  show x ∈ insS i (T.free.erase z) ↔ _
  rw [insS_mem, h.ndf.mem_erase_iff]
  exact ⟨fun k => k.imp id fun k => ⟨k.2, k.1⟩, fun k => k.imp id fun k => ⟨k.2, k.1⟩⟩
theorem turn_vars {T : Tb} (h : TbW T) {i z : Int} (hi : i ∈ T.own) (hz : z ∈ T.free) : (T.own ++ T.free).Perm ((turnT T i z).own ++ (turnT T i z).free) := by
  have h1 := swV_perm (z := z) h.ndo hi
  have h2 : (turnT T i z).free.Perm (i :: T.free.erase z) := insS_perm
  have h3 := List.perm_cons_erase hi
  have h4 := List.perm_cons_erase hz
  refine ((h3.append h4).trans ?_).trans (h1.append h2).symm
  refine List.Perm.trans (List.Perm.cons i List.perm_middle) ?_
  refine List.Perm.trans ?_ (List.Perm.cons z List.perm_middle.symm)
  exact .swap z i _
theorem TbW.turn {T : Tb} (h : TbW T) {i z : Int} (hi : i ∈ T.own) (hz : z ∈ T.free) : TbW (turnT T i z) :=
  ⟨(turn_vars h hi hz).nodup_iff.mp h.nd, insS_sorted (h.inc.sublist List.erase_sublist) fun k => h.dis hi (List.mem_of_mem_erase k)⟩
/-! ### what a table says -/
def Holds (T : Tb) (c : Nat) (u : Rat) (v : Int → Rat) : Prop := ∀ i ∈ T.own, v i = ev (T.row i) c T.free u v
theorem ev_sol {T : Tb} (h : TbW T) {i z : Int} (hi : i ∈ T.own) (hz : z ∈ T.free) {y : Ry} (ha : y.sh z ≠ 0) {c : Nat} {u : Rat} {v : Int → Rat} :
    v z = ev (solY i z y) c (turnT T i z).free u v ↔ v i = ev y c T.free u v := by
  unfold ev
  rw [sumF_perm (show (turnT T i z).free.Perm (i :: T.free.erase z) from insS_perm), sumF_out hz]
  have e : sumF (T.free.erase z) (fun f => (solY i z y).sh f * v f) = -1 / y.sh z * sumF (T.free.erase z) (fun f => y.sh f * v f) := by
    rw [← sumF_mul]
    refine sumF_congr fun f hf => ?_
    have : f ≠ i := fun e => h.dis hi (e ▸ List.mem_of_mem_erase hf)
    show (if f = i then _ else _) * v f = _
    rw [if_neg this]
    grind
  show v z = (-1 / y.sh z * y.re c) * u + ((if i = i then 1 / y.sh z else _) * v i + sumF (T.free.erase z) _) ↔ _
  rw [if_pos rfl, e]
  generalize sumF (T.free.erase z) (fun f => y.sh f * v f) = S
  constructor
  · intro k; grind
  · intro k; grind
theorem ev_put {T : Tb} (h : TbW T) {i z : Int} (hi : i ∈ T.own) (hz : z ∈ T.free) {o y : Ry} {c : Nat} {u : Rat} {v : Int → Rat} (k : v z = ev o c (turnT T i z).free u v) :
    ev (putY i z o y) c (turnT T i z).free u v = ev y c T.free u v := by
  unfold ev at k ⊢
  have hp : (turnT T i z).free.Perm (i :: T.free.erase z) := insS_perm
  rw [sumF_perm hp] at k
  rw [sumF_perm hp, sumF_out hz]
  have e : sumF (T.free.erase z) (fun f => (putY i z o y).sh f * v f) = sumF (T.free.erase z) (fun f => y.sh f * v f) + y.sh z * sumF (T.free.erase z) (fun f => o.sh f * v f) := by
    rw [← sumF_mul, ← sumF_add]
    refine sumF_congr fun f hf => ?_
    have : f ≠ i := fun e => h.dis hi (e ▸ List.mem_of_mem_erase hf)
    show (if f = i then _ else _) * v f = _
    rw [if_neg this]
    grind
  show (y.re c + y.sh z * o.re c) * u + ((if i = i then y.sh z * o.sh i else _) * v i + sumF (T.free.erase z) _) = _
  rw [if_pos rfl, e]
  replace k : v z = o.re c * u + (o.sh i * v i + sumF (T.free.erase z) (fun f => o.sh f * v f)) := k
  generalize sumF (T.free.erase z) (fun f => y.sh f * v f) = S at k ⊢
  generalize sumF (T.free.erase z) (fun f => o.sh f * v f) = R at k ⊢
  grind
/-- two tables that say the same -/
structure Eqv (T T' : Tb) : Prop where
  vars : (T.own ++ T.free).Perm (T'.own ++ T'.free)
  say : ∀ c u v, Holds T c u v ↔ Holds T' c u v
  goals : ∀ k c u v, Holds T c u v → ev (T.goal k) c T.free u v = ev (T'.goal k) c T'.free u v
theorem Eqv.refl (T : Tb) : Eqv T T := ⟨.refl _, fun _ _ _ => Iff.rfl, fun _ _ _ _ _ => rfl⟩
theorem Eqv.symm {T T' : Tb} (h : Eqv T T') : Eqv T' T := ⟨h.vars.symm, fun c u v => (h.say c u v).symm, fun k c u v hv => (h.goals k c u v ((h.say c u v).mpr hv)).symm⟩
theorem Eqv.trans {T T' T'' : Tb} (h : Eqv T T') (h2 : Eqv T' T'') : Eqv T T'' :=
  ⟨h.vars.trans h2.vars, fun c u v => (h.say c u v).trans (h2.say c u v), fun k c u v hv => (h.goals k c u v hv).trans (h2.goals k c u v ((h.say c u v).mp hv))⟩
theorem Eqv.turn {T : Tb} (h : TbW T) {i z : Int} (hi : i ∈ T.own) (hz : z ∈ T.free) (ha : (T.row i).sh z ≠ 0) : Eqv T (turnT T i z) := by
  have hzo : z ∉ T.own := fun k => h.dis k hz
  refine ⟨turn_vars h hi hz, fun c u v => ⟨fun hv x hx => ?_, fun hv x hx => ?_⟩, fun k c u v hv => ?_⟩
  · have hs := (ev_sol h hi hz ha (c := c)).mpr (hv i hi)
    show v x = ev (if x = z then _ else _) c _ u v
    rcases (mem_swV hi).mp hx with rfl | ⟨h1, h2⟩
    · rw [if_pos rfl]; exact hs
    · rw [if_neg fun (e : x = z) => hzo (e ▸ h1), ev_put h hi hz hs]
      exact hv x h1
  · have hs : v z = ev (solY i z (T.row i)) c (turnT T i z).free u v := by
      have := hv z ((mem_swV hi).mpr (.inl rfl))
      rw [show (turnT T i z).row z = solY i z (T.row i) from if_pos rfl] at this
      exact this
    by_cases e : x = i
    · subst e
      exact (ev_sol h hi hz ha).mp hs
    · have := hv x ((mem_swV hi).mpr (.inr ⟨hx, e⟩))
      rw [show (turnT T i z).row x = putY i z (solY i z (T.row i)) (T.row x) from if_neg fun (e : x = z) => hzo (e ▸ hx), ev_put h hi hz hs] at this
      exact this
  · have hs := (ev_sol h hi hz ha (c := c)).mpr (hv i hi)
    exact (ev_put h hi hz hs).symm
/-- the values of all by those of the free ones -/
def bas (T : Tb) (c : Nat) (u : Rat) (x : Int → Rat) (w : Int) : Rat := if w ∈ T.own then ev (T.row w) c T.free u x else x w
theorem bas_own {T : Tb} {c : Nat} {u : Rat} {x : Int → Rat} {w : Int} (h : w ∈ T.own) : bas T c u x w = ev (T.row w) c T.free u x := if_pos h
theorem bas_not {T : Tb} {c : Nat} {u : Rat} {x : Int → Rat} {w : Int} (h : w ∉ T.own) : bas T c u x w = x w := if_neg h
theorem bas_free {T : Tb} (hT : TbW T) {c : Nat} {u : Rat} {x : Int → Rat} {w : Int} (h : w ∈ T.free) : bas T c u x w = x w := bas_not fun k => hT.dis k h
theorem bas_ev {T : Tb} (hT : TbW T) {c : Nat} {u : Rat} {x : Int → Rat} {y : Ry} {d : Nat} {u' : Rat} : ev y d T.free u' (bas T c u x) = ev y d T.free u' x := ev_congr fun f hf => bas_free hT hf
theorem bas_holds {T : Tb} (hT : TbW T) (c : Nat) (u : Rat) (x : Int → Rat) : Holds T c u (bas T c u x) := fun i hi => by rw [bas_own hi, bas_ev hT]
def unit (j : Int) (w : Int) : Rat := if w = j then 1 else 0
theorem ev_zero {y : Ry} {c : Nat} {fs : List Int} {u : Rat} : ev y c fs u (fun _ => 0) = y.re c * u := by
  unfold ev
  rw [sumF_none fun f _ => by grind]
  grind
theorem sumF_unit {g : Int → Rat} {fs : List Int} {j : Int} (hn : fs.Nodup) (h : j ∈ fs) : sumF fs (fun f => g f * unit j f) = g j := by
  rw [sumF_out h, sumF_none (fs := fs.erase j) fun f hf => ?_]
  · unfold unit; rw [if_pos rfl]; grind
  · have : f ≠ j := fun e => absurd (e ▸ hf) (by rw [hn.mem_erase_iff]; exact fun h => h.1 rfl)
    unfold unit; rw [if_neg this]; grind
theorem ev_unit {y : Ry} {c : Nat} {fs : List Int} {j : Int} (hn : fs.Nodup) (h : j ∈ fs) : ev y c fs 0 (unit j) = y.sh j := by
  unfold ev
  rw [sumF_unit hn h]
  grind
theorem Eqv.mem {T T' : Tb} (E : Eqv T T') {w : Int} : w ∈ T.own ∨ w ∈ T.free ↔ w ∈ T'.own ∨ w ∈ T'.free := by
  have := E.vars.mem_iff (a := w)
  rwa [List.mem_append, List.mem_append] at this
/-- with the same own variables two tables that say the same are one -/
theorem same_free {T T' : Tb} (h : TbW T) (h' : TbW T') (E : Eqv T T') (ho : ∀ w, w ∈ T.own ↔ w ∈ T'.own) {f : Int} : f ∈ T.free ↔ f ∈ T'.free := by
  have := E.mem (w := f)
  constructor
  · intro k
    rcases this.mp (.inr k) with k2 | k2
    · exact absurd k fun k => h.dis ((ho f).mpr k2) k
    · exact k2
  · intro k
    rcases this.mpr (.inr k) with k2 | k2
    · exact absurd k fun k => h'.dis ((ho f).mp k2) k
    · exact k2
theorem same_lists {fs gs : List Int} (h1 : fs.Pairwise (· < ·)) (h2 : gs.Pairwise (· < ·)) (h : ∀ x, x ∈ fs ↔ x ∈ gs) : fs = gs := by
  have n1 : fs.Nodup := h1.imp fun h => Int.ne_of_lt h
  have n2 : gs.Nodup := h2.imp fun h => Int.ne_of_lt h
  have hp : fs.Perm gs := (List.perm_ext_iff_of_nodup n1 n2).mpr h
  exact List.Perm.eq_of_pairwise (fun a b _ _ x y => absurd x (Int.lt_asymm y)) h1 h2 hp
theorem same_ev {T T' : Tb} (h : TbW T) (h' : TbW T') (E : Eqv T T') (ho : ∀ w, w ∈ T.own ↔ w ∈ T'.own) (c : Nat) (u : Rat) (x : Int → Rat) : (∀ i ∈ T.own, ev (T.row i) c T.free u x = ev (T'.row i) c T'.free u x) ∧ ∀ k, ev (T.goal k) c T.free u x = ev (T'.goal k) c T'.free u x := by
  have k := bas_holds h c u x
  have k' := (E.say c u _).mp k
  have hb : ∀ f ∈ T'.free, bas T c u x f = x f := fun f hf => bas_free h ((same_free h h' E ho).mpr hf)
  refine ⟨fun i hi => ?_, fun g => ?_⟩
  · have := k' i ((ho i).mp hi)
    rw [bas_own hi, ev_congr hb] at this
    exact this
  · have := E.goals g c u _ k
    rw [bas_ev h, ev_congr hb] at this
    exact this
theorem same_tab {T T' : Tb} (h : TbW T) (h' : TbW T') (E : Eqv T T') (ho : ∀ w, w ∈ T.own ↔ w ∈ T'.own) :
    T.free = T'.free ∧ (∀ i ∈ T.own, (∀ c, (T.row i).re c = (T'.row i).re c) ∧ ∀ f ∈ T.free, (T.row i).sh f = (T'.row i).sh f) ∧ ∀ k, (∀ c, (T.goal k).re c = (T'.goal k).re c) ∧ ∀ f ∈ T.free, (T.goal k).sh f = (T'.goal k).sh f := by
  have hf := same_lists h.inc h'.inc fun x => same_free h h' E ho
  have one : ∀ q : Rat, q * 1 = q := fun q => by grind
  refine ⟨hf, fun i hi => ⟨fun c => ?_, fun f hm => ?_⟩, fun k => ⟨fun c => ?_, fun f hm => ?_⟩⟩
  · have := (same_ev h h' E ho c 1 fun _ => 0).1 i hi
    rwa [ev_zero, ev_zero, one, one] at this
  · have := (same_ev h h' E ho 0 0 (unit f)).1 i hi
    rwa [ev_unit h.ndf hm, ev_unit h'.ndf (hf ▸ hm)] at this
  · have := (same_ev h h' E ho c 1 fun _ => 0).2 k
    rwa [ev_zero, ev_zero, one, one] at this
  · have := (same_ev h h' E ho 0 0 (unit f)).2 k
    rwa [ev_unit h.ndf hm, ev_unit h'.ndf (hf ▸ hm)] at this
/-- a variable that is own in one table alone can be turned in -/
theorem exch {T T' : Tb} (h : TbW T) (h' : TbW T') (E : Eqv T T') {j : Int} (h1 : j ∈ T'.own) (h2 : j ∉ T.own) : ∃ i ∈ T.own, i ∉ T'.own ∧ (T.row i).sh j ≠ 0 := by
  refine Classical.byContradiction fun no => ?_
  have hjf : j ∈ T.free := (E.mem.mpr (.inl h1)).resolve_left h2
  have k := bas_holds h 0 0 (unit j)
  have k' := (E.say 0 0 _).mp k j h1
  rw [bas_not h2] at k'
  have hz : ev (T'.row j) 0 T'.free 0 (bas T 0 0 (unit j)) = 0 := by
    rw [ev_congr (w := fun _ => 0) fun f hf => ?_, ev_zero]
    · grind
    · have hfo : f ∉ T'.own := fun k => h'.dis k hf
      by_cases e : f ∈ T.own
      · rw [bas_own e, ev_unit h.ndf hjf]
        exact Classical.byContradiction fun k => no ⟨f, e, hfo, k⟩
      · rw [bas_not e]
        exact if_neg fun (e : f = j) => hfo (e ▸ h1)
  rw [hz] at k'
  unfold unit at k'
  rw [if_pos rfl] at k'
  exact absurd k' (by decide)
end Z

/-! Z47: how great the numbers of a turned table are. -/
namespace Z
/-- a number over a given under, within n bits -/
def Ud (n : Nat) (d : Int) (a : Rat) : Prop := ∃ p : Int, a * (d : Rat) = (p : Rat) ∧ p.natAbs < 2 ^ n
theorem Ud.sz {n : Nat} {d : Int} {a : Rat} (h : Ud n d a) (h0 : 0 < d) (hd : d.natAbs < 2 ^ n) : Sz n a := by
  obtain ⟨p, e, hp⟩ := h
  have : (d : Rat) ≠ 0 := cast_ne (by omega)
  have ea : a = (p : Rat) / (d : Rat) := by grind
  unfold Sz
  rw [ea, ← fr_low h0]
  exact lowP_bd ⟨hp, hd⟩
/-- all numbers of a reckoning over one under, within n bits -/
def RB (n r : Nat) (fs : List Int) (y : Ry) : Prop := ∃ d : Int, 0 < d ∧ d.natAbs < 2 ^ n ∧ (∀ c, c < r → Ud n d (y.re c)) ∧ ∀ f ∈ fs, Ud n d (y.sh f)
theorem RB.re {n r c : Nat} {fs : List Int} {y : Ry} (h : RB n r fs y) (hc : c < r) : Sz n (y.re c) := by
  obtain ⟨d, h0, hd, h1, _⟩ := h
  exact (h1 c hc).sz h0 hd
theorem RB.sh {n r : Nat} {f : Int} {fs : List Int} {y : Ry} (h : RB n r fs y) (hf : f ∈ fs) : Sz n (y.sh f) := by
  obtain ⟨d, h0, hd, _, h1⟩ := h
  exact (h1 f hf).sz h0 hd
theorem RB.same {n r : Nat} {fs : List Int} {y z : Ry} (h : RB n r fs y) (h1 : ∀ c, y.re c = z.re c) (h2 : ∀ f ∈ fs, y.sh f = z.sh f) : RB n r fs z := by
  obtain ⟨d, h0, hd, k1, k2⟩ := h
  exact ⟨d, h0, hd, fun c hc => h1 c ▸ k1 c hc, fun f hf => h2 f hf ▸ k2 f hf⟩
theorem mulB {n k : Nat} {p q : Int} (hp : p.natAbs < 2 ^ n) (hq : q.natAbs < 2 ^ k) : (p * q).natAbs < 2 ^ (n + k) := by
  rw [Int.natAbs_mul, Nat.pow_add]
  exact Nat.mul_lt_mul'' hp hq
theorem lt_up {a n k : Nat} (h : a < 2 ^ n) (hk : n ≤ k) : a < 2 ^ k := Nat.lt_of_lt_of_le h (Nat.pow_le_pow_right (by decide) hk)
theorem addB {n : Nat} {p q : Int} (hp : p.natAbs < 2 ^ n) (hq : q.natAbs < 2 ^ n) : (p + q).natAbs < 2 ^ (n + 1) := by
  rw [Nat.pow_succ]
  have := Int.natAbs_add_le p q
  omega
theorem RB.mono {n k r : Nat} {fs : List Int} {y : Ry} (h : RB n r fs y) (hk : n ≤ k) : RB k r fs y := by
  obtain ⟨d, h0, hd, h1, h2⟩ := h
  exact ⟨d, h0, lt_up hd hk, fun c hc => let ⟨p, e, hp⟩ := h1 c hc; ⟨p, e, lt_up hp hk⟩, fun f hf => let ⟨p, e, hp⟩ := h2 f hf; ⟨p, e, lt_up hp hk⟩⟩
theorem RB.sol {T : Tb} (h : TbW T) {i z : Int} (hz : z ∈ T.free) {n r : Nat} {y : Ry} (ha : y.sh z ≠ 0) (k : RB n r T.free y) : RB n r (turnT T i z).free (solY i z y) := by
  obtain ⟨d, h0, hd, h1, h2⟩ := k
  obtain ⟨pz, ez, hpz⟩ := h2 z hz
  have hd0 : (d : Rat) ≠ 0 := cast_ne (by omega)
  have hp0 : pz ≠ 0 := fun e => by
    subst e
    have : y.sh z * (d : Rat) = 0 := by rw [ez]; rfl
    grind
  have hp1 : (pz : Rat) ≠ 0 := cast_ne hp0
  -- the sign
  obtain ⟨s, hs, es⟩ : ∃ s : Int, (s = 1 ∨ s = -1) ∧ 0 < s * pz := by
    rcases Int.lt_or_gt_of_ne hp0 with k | k
    · exact ⟨-1, .inr rfl, by omega⟩
    · exact ⟨1, .inl rfl, by omega⟩
  have ab : ∀ p : Int, (s * p).natAbs = p.natAbs := fun p => by
    rcases hs with rfl | rfl
    · rw [Int.one_mul]
    · omega
  have ss : (s : Rat) * (s : Rat) = 1 := by rcases hs with rfl | rfl <;> decide +kernel
  have un : ∀ x : Rat, Ud n d x → Ud n (s * pz) (-1 / y.sh z * x) := fun x ⟨p, e, hp⟩ => by
    refine ⟨-(s * p), ?_, by rw [Int.natAbs_neg, ab]; exact hp⟩
    push_cast
    have : y.sh z = (pz : Rat) / d := by grind
    rw [this]
    grind
  have u1 : Ud n (s * pz) (1 / y.sh z) := by
    refine ⟨s * d, ?_, by rw [ab]; exact hd⟩
    push_cast
    have : y.sh z = (pz : Rat) / d := by grind
    rw [this]
    grind
  refine ⟨s * pz, es, by rw [ab]; exact hpz, fun c hc => un _ (h1 c hc), fun f hf => ?_⟩
  show Ud n (s * pz) (if f = i then 1 / y.sh z else -1 / y.sh z * y.sh f)
  by_cases e : f = i
  · rw [if_pos e]; exact u1
  · rw [if_neg e]
    exact un _ (h2 f (((mem_freeT h).mp hf).resolve_left e).1)
theorem RB.put {T : Tb} (h : TbW T) {i z : Int} (hz : z ∈ T.free) {n r : Nat} {o y : Ry} (ko : RB n r (turnT T i z).free o) (k : RB n r T.free y) : RB (2 * n + 1) r (turnT T i z).free (putY i z o y) := by
  obtain ⟨d, h0, hd, h1, h2⟩ := k
  obtain ⟨e, g0, ge, g1, g2⟩ := ko
  obtain ⟨pb, eb, hb⟩ := h2 z hz
  have nn : n + n = 2 * n := by omega
  have add : ∀ x w : Rat, Ud n d x → Ud n e w → Ud (2 * n + 1) (d * e) (x + y.sh z * w) := fun x w ⟨p, e1, hp⟩ ⟨q, e2, hq⟩ => by
    refine ⟨p * e + pb * q, ?_, addB (by rw [← nn]; exact mulB hp ge) (by rw [← nn]; exact mulB hb hq)⟩
    push_cast
    grind
  have tim : ∀ w : Rat, Ud n e w → Ud (2 * n + 1) (d * e) (y.sh z * w) := fun w ⟨q, e2, hq⟩ => by
    refine ⟨pb * q, ?_, lt_up (mulB hb hq) (by omega)⟩
    push_cast
    grind
  refine ⟨d * e, Int.mul_pos h0 g0, lt_up (mulB hd ge) (by omega), fun c hc => add _ _ (h1 c hc) (g1 c hc), fun f hf => ?_⟩
  show Ud _ _ (if f = i then y.sh z * o.sh i else y.sh f + y.sh z * o.sh f)
  by_cases e1 : f = i
  · rw [if_pos e1]; exact tim _ (g2 i (e1 ▸ hf))
  · rw [if_neg e1]
    exact add _ _ (h2 f (((mem_freeT h).mp hf).resolve_left e1).1) (g2 f hf)
/-- a table whose reckonings are within n bits -/
structure TB (n r g : Nat) (T : Tb) : Prop where
  row : ∀ i ∈ T.own, RB n r T.free (T.row i)
  goal : ∀ k, k < g → RB n r T.free (T.goal k)
theorem TB.mono {n k r g : Nat} {T : Tb} (h : TB n r g T) (hk : n ≤ k) : TB k r g T := ⟨fun i hi => (h.row i hi).mono hk, fun j hj => (h.goal j hj).mono hk⟩
theorem TB.turn {T : Tb} (h : TbW T) {i z : Int} (hi : i ∈ T.own) (hz : z ∈ T.free) (ha : (T.row i).sh z ≠ 0) {n r g : Nat} (k : TB n r g T) : TB (2 * n + 1) r g (turnT T i z) := by
  have ks := (k.row i hi).sol h (i := i) hz ha
  refine ⟨fun x hx => ?_, fun j hj => RB.put h hz ks (k.goal j hj)⟩
  show RB _ r _ (if x = z then _ else _)
  rcases (mem_swV hi).mp hx with e | ⟨h1, h2⟩
  · rw [if_pos e]; exact ks.mono (by omega)
  · rw [if_neg fun (e : x = z) => h.dis (e ▸ h1) hz]
    exact RB.put h hz ks (k.row x h1)
/-- bits behind k turns -/
def gr : Nat → Nat → Nat
  | 0, n => n
  | k + 1, n => gr k (2 * n + 1)
theorem gr_le : ∀ {k n m : Nat}, n ≤ m → gr k n ≤ gr k m
  | 0, _, _, h => h
  | k + 1, n, m, h => gr_le (k := k) (by omega)
theorem gr_step {n : Nat} : ∀ {k m : Nat}, k ≤ m → gr k n ≤ gr m n
  | 0, 0, _ => Nat.le_refl _
  | 0, m + 1, _ => Nat.le_trans (gr_step (k := 0) (m := m) (Nat.zero_le _)) (gr_le (by omega))
  | k + 1, m + 1, h => gr_step (n := 2 * n + 1) (k := k) (m := m) (by omega)
theorem filt_less {p q : Int → Bool} : ∀ {l : List Int} {j : Int}, (∀ w ∈ l, q w = true → p w = true) → j ∈ l → p j = true → q j = false → (l.filter q).length < (l.filter p).length
  | x :: r, j, h, hj, h1, h2 => by
    have hr : ∀ {r : List Int}, (∀ w ∈ r, q w = true → p w = true) → (r.filter q).length ≤ (r.filter p).length := fun {r} h => by
      induction r with
      | nil => exact Nat.le_refl _
      | cons y t ih =>
        have ih := ih fun w hw => h w (List.mem_cons_of_mem _ hw)
        have hy := h y List.mem_cons_self
        rw [List.filter_cons, List.filter_cons]
        cases e : q y with
        | true =>
          rw [hy e, if_pos rfl, if_pos rfl]
          simpa using ih
        | false =>
          rw [if_neg (by decide)]
          split
          · exact Nat.le_trans ih (Nat.le_succ _)
          · exact ih
    rw [List.filter_cons, List.filter_cons]
    rcases List.mem_cons.mp hj with rfl | hj
    · rw [h1, h2, if_neg (by decide), if_pos rfl]
      exact Nat.lt_succ_of_le (hr fun w hw => h w (List.mem_cons_of_mem _ hw))
    · have ih := filt_less (fun w hw => h w (List.mem_cons_of_mem _ hw)) hj h1 h2
      have hx := h x List.mem_cons_self
      cases e : q x with
      | true =>
        rw [hx e, if_pos rfl, if_pos rfl]
        simpa using ih
      | false =>
        rw [if_neg (by decide)]
        split
        · exact Nat.lt_succ_of_lt ih
        · exact ih
/-- the own variables of a table that are not own in another -/
def newO (T T' : Tb) : List Int := T'.own.filter fun w => decide (w ∉ T.own)
theorem reach : ∀ (k : Nat) {n r g : Nat} {T T' : Tb}, TbW T → TbW T' → Eqv T T' → TB n r g T → (newO T T').length ≤ k → TB (gr k n) r g T' := by
  have base : ∀ {n r g : Nat} {T T' : Tb}, TbW T → TbW T' → Eqv T T' → TB n r g T → (∀ w ∈ T'.own, w ∈ T.own) → TB n r g T' := fun {n r g T T'} h h' E B hs => by
    have ho : ∀ w, w ∈ T.own ↔ w ∈ T'.own := fun w => ⟨fun hw => Classical.byContradiction fun no => by
      obtain ⟨i, hi, hi2, _⟩ := exch h' h E.symm hw no
      exact hi2 (hs i hi), hs w⟩
    obtain ⟨e, e1, e2⟩ := same_tab h h' E ho
    refine ⟨fun i hi => ?_, fun j hj => ?_⟩
    · have hio := (ho i).mpr hi
      rw [← e]
      exact (B.row i hio).same (e1 i hio).1 (e1 i hio).2
    · rw [← e]
      exact (B.goal j hj).same (e2 j).1 (e2 j).2
  intro k
  induction k with
  | zero =>
    intro n r g T T' h h' E B hl
    refine base h h' E B fun w hw => Classical.byContradiction fun no => ?_
    have : w ∈ newO T T' := List.mem_filter.mpr ⟨hw, decide_eq_true no⟩
    rw [List.eq_nil_of_length_eq_zero (Nat.le_zero.mp hl)] at this
    cases this
  | succ k ih =>
    intro n r g T T' h h' E B hl
    by_cases hs : ∀ w ∈ T'.own, w ∈ T.own
    · exact (base h h' E B hs).mono (gr_step (k := 0) (m := k + 1) (Nat.zero_le _))
    · obtain ⟨j, hj⟩ := Classical.not_forall.mp hs
      obtain ⟨hj, hj2⟩ := Classical.not_imp.mp hj
      obtain ⟨i, hi, hi2, ha⟩ := exch h h' E hj hj2
      have hjf : j ∈ T.free := (E.mem.mpr (.inl hj)).resolve_left hj2
      have E1 := Eqv.turn h hi hjf ha
      refine ih (h.turn hi hjf) h' (E1.symm.trans E) (B.turn h hi hjf ha) (Nat.le_of_lt_succ (Nat.lt_of_lt_of_le (filt_less (j := j) (fun w hw hq => ?_) hj (decide_eq_true hj2) ?_) hl))
      · refine decide_eq_true fun (k : w ∈ T.own) => of_decide_eq_true hq ((mem_swV hi).mpr (.inr ⟨k, fun e => hi2 (e ▸ hw)⟩))
      · exact decide_eq_false fun k => k ((mem_swV hi).mpr (.inl rfl))
theorem sub_len : ∀ {l m : List Int}, l.Nodup → (∀ w ∈ l, w ∈ m) → l.length ≤ m.length
  | [], _, _, _ => Nat.zero_le _
  | x :: r, m, hn, hs => by
    have ⟨h1, h2⟩ := List.nodup_cons.mp hn
    have hx := hs x List.mem_cons_self
    have ih := sub_len (l := r) (m := m.erase x) h2 fun w hw => (List.mem_erase_of_ne (fun (e : w = x) => h1 (e ▸ hw))).mpr (hs w (List.mem_cons_of_mem _ hw))
    rw [List.length_erase_of_mem hx] at ih
    have := List.length_pos_of_mem hx
    show r.length + 1 ≤ _
    omega
theorem newO_free {T T' : Tb} (h : TbW T) (h' : TbW T') (E : Eqv T T') : (newO T T').length ≤ T.free.length := by
  have hn : (newO T T').Nodup := h'.ndo.sublist List.filter_sublist
  exact sub_len hn fun w hw => by
    obtain ⟨h1, h2⟩ := List.mem_filter.mp hw
    exact (E.mem.mpr (.inl h1)).resolve_left (of_decide_eq_true h2)
theorem newO_own {T T' : Tb} : (newO T T').length ≤ T'.own.length := List.length_filter_le ..
end Z

/-! Z48: the least-variable rule goes round in no ring. -/
namespace Z
/-- the sign of the first number that isn't 0 -/
def lsg : List Rat → Int
  | [] => 0
  | a :: r => if a < 0 then -1 else if 0 < a then 1 else lsg r
theorem lsg_cases (xs : List Rat) : lsg xs = -1 ∨ lsg xs = 0 ∨ lsg xs = 1 := by
  induction xs with
  | nil => exact .inr (.inl rfl)
  | cons a r ih =>
    unfold lsg
    split
    · exact .inl rfl
    · split
      · exact .inr (.inr rfl)
      · exact ih
section
variable {α : Type}
theorem lsg_zero {js : List α} {x : α → Rat} (h : ∀ j ∈ js, x j = 0) : lsg (js.map x) = 0 := by
  induction js with
  | nil => rfl
  | cons j r ih =>
    rw [List.map_cons]
    unfold lsg
    rw [h j List.mem_cons_self, if_neg (by decide), if_neg (by decide)]
    exact ih fun k hk => h k (List.mem_cons_of_mem _ hk)
theorem lsg_of_zero {js : List α} {x : α → Rat} (h : lsg (js.map x) = 0) : ∀ j ∈ js, x j = 0 := by
  induction js with
  | nil => intro j hj; cases hj
  | cons j r ih =>
    rw [List.map_cons] at h
    unfold lsg at h
    split at h
    · cases h
    · split at h
      · cases h
      · rename_i h1 h2
        intro k hk
        rcases List.mem_cons.mp hk with rfl | hk
        · grind
        · exact ih h k hk
/-- a sum of two that aren't below noughts -/
theorem lsg_add {js : List α} {x y : α → Rat} (h1 : 0 ≤ lsg (js.map x)) (h2 : 0 ≤ lsg (js.map y)) : 0 ≤ lsg (js.map fun j => x j + y j) ∧ (0 < lsg (js.map x) ∨ 0 < lsg (js.map y) → 0 < lsg (js.map fun j => x j + y j)) := by
  induction js with
  | nil => exact ⟨Int.le_refl _, fun h => h.elim id id⟩
  | cons j r ih =>
    rw [List.map_cons] at h1 h2 ⊢
    rw [List.map_cons, List.map_cons]
    unfold lsg at h1 h2 ⊢
    split at h1
    · exact absurd h1 (by decide)
    · split at h2
      · exact absurd h2 (by decide)
      · rename_i a1 b1
        rw [if_neg (show ¬ (x j + y j < 0) by grind), if_neg a1, if_neg b1]
        by_cases hx : 0 < x j
        · rw [if_pos (show 0 < x j + y j by grind)]
          exact ⟨by decide, fun _ => by decide⟩
        · by_cases hy : 0 < y j
          · rw [if_pos (show 0 < x j + y j by grind)]
            exact ⟨by decide, fun _ => by decide⟩
          · rw [if_neg hx] at h1
            rw [if_neg hy] at h2
            rw [if_neg (show ¬ (0 < x j + y j) by grind), if_neg hx, if_neg hy]
            exact ih h1 h2
theorem lsg_pos {js : List α} {x : α → Rat} {k : Rat} (hk : 0 < k) : lsg (js.map fun j => k * x j) = lsg (js.map x) := by
  induction js with
  | nil => rfl
  | cons j r ih =>
    rw [List.map_cons, List.map_cons]
    unfold lsg
    rw [ih]
    have e1 : k * x j < 0 ↔ x j < 0 := ⟨fun h => by
      refine Rat.not_le.mp fun h2 => ?_
      have := Rat.mul_nonneg (Rat.le_of_lt hk) h2
      grind, fun h => by have := Rat.mul_pos hk (show 0 < -(x j) by grind); grind⟩
    have e2 : 0 < k * x j ↔ 0 < x j := ⟨fun h => by
      refine Rat.not_le.mp fun h2 => ?_
      have := Rat.mul_nonneg (Rat.le_of_lt hk) (show 0 ≤ -(x j) by grind)
      grind, fun h => Rat.mul_pos hk h⟩
    simp only [e1, e2]
theorem lsg_neg {js : List α} {x : α → Rat} : lsg (js.map fun j => -x j) = -lsg (js.map x) := by
  induction js with
  | nil => rfl
  | cons j r ih =>
    rw [List.map_cons, List.map_cons]
    unfold lsg
    rw [ih]
    by_cases h1 : x j < 0
    · rw [if_neg (show ¬ (-x j < 0) by grind), if_pos (show 0 < -x j by grind), if_pos h1]; rfl
    · by_cases h2 : 0 < x j
      · rw [if_pos (show -x j < 0 by grind), if_neg h1, if_pos h2]
      · rw [if_neg (show ¬ (-x j < 0) by grind), if_neg (show ¬ (0 < -x j) by grind), if_neg h1, if_neg h2]
theorem lsg_congr {js : List α} {x y : α → Rat} (h : ∀ j ∈ js, x j = y j) : lsg (js.map x) = lsg (js.map y) := by rw [List.map_congr_left h]
theorem lsg_nonneg_mul {js : List α} {x : α → Rat} {k : Rat} (hk : 0 ≤ k) (h : 0 ≤ lsg (js.map x)) : 0 ≤ lsg (js.map fun j => k * x j) := by
  by_cases h0 : k = 0
  · rw [lsg_zero fun j _ => by rw [h0]; grind]; decide
  · rw [lsg_pos (by grind)]; exact h
theorem lsg_sumF {js : List α} {C : α → Int → Rat} {w : Int → Rat} : ∀ {fs : List Int}, (∀ f ∈ fs, 0 ≤ lsg (js.map fun j => C j f * w f)) → 0 ≤ lsg (js.map fun j => sumF fs fun f => C j f * w f)
  | [], _ => by rw [show (fun j => sumF [] fun f => C j f * w f) = fun _ => (0 : Rat) from rfl, lsg_zero fun _ _ => rfl]; decide
  | f :: r, h => (lsg_add (h f List.mem_cons_self) (lsg_sumF fun x hx => h x (List.mem_cons_of_mem _ hx))).1
end
/-- below noughts where the goals look first: a free variable draws -/
def dr (g : Nat) (T : Tb) (f : Int) : Prop := lsg ((List.range g).map fun k => (T.goal k).sh f) < 0
def lim (T : Tb) (z m : Int) (c : Nat) : Rat := -1 / (T.row m).sh z * (T.row m).re c
def Sound (r : Nat) (T : Tb) : Prop := ∀ i ∈ T.own, 0 ≤ lsg ((List.range r).map (T.row i).re)
/-- how two own variables stand that might go out -/
def lcm2 (r : Nat) (T : Tb) (z i m : Int) : Int := lsg ((List.range r).map fun c => lim T z i c - lim T z m c)
structure DueT (r g : Nat) (T : Tb) (i z : Int) : Prop where
  hz : z ∈ T.free
  draws : dr g T z
  first : ∀ f ∈ T.free, f < z → ¬ dr g T f
  hi : i ∈ T.own
  neg : (T.row i).sh z < 0
  least : ∀ m ∈ T.own, (T.row m).sh z < 0 → lcm2 r T z i m < 0 ∨ lcm2 r T z i m = 0 ∧ i ≤ m
theorem DueT.ne {r g : Nat} {T : Tb} {i z : Int} (h : DueT r g T i z) : (T.row i).sh z ≠ 0 := by have := h.neg; grind
theorem inv_pos {a : Rat} (h : a < 0) : 0 < -1 / a := by
  have := Rat.inv_pos.mpr (show 0 < -a by grind)
  have e : -1 / a = (-a)⁻¹ := by grind
  rw [e]; exact this
theorem lim_sg {T : Tb} {z m : Int} {r : Nat} (h : (T.row m).sh z < 0) : lsg ((List.range r).map (lim T z m)) = lsg ((List.range r).map (T.row m).re) := lsg_pos (inv_pos h)
theorem turn_z {T : Tb} {i z : Int} : (turnT T i z).row z = solY i z (T.row i) := if_pos rfl
theorem turn_x {T : Tb} {i z x : Int} (h : x ≠ z) : (turnT T i z).row x = putY i z (solY i z (T.row i)) (T.row x) := if_neg h
/-- a sound table turned as is due is sound -/
theorem Sound.turn {r g : Nat} {T : Tb} {i z : Int} (hT : TbW T) (h : Sound r T) (d : DueT r g T i z) : Sound r (turnT T i z) := by
  have hL : 0 ≤ lsg ((List.range r).map (lim T z i)) := by rw [lim_sg d.neg]; exact h i d.hi
  intro x hx
  rcases (mem_swV d.hi).mp hx with rfl | ⟨h1, h2⟩
  · rw [turn_z]; exact hL
  · rw [turn_x fun (e : x = z) => hT.dis (e ▸ h1) d.hz]
    show 0 ≤ lsg ((List.range r).map fun c => (T.row x).re c + (T.row x).sh z * lim T z i c)
    by_cases hs : (T.row x).sh z < 0
    · have h3 : 0 ≤ lsg ((List.range r).map fun c => lim T z x c - lim T z i c) := by
        have e : lsg ((List.range r).map fun c => lim T z x c - lim T z i c) = -lcm2 r T z i x := by
          unfold lcm2
          rw [← lsg_neg]
          exact lsg_congr fun c _ => by grind
        rw [e]
        rcases d.least x h1 hs with k | ⟨k, _⟩ <;> omega
      rw [lsg_congr (y := fun c => -(T.row x).sh z * (lim T z x c - lim T z i c)) fun c _ => by
        have : (T.row x).sh z ≠ 0 := by grind
        unfold lim
        grind]
      exact lsg_nonneg_mul (by grind) h3
    · exact (lsg_add (h x h1) (lsg_nonneg_mul (by grind) hL)).1
/-! ### the goals fall, or all stays where it is -/
/-- how much a turn is worth, all goals and all their rests -/
def gi (r g : Nat) : List (Nat × Nat) := (List.range g).flatMap fun k => (List.range r).map fun c => (k, c)
def gvl (T : Tb) (p : Nat × Nat) : Rat := (T.goal p.1).re p.2
theorem lsg_app {xs ys : List Rat} (h : lsg xs = 0) : lsg (xs ++ ys) = lsg ys := by
  induction xs with
  | nil => rfl
  | cons a r ih =>
    unfold lsg at h
    split at h
    · cases h
    · split at h
      · cases h
      · rename_i h1 h2
        show lsg (a :: (r ++ ys)) = _
        rw [lsg, if_neg h1, if_neg h2]
        exact ih h
theorem lsg_app2 {xs ys : List Rat} (h : lsg xs ≠ 0) : lsg (xs ++ ys) = lsg xs := by
  induction xs with
  | nil => exact absurd rfl h
  | cons a r ih =>
    show lsg (a :: (r ++ ys)) = _
    unfold lsg at h ⊢
    split
    · rfl
    · split
      · rfl
      · rename_i h1 h2
        rw [if_neg h1, if_neg h2] at h
        exact ih h
theorem lsg_prod {L C : Nat → Rat} {cs : List Nat} : ∀ {ks : List Nat}, lsg ((ks.flatMap fun k => cs.map fun c => (k, c)).map fun p : Nat × Nat => C p.1 * L p.2) = lsg (ks.map C) * lsg (cs.map L)
  | [] => by show (0 : Int) = 0 * _; rw [Int.zero_mul]
  | k :: r => by
    have ih := lsg_prod (L := L) (C := C) (cs := cs) (ks := r)
    rw [List.flatMap_cons, List.map_append, List.map_map]
    have e0 : ((fun p : Nat × Nat => C p.1 * L p.2) ∘ fun c => (k, c)) = fun c => C k * L c := rfl
    rw [e0, List.map_cons]
    by_cases h1 : C k < 0
    · have e : lsg (cs.map fun c => C k * L c) = -lsg (cs.map L) := by
        rw [lsg_congr (y := fun c => -(-C k * L c)) fun c _ => by grind, lsg_neg, lsg_pos (by grind)]
      rw [show lsg (C k :: r.map C) = -1 from if_pos h1]
      by_cases h3 : lsg (cs.map L) = 0
      · rw [lsg_app (by rw [e, h3]; rfl), ih, h3, Int.mul_zero, Int.mul_zero]
      · rw [lsg_app2 (by rw [e]; omega), e]; omega
    · by_cases h2 : 0 < C k
      · have e : lsg (cs.map fun c => C k * L c) = lsg (cs.map L) := lsg_pos h2
        rw [show lsg (C k :: r.map C) = 1 from (if_neg h1).trans (if_pos h2)]
        by_cases h3 : lsg (cs.map L) = 0
        · rw [lsg_app (by rw [e, h3]), ih, h3, Int.mul_zero, Int.mul_zero]
        · rw [lsg_app2 (by rw [e]; omega), e]; omega
      · rw [show lsg (C k :: r.map C) = lsg (r.map C) from (if_neg h1).trans (if_neg h2), lsg_app (lsg_zero fun c _ => by have h0 : C k = 0 := (by grind); rw [h0, Rat.zero_mul]), ih]
theorem gvl_turn {T : Tb} {i z : Int} (p : Nat × Nat) : gvl (turnT T i z) p - gvl T p = (T.goal p.1).sh z * lim T z i p.2 := by
  show ((T.goal p.1).re p.2 + (T.goal p.1).sh z * (-1 / (T.row i).sh z * (T.row i).re p.2)) - (T.goal p.1).re p.2 = _
  unfold lim
  grind
theorem gvl_step {r g : Nat} {T : Tb} {i z : Int} (h : Sound r T) (d : DueT r g T i z) : 0 ≤ lsg ((gi r g).map fun p => gvl T p - gvl (turnT T i z) p) ∧ (lsg ((gi r g).map fun p => gvl T p - gvl (turnT T i z) p) = 0 → ∀ c, c < r → lim T z i c = 0) := by
  have e : lsg ((gi r g).map fun p => gvl T p - gvl (turnT T i z) p) = -(lsg ((List.range g).map fun k => (T.goal k).sh z) * lsg ((List.range r).map (lim T z i))) := by
    rw [← lsg_prod (C := fun k => (T.goal k).sh z), ← lsg_neg]
    exact lsg_congr fun p _ => by have := gvl_turn (T := T) (i := i) (z := z) p; grind
  have h1 := d.draws
  unfold dr at h1
  have h2 : 0 ≤ lsg ((List.range r).map (lim T z i)) := by rw [lim_sg d.neg]; exact h i d.hi
  have h3 : lsg ((List.range g).map fun k => (T.goal k).sh z) = -1 := by
    rcases lsg_cases ((List.range g).map fun k => (T.goal k).sh z) with k | k | k <;> omega
  rw [e, h3]
  refine ⟨by omega, fun k c hc => ?_⟩
  exact lsg_of_zero (js := List.range r) (x := lim T z i) (by omega) c (List.mem_range.mpr hc)
/-- where a turn's limit is noughts the point stays -/
theorem bas_step {r : Nat} {T : Tb} {i z : Int} (hT : TbW T) (hi : i ∈ T.own) (hz : z ∈ T.free) (ha : (T.row i).sh z ≠ 0) (h : ∀ c, c < r → lim T z i c = 0) {c : Nat} (hc : c < r) (w : Int) : bas (turnT T i z) c 1 (fun _ => 0) w = bas T c 1 (fun _ => 0) w := by
  have hl := h c hc
  have hzo : z ∉ T.own := fun k => hT.dis k hz
  have hre : (T.row i).re c = 0 := by unfold lim at hl; grind
  by_cases hw : w ∈ (turnT T i z).own
  · rw [bas_own hw, ev_zero]
    rcases (mem_swV hi).mp hw with rfl | ⟨h1, h2⟩
    · rw [turn_z, bas_not hzo]
      show -1 / (T.row i).sh w * (T.row i).re c * 1 = 0
      rw [hre]; grind
    · rw [turn_x fun (e : w = z) => hzo (e ▸ h1), bas_own h1, ev_zero]
      show ((T.row w).re c + (T.row w).sh z * (-1 / (T.row i).sh z * (T.row i).re c)) * 1 = _
      rw [hre]; grind
  · rw [bas_not hw]
    by_cases e : w = i
    · subst e
      rw [bas_own hi, ev_zero, hre]; grind
    · rw [bas_not fun k => hw ((mem_swV hi).mpr (.inr ⟨k, e⟩))]
/-- a row of due turns -/
structure Seq (r g n : Nat) (S : Nat → Tb) (I Z : Nat → Int) : Prop where
  w : ∀ k, k ≤ n → TbW (S k)
  s : ∀ k, k ≤ n → Sound r (S k)
  due : ∀ k, k < n → DueT r g (S k) (I k) (Z k)
  step : ∀ k, k < n → S (k + 1) = turnT (S k) (I k) (Z k)
section
variable {r g n : Nat} {S : Nat → Tb} {I Zz : Nat → Int}
theorem Seq.eqv (Q : Seq r g n S I Zz) : ∀ b, b ≤ n → Eqv (S 0) (S b)
  | 0, _ => .refl _
  | b + 1, h => by
    have d := Q.due b h
    rw [Q.step b h]
    exact (Q.eqv b (Nat.le_of_lt h)).trans (Eqv.turn (Q.w b (Nat.le_of_lt h)) d.hi d.hz d.ne)
theorem Seq.eq2 (Q : Seq r g n S I Zz) {a b : Nat} (ha : a ≤ n) (hb : b ≤ n) : Eqv (S a) (S b) := (Q.eqv a ha).symm.trans (Q.eqv b hb)
theorem Seq.stay (Q : Seq r g n S I Zz) {a : Nat} {w : Int} (hw : w ∈ (S a).own) : ∀ d, a + d ≤ n → (∀ k, a ≤ k → k < a + d → I k ≠ w) → w ∈ (S (a + d)).own
  | 0, _, _ => hw
  | d + 1, h, k => by
    have ih := Q.stay hw d (by omega) fun j h1 h2 => k j h1 (by omega)
    have hd := Q.due (a + d) (by omega)
    rw [show a + (d + 1) = a + d + 1 from rfl, Q.step (a + d) (by omega)]
    exact (mem_swV hd.hi).mpr (.inr ⟨ih, fun e => k (a + d) (by omega) (by omega) e.symm⟩)
theorem Seq.off (Q : Seq r g n S I Zz) {a : Nat} {w : Int} (hw : w ∉ (S a).own) : ∀ d, a + d ≤ n → (∀ k, a ≤ k → k < a + d → Zz k ≠ w) → w ∉ (S (a + d)).own
  | 0, _, _ => hw
  | d + 1, h, k => by
    have ih := Q.off hw d (by omega) fun j h1 h2 => k j h1 (by omega)
    have hd := Q.due (a + d) (by omega)
    rw [show a + (d + 1) = a + d + 1 from rfl, Q.step (a + d) (by omega)]
    intro hm
    rcases (mem_swV hd.hi).mp hm with e | ⟨h1, _⟩
    · exact k (a + d) (by omega) (by omega) e.symm
    · exact ih h1
theorem Seq.left (Q : Seq r g n S I Zz) {a b : Nat} {w : Int} (hab : a ≤ b) (hb : b ≤ n) (h1 : w ∈ (S a).own) (h2 : w ∉ (S b).own) : ∃ k, a ≤ k ∧ k < b ∧ I k = w := Classical.byContradiction fun no => by
  have := Q.stay h1 (b - a) (by omega) fun k k1 k2 e => no ⟨k, k1, by omega, e⟩
  rw [show a + (b - a) = b by omega] at this
  exact h2 this
theorem Seq.came (Q : Seq r g n S I Zz) {a b : Nat} {w : Int} (hab : a ≤ b) (hb : b ≤ n) (h1 : w ∉ (S a).own) (h2 : w ∈ (S b).own) : ∃ k, a ≤ k ∧ k < b ∧ Zz k = w := Classical.byContradiction fun no => by
  have := Q.off h1 (b - a) (by omega) fun k k1 k2 e => no ⟨k, k1, by omega, e⟩
  rw [show a + (b - a) = b by omega] at this
  exact this h2
theorem Seq.not_own (Q : Seq r g n S I Zz) {k : Nat} (hk : k < n) : Zz k ∉ (S k).own := fun h => (Q.w k (Nat.le_of_lt hk)).dis h (Q.due k hk).hz
theorem Seq.out (Q : Seq r g n S I Zz) {k : Nat} (hk : k < n) : I k ∉ (S (k + 1)).own := fun h => by
  rw [Q.step k hk] at h
  rcases (mem_swV (Q.due k hk).hi).mp h with e | ⟨_, h2⟩
  · exact Q.not_own hk (e ▸ (Q.due k hk).hi)
  · exact h2 rfl
theorem Seq.inn (Q : Seq r g n S I Zz) {k : Nat} (hk : k < n) : Zz k ∈ (S (k + 1)).own := by
  rw [Q.step k hk]
  exact (mem_swV (Q.due k hk).hi).mpr (.inl rfl)
theorem max_at {n : Nat} (hn : 0 < n) (F : Nat → Int) : ∃ b, b < n ∧ ∀ k, k < n → F k ≤ F b := by
  induction n with
  | zero => exact absurd hn (Nat.lt_irrefl _)
  | succ n ih =>
    by_cases h : n = 0
    · subst h
      exact ⟨0, by omega, fun k hk => by rw [show k = 0 by omega]; exact Int.le_refl _⟩
    · obtain ⟨b, hb, hm⟩ := ih (by omega)
      by_cases h2 : F n ≤ F b
      · exact ⟨b, by omega, fun k hk => by
          by_cases e : k = n
          · rw [e]; exact h2
          · exact hm k (by omega)⟩
      · exact ⟨n, by omega, fun k hk => by
          by_cases e : k = n
          · rw [e]; exact Int.le_refl _
          · have := hm k (by omega); omega⟩
/-- no ring -/
theorem no_ring (Q : Seq r g n S I Zz) (hn : 0 < n) (ho : ∀ w, w ∈ (S 0).own ↔ w ∈ (S n).own) : False := by
  -- the goals stay
  have hG : ∀ p, gvl (S 0) p = gvl (S n) p := fun p => ((same_tab (Q.w 0 (Nat.zero_le _)) (Q.w n (Nat.le_refl _)) (Q.eqv n (Nat.le_refl _)) ho).2.2 p.1).1 p.2
  have down : ∀ a d, a + d ≤ n → 0 ≤ lsg ((gi r g).map fun p => gvl (S a) p - gvl (S (a + d)) p) := fun a d => by
    induction d with
    | zero => intro _; rw [lsg_zero fun p _ => by show gvl (S a) p - gvl (S a) p = 0; grind]; decide
    | succ d ih =>
      intro h
      have h1 := ih (by omega)
      have h2 := (gvl_step (Q.s (a + d) (by omega)) (Q.due (a + d) (by omega))).1
      rw [← Q.step (a + d) (by omega)] at h2
      have := (lsg_add h1 h2).1
      rwa [lsg_congr (y := fun p => gvl (S a) p - gvl (S (a + (d + 1))) p) fun p _ => by show _ = gvl (S a) p - gvl (S (a + d + 1)) p; grind] at this
  have hL : ∀ k, k < n → ∀ c, c < r → lim (S k) (Zz k) (I k) c = 0 := fun k hk => by
    have st := gvl_step (Q.s k (Nat.le_of_lt hk)) (Q.due k hk)
    rw [← Q.step k hk] at st
    refine st.2 ?_
    have h1 := down 0 k (by omega)
    have h3 := down (k + 1) (n - (k + 1)) (by omega)
    rw [Nat.zero_add] at h1
    rw [show k + 1 + (n - (k + 1)) = n by omega] at h3
    refine Classical.byContradiction fun no => ?_
    have a1 := lsg_add h1 st.1
    have a2 := lsg_add a1.1 h3
    have := a2.2 (.inl (a1.2 (.inr (by omega))))
    rw [lsg_zero fun p _ => by have := hG p; grind] at this
    exact absurd this (by decide)
  have hB : ∀ b, b ≤ n → ∀ c, c < r → ∀ w, bas (S b) c 1 (fun _ => 0) w = bas (S 0) c 1 (fun _ => 0) w := fun b => by
    induction b with
    | zero => exact fun _ _ _ _ => rfl
    | succ b ih =>
      intro h c hc w
      have d := Q.due b h
      rw [Q.step b h, bas_step (Q.w b (Nat.le_of_lt h)) d.hi d.hz d.ne (hL b h) hc]
      exact ih (Nat.le_of_lt h) c hc w
  -- what goes out comes in, and what comes in goes out
  have h0 := Q.w 0 (Nat.zero_le _)
  have fick : ∀ k, k < n → ∃ j, j < n ∧ Zz j = I k := fun k hk => by
    by_cases e : I k ∈ (S n).own
    · obtain ⟨j, _, h2, h3⟩ := Q.came (show k + 1 ≤ n from hk) (Nat.le_refl _) (Q.out hk) e
      exact ⟨j, h2, h3⟩
    · obtain ⟨j, _, h2, h3⟩ := Q.came (Nat.zero_le k) (Nat.le_of_lt hk) (fun h => e ((ho _).mp h)) (Q.due k hk).hi
      exact ⟨j, by omega, h3⟩
  obtain ⟨b, hb, hmax⟩ := max_at hn Zz
  obtain ⟨a, ha, hat⟩ : ∃ a, a < n ∧ I a = Zz b := by
    by_cases e : Zz b ∈ (S n).own
    · obtain ⟨j, _, h2, h3⟩ := Q.left (Nat.zero_le b) (Nat.le_of_lt hb) ((ho _).mpr e) (Q.not_own hb)
      exact ⟨j, by omega, h3⟩
    · obtain ⟨j, _, h2, h3⟩ := Q.left (show b + 1 ≤ n from hb) (Nat.le_refl _) (Q.inn hb) e
      exact ⟨j, h2, h3⟩
  have da := Q.due a ha
  have db := Q.due b hb
  have wa := Q.w a (Nat.le_of_lt ha)
  have wb := Q.w b (Nat.le_of_lt hb)
  rw [hat] at da
  obtain ⟨t, ht⟩ : ∃ t, t = Zz b := ⟨_, rfl⟩
  obtain ⟨s, hs⟩ : ∃ s, s = Zz a := ⟨_, rfl⟩
  have hst : s ≤ t := by rw [hs, ht]; exact hmax a ha
  rw [← ht, ← hs] at da
  rw [← ht] at db
  have E := Q.eq2 (Nat.le_of_lt ha) (Nat.le_of_lt hb)
  have key : ∀ k, ((S a).goal k).sh s = sumF (S b).free fun f => ((S b).goal k).sh f * bas (S a) 0 0 (unit s) f := fun k => by
    have := E.goals k 0 0 _ (bas_holds wa 0 0 (unit s))
    rw [bas_ev wa, ev_unit wa.ndf da.hz] at this
    rw [this]
    unfold ev
    grind
  have neg : ¬ 0 ≤ lsg ((List.range g).map fun k => sumF (S b).free fun f => ((S b).goal k).sh f * bas (S a) 0 0 (unit s) f) := fun k => by
    have h1 := da.draws
    unfold dr at h1
    rw [lsg_congr fun j _ => key j] at h1
    omega
  refine neg (lsg_sumF (C := fun k f => ((S b).goal k).sh f) fun q hq => Classical.byContradiction fun no => ?_)
  have cm : ∀ w : Rat, 0 ≤ w → 0 ≤ lsg ((List.range g).map fun k => ((S b).goal k).sh q) → 0 ≤ lsg ((List.range g).map fun k => ((S b).goal k).sh q * w) := fun w h1 h2 => by
    have := lsg_nonneg_mul h1 h2
    rwa [lsg_congr (y := fun k => ((S b).goal k).sh q * w) fun k _ => by grind] at this
  by_cases e1 : q = t
  · subst e1
    have hw : bas (S a) 0 0 (unit s) q = ((S a).row q).sh s := by rw [bas_own da.hi, ev_unit wa.ndf da.hz]
    rw [hw] at no
    have h1 := db.draws
    unfold dr at h1
    refine no ?_
    have h2 : 0 ≤ lsg ((List.range g).map fun k => -((S b).goal k).sh q) := by rw [lsg_neg]; omega
    have := lsg_nonneg_mul (k := -((S a).row q).sh s) (by have := da.neg; grind) h2
    rwa [lsg_congr (y := fun k => ((S b).goal k).sh q * ((S a).row q).sh s) fun k _ => by grind] at this
  · by_cases e2 : q ∈ (S a).own
    · have hw : bas (S a) 0 0 (unit s) q = ((S a).row q).sh s := by rw [bas_own e2, ev_unit wa.ndf da.hz]
      rw [hw] at no
      have hqb : q ∉ (S b).own := fun h => wb.dis h hq
      have hf : ∃ j, j < n ∧ Zz j = q := by
        rcases Nat.le_total a b with h | h
        · obtain ⟨j, _, h2, h3⟩ := Q.left h (Nat.le_of_lt hb) e2 hqb
          obtain ⟨l, h4, h5⟩ := fick j (by omega)
          exact ⟨l, h4, h5.trans h3⟩
        · obtain ⟨j, _, h2, h3⟩ := Q.came h (Nat.le_of_lt ha) hqb e2
          exact ⟨j, by omega, h3⟩
      obtain ⟨j, hj, hjq⟩ := hf
      have hqt : q < t := by
        have := hmax j hj
        rw [hjq, ← ht] at this
        omega
      have hnd := db.first q hq hqt
      unfold dr at hnd
      have hneg : ((S a).row q).sh s < 0 := Rat.not_le.mp fun h => no (cm _ h (by omega))
      have hl1 : ∀ c, c < r → lim (S a) s t c = 0 := by
        have := hL a ha
        rw [hat, ← ht, ← hs] at this
        exact this
      have hl2 : ∀ c, c < r → lim (S a) s q c = 0 := fun c hc => by
        have h1 := hB a (Nat.le_of_lt ha) c hc q
        have h2 := hB b (Nat.le_of_lt hb) c hc q
        rw [bas_own e2, ev_zero] at h1
        rw [bas_not hqb] at h2
        unfold lim
        have : ((S a).row q).re c = 0 := by grind
        rw [this]; grind
      have hz : lcm2 r (S a) s t q = 0 := lsg_zero fun c hc => by
        rw [hl1 c (List.mem_range.mp hc), hl2 c (List.mem_range.mp hc)]; grind
      rcases da.least q e2 hneg with k | ⟨_, k⟩ <;> omega
    · have hw : bas (S a) 0 0 (unit s) q = unit s q := bas_not e2
      rw [hw] at no
      by_cases e3 : q = s
      · have hnd := db.first q hq (by omega)
        unfold dr at hnd
        exact no (cm _ (by unfold unit; split <;> decide) (by omega))
      · refine no ?_
        rw [lsg_zero fun k _ => by unfold unit; rw [if_neg e3]; grind]
        decide
end
end Z

/-! Z49: rows of due turns end; what is due is one. -/
namespace Z
def runT (T : Tb) (ts : List (Int × Int)) : Tb := ts.foldl (fun T p => turnT T p.1 p.2) T
def Dues (r g : Nat) (T : Tb) (ts : List (Int × Int)) : Prop := ∀ k p, ts[k]? = some p → DueT r g (runT T (ts.take k)) p.1 p.2
theorem runT_app {T : Tb} {xs ys : List (Int × Int)} : runT T (xs ++ ys) = runT (runT T xs) ys := List.foldl_append
theorem runT_one {T : Tb} {xs : List (Int × Int)} {p : Int × Int} : runT T (xs ++ [p]) = turnT (runT T xs) p.1 p.2 := runT_app
theorem Dues.nil {r g : Nat} {T : Tb} : Dues r g T [] := fun k p h => by simp at h
theorem Dues.snoc {r g : Nat} {T : Tb} {ts : List (Int × Int)} {p : Int × Int} (h : Dues r g T ts) (d : DueT r g (runT T ts) p.1 p.2) : Dues r g T (ts ++ [p]) := fun k q hq => by
  by_cases hk : k < ts.length
  · rw [List.getElem?_append_left hk] at hq
    rw [List.take_append_of_le_length (Nat.le_of_lt hk)]
    exact h k q hq
  · rw [List.getElem?_append_right (by omega)] at hq
    have hl := (List.getElem?_eq_some_iff.mp hq).1
    have e : k = ts.length := by simp at hl; omega
    subst e
    rw [Nat.sub_self] at hq
    cases hq
    rw [List.take_left']
    · exact d
    · rfl
/-- all the way: tables, sound, that say the same -/
structure Way (r : Nat) (T T' : Tb) : Prop where
  w : TbW T'
  s : Sound r T'
  e : Eqv T T'
theorem Way.self {r : Nat} {T : Tb} (w : TbW T) (s : Sound r T) : Way r T T := ⟨w, s, .refl _⟩
theorem Way.turn {r g : Nat} {T T' : Tb} {i z : Int} (h : Way r T T') (d : DueT r g T' i z) : Way r T (turnT T' i z) := ⟨h.w.turn d.hi d.hz, h.s.turn h.w d, h.e.trans (Eqv.turn h.w d.hi d.hz d.ne)⟩
theorem runT_take {T : Tb} {ts : List (Int × Int)} {k : Nat} {p : Int × Int} (h : ts[k]? = some p) : runT T (ts.take (k + 1)) = turnT (runT T (ts.take k)) p.1 p.2 := by
  obtain ⟨hl, e⟩ := List.getElem?_eq_some_iff.mp h
  rw [List.take_succ_eq_append_getElem hl, runT_one, e]
theorem Dues.way {r g : Nat} {T : Tb} {ts : List (Int × Int)} (w : TbW T) (s : Sound r T) (h : Dues r g T ts) : ∀ k, k ≤ ts.length → Way r T (runT T (ts.take k))
  | 0, _ => .self w s
  | k + 1, hk => by
    have e : ts[k]? = some ts[k] := List.getElem?_eq_getElem hk
    rw [runT_take e]
    exact (h.way w s k (Nat.le_of_lt hk)).turn (h k _ e)
theorem Dues.end {r g : Nat} {T : Tb} {ts : List (Int × Int)} (w : TbW T) (s : Sound r T) (h : Dues r g T ts) : Way r T (runT T ts) := by
  have := h.way w s ts.length (Nat.le_refl _)
  rwa [List.take_length] at this
/-- which of some variables are own -/
def code (T : Tb) : List Int → Nat
  | [] => 0
  | v :: r => 2 * code T r + (if v ∈ T.own then 1 else 0)
theorem code_lt {T : Tb} : ∀ {V : List Int}, code T V < 2 ^ V.length
  | [] => Nat.one_pos
  | v :: r => by
    have := code_lt (T := T) (V := r)
    rw [List.length_cons, Nat.pow_succ]
    unfold code
    split <;> omega
theorem code_inj {T T' : Tb} : ∀ {V : List Int}, code T V = code T' V → ∀ v ∈ V, v ∈ T.own ↔ v ∈ T'.own
  | v :: r, h, w, hw => by
    unfold code at h
    have e1 : code T r = code T' r := by (repeat' split at h) <;> omega
    rcases List.mem_cons.mp hw with rfl | hw
    · constructor
      · intro k; rw [if_pos k] at h; exact Classical.byContradiction fun no => by rw [if_neg no] at h; omega
      · intro k; rw [if_pos k] at h; exact Classical.byContradiction fun no => by rw [if_neg no] at h; omega
    · exact code_inj e1 w hw
theorem php {f : Nat → Nat} {N : Nat} (h : ∀ k, k ≤ N → f k < N) : ∃ i j, i < j ∧ j ≤ N ∧ f i = f j := Classical.byContradiction fun no => by
  have inj : ∀ a, a ≤ N → ∀ b, b ≤ N → f a = f b → a = b := fun a ha b hb e => by
    rcases Nat.lt_trichotomy a b with k | k | k
    · exact absurd ⟨a, b, k, hb, e⟩ no
    · exact k
    · exact absurd ⟨b, a, k, ha, e.symm⟩ no
  have hn : ((List.range (N + 1)).map fun k => (f k : Int)).Nodup := by
    refine List.Pairwise.map _ (R := fun a b => a ≠ b ∧ a ≤ N ∧ b ≤ N) (fun a b hab e => hab.1 (inj a hab.2.1 b hab.2.2 (by exact_mod_cast e))) ?_
    refine List.Pairwise.imp_of_mem (R := fun a b => a ≠ b) (fun {a b} ha hb hab => ⟨hab, Nat.le_of_lt_succ (List.mem_range.mp ha), Nat.le_of_lt_succ (List.mem_range.mp hb)⟩) List.nodup_range
  have := sub_len (m := (List.range N).map fun (k : Nat) => (k : Int)) hn fun w hw => by
    obtain ⟨k, hk, rfl⟩ := List.mem_map.mp hw
    exact List.mem_map.mpr ⟨f k, List.mem_range.mpr (h k (Nat.le_of_lt_succ (List.mem_range.mp hk))), rfl⟩
  rw [List.length_map, List.length_map, List.length_range, List.length_range] at this
  omega
/-- a row of due turns is no longer than that -/
theorem dues_len {r g : Nat} {T : Tb} {ts : List (Int × Int)} (w : TbW T) (s : Sound r T) (h : Dues r g T ts) : ts.length < 2 ^ (T.own ++ T.free).length := Nat.lt_of_not_le fun hl => by
  obtain ⟨i, j, hij, hj, e⟩ := php (f := fun k => code (runT T (ts.take k)) (T.own ++ T.free)) (N := 2 ^ (T.own ++ T.free).length) fun k _ => code_lt
  have hjl : j ≤ ts.length := Nat.le_trans hj hl
  refine no_ring (r := r) (g := g) (n := j - i) (S := fun k => runT T (ts.take (i + k))) (I := fun k => (ts.getD (i + k) (0, 0)).1) (Zz := fun k => (ts.getD (i + k) (0, 0)).2) ⟨fun k hk => (h.way w s (i + k) (by omega)).w, fun k hk => (h.way w s (i + k) (by omega)).s, fun k hk => ?_, fun k hk => ?_⟩ (by omega) fun v => ?_
  · have e : ts[i + k]? = some ts[i + k] := List.getElem?_eq_getElem (by omega)
    have := h _ _ e
    rwa [← show ts.getD (i + k) (0, 0) = ts[i + k] from by rw [List.getD_eq_getElem?_getD, e] <;> rfl] at this
  · have e : ts[i + k]? = some ts[i + k] := List.getElem?_eq_getElem (by omega)
    rw [show ts.getD (i + k) (0, 0) = ts[i + k] from by rw [List.getD_eq_getElem?_getD, e] <;> rfl]
    exact runT_take e
  · have ci := code_inj e
    have w1 := h.way w s i (by omega)
    have w2 := h.way w s j hjl
    show v ∈ (runT T (ts.take (i + 0))).own ↔ v ∈ (runT T (ts.take (i + (j - i)))).own
    rw [Nat.add_zero, show i + (j - i) = j by omega]
    by_cases hv : v ∈ T.own ++ T.free
    · exact ci v hv
    · constructor
      · intro k; exact absurd (w1.e.vars.mem_iff.mpr (List.mem_append_left _ k)) hv
      · intro k; exact absurd (w2.e.vars.mem_iff.mpr (List.mem_append_left _ k)) hv
/-- the numbers on the way -/
theorem way_bits {r g n k : Nat} {T T' : Tb} (w : TbW T) (h : Way r T T') (B : TB n r g T) (hk : T.free.length ≤ k ∨ T'.own.length ≤ k) : TB (gr k n) r g T' :=
  reach k w h.w h.e B (hk.elim (Nat.le_trans (newO_free w h.w h.e)) (Nat.le_trans newO_own))
theorem turn_len {T : Tb} {i z : Int} : (turnT T i z).own.length = T.own.length := List.length_map ..
theorem runT_len {T : Tb} : ∀ {ts : List (Int × Int)}, (runT T ts).own.length = T.own.length := fun {ts} => by
  induction ts generalizing T with
  | nil => rfl
  | cons p r ih => exact (ih (T := turnT T p.1 p.2)).trans turn_len
theorem gr_eq : ∀ {k n : Nat}, gr k n + 1 = 2 ^ k * (n + 1)
  | 0, n => by rw [Nat.pow_zero, Nat.one_mul]; rfl
  | k + 1, n => by
    show gr k (2 * n + 1) + 1 = _
    rw [gr_eq, Nat.pow_succ]
    rw [show 2 * n + 1 + 1 = 2 * (n + 1) by omega, Nat.mul_assoc]
/-- a row of a table over one under -/
theorem DueT.one {r g : Nat} {T : Tb} {i z i' z' : Int} (h : DueT r g T i z) (h' : DueT r g T i' z') : i = i' ∧ z = z' := by
  have ez : z = z' := by
    rcases Int.lt_trichotomy z z' with k | k | k
    · exact absurd h.draws (h'.first z h.hz k)
    · exact k
    · exact absurd h'.draws (h.first z' h'.hz k)
  subst ez
  have e1 := h.least i' h'.hi h'.neg
  have e2 := h'.least i h.hi h.neg
  have e3 : lcm2 r T z i' i = -lcm2 r T z i i' := by
    unfold lcm2
    rw [← lsg_neg]
    exact lsg_congr fun c _ => by grind
  rw [e3] at e2
  exact ⟨by omega, rfl⟩
end Z

/-! Z50: calls by keywords of defs that may raise. -/
namespace Z
open PySem PySem.Spec PyProof.Rows L2
structure DefKwX (P : Program) (w : World) (K : PySem.W.Frag) (mg : Str → Option Value) (base : Heap) (k : Nat) (x : Str) (sp : Sp2) (n : Nat) (ks : List Str) : Prop where
  ex : ∃ (f : Addr) (fd : FuncData) (ps : List Str), FnOk P w K mg base (L2.CX P w) k f fd ps (lift K sp) ∧ mg x = some (.ref f) ∧ PySem.W.keepIn K (.ref f) = true ∧ ps ≠ [] ∧ ∀ (s : Shared) (us ws : List Value), K.In s.heap → us.length = n → (us ++ ws).length = ps.length → BindsTo s fd ⟨us, ks.zip ws⟩ (ps.zip (us ++ ws))
def tCallKX (E : Value → Sl → M → Prop) (sp : Sp2) (n : Nat) (t tk : TA2) : TE2 := fun g m Q => t g m fun ds m1 => tk g m1 fun es m2 => ds.length = n ∧ sp (ds ++ es) m2 Q fun c m' => E c g m'
section
variable {X : Cx} {ω : Bx} {k kk n : Nat} {sp : Sp2} {x : Str} {ks : List Str} {e : Expr} {es : List Expr} {kws : List Keyword} {t tk : TA2} {p pos : Pos}
theorem callKXn (D : DefKwX X.prog X.w X.K X.mg X.base k x sp n ks) (hr : Room kk X.A) (hg : Gl X x) (ha : PA2 X ω (e :: es) t) (hkw : PK2 X ω kws tk) (hk : k ≤ kk := by decide)
    (hall : (backToKw pos (keywordEach kws X.env)).all (·.1.isSome) = true := by rfl) (hks : (backToKw pos (keywordEach kws X.env)).filterMap (·.1) = ks := by rfl) (hdb : (x == ("__debug__" : Str)) = false := by decide)
    (he : starEach (e :: es) X.env = (false, eval e X.env) :: starEach es X.env := by rfl) (hpl : ((backTo pos (starEach (e :: es) X.env)).any (·.1) || (backToKw pos (keywordEach kws X.env)).any (·.1.isNone)) = false := by rfl) :
    PE2 X ω (.Call (.Name x p) (e :: es) kws pos) (tCallKU sp n t tk) := by
  obtain ⟨f, fd, ps, F, h1, h2, h0, h3⟩ := D.ex
  refine (pe_callK (E := fun _ _ _ => False) F (hr.mono hk) hg h1 h2 (kb_of h0 h3) pass_no pa_sem pk_sem hall hks hdb he hpl).to2 fun σ H g m Q S hm q => (ha.sem S hm q).mono fun vs H1 ⟨ds, m1, s1, r1, q1⟩ => (hkw.sem (S.mono s1.ex) s1.mem q1).mono fun zs H2 ⟨es, m2, s2, r2, hl, q2⟩ => ?_
  show lift X.K sp (arG n vs zs) H2 _ _
  unfold arG
  rw [if_pos (by rw [r1.length]; exact hl)]
  exact ⟨ds ++ es, m2, Q, no2, s2.mem, (r1.mono s2.ex).append r2, q2, fun v H' h => P2.go (s1.trans s2) h, fun _ _ _ _ h => h.elim⟩
theorem callK0Xn (D : DefKwX X.prog X.w X.K X.mg X.base k x sp 0 ks) (hr : Room kk X.A) (hg : Gl X x) (hkw : PK2 X ω kws tk) (hk : k ≤ kk := by decide)
    (hall : (backToKw pos (keywordEach kws X.env)).all (·.1.isSome) = true := by rfl) (hks : (backToKw pos (keywordEach kws X.env)).filterMap (·.1) = ks := by rfl) (hdb : (x == ("__debug__" : Str)) = false := by decide)
    (hpl : ((backTo pos (starEach [] X.env)).any (·.1) || (backToKw pos (keywordEach kws X.env)).any (·.1.isNone)) = false := by rfl) : PE2 X ω (.Call (.Name x p) [] kws pos) (tCallKU sp 0 tNil2 tk) := by
  obtain ⟨f, fd, ps, F, h1, h2, h0, h3⟩ := D.ex
  refine ⟨fun {σ H g m Q} S hm q pins s I => ?_⟩
  refine wpAny_Call_Name_kw (ld_glob I hg h1 ?_ hdb)
  refine PySem.W.callWith_KW0 (h₀ := X.base) I.ok.mod.kin h2 hall (thn (hkw.sem S hm q pos pins s I) fun ws s2 ⟨zs, H2, I2, rz, ds, m2, s2', r2, hl, q2⟩ => ⟨I2.kIn, ?_⟩) hpl
  rw [hks]
  exact run_fnk (E := fun _ _ _ => False) (us := []) (vs := []) F (hr.mono hk) (kb_of (n := 0) h0 h3) pass_no I2 .nil rz ⟨ds, m2, Q, no2, s2'.mem, by show Reps _ _ (arG 0 [] zs) ds; exact r2, q2, fun v H' h => P2.go s2' h, fun _ _ _ _ h => h.elim⟩
/-- in a try -/
theorem callK0X {kp : Hp} {Ee : Value → Sl → M → Prop} (tk' : TkE X ⟨kp, Ee⟩) (D : DefKwX X.prog X.w X.K X.mg X.base k x sp 0 ks) (hr : Room kk X.A) (hg : Gl X x) (hkw : PK2 X ⟨kp, Ee⟩ kws tk) (hk : k ≤ kk := by decide)
    (hall : (backToKw pos (keywordEach kws X.env)).all (·.1.isSome) = true := by rfl) (hks : (backToKw pos (keywordEach kws X.env)).filterMap (·.1) = ks := by rfl) (hdb : (x == ("__debug__" : Str)) = false := by decide)
    (hpl : ((backTo pos (starEach [] X.env)).any (·.1) || (backToKw pos (keywordEach kws X.env)).any (·.1.isNone)) = false := by rfl) : PE2 X ⟨kp, Ee⟩ (.Call (.Name x p) [] kws pos) (tCallKX Ee sp 0 tNil2 tk) := by
  obtain ⟨f, fd, ps, F, h1, h2, h0, h3⟩ := D.ex
  refine ⟨fun {σ H g m Q} S hm q pins s I => ?_⟩
  refine wpAny_Call_Name_kw (ld_glob I hg h1 ?_ hdb)
  refine PySem.W.callWith_KW0 (h₀ := X.base) I.ok.mod.kin h2 hall (thn (hkw.sem S hm q pos pins s I) fun ws s2 ⟨zs, H2, I2, rz, ds, m2, s2', r2, hl, q2⟩ => ⟨I2.kIn, ?_⟩) hpl
  rw [hks]
  have rz0 : Vals ([] : List V) [] := .nil
  have hbk := kb_of (n := 0) h0 h3
  have r2' := hbk.rel rz0 rz
  have hsp : lift X.K sp (arG 0 [] zs) H2 (P2 X.K m H Q) (WE (wZ X.K ⟨kp, Ee⟩) σ) := ⟨ds, m2, Q, fun c m' => Ee c g m', s2'.mem, by show Reps _ _ (arG 0 [] zs) ds; exact r2, q2, fun v H' h => P2.go s2' h, fun c m' H' st z => ⟨rfl, g, m', (S.mono s2'.ex).mono st.ex, st.mem, z⟩⟩
  have hl2 : (arG 0 [] ws).length = ps.length := by rw [← r2'.length]; exact F.len _ _ _ _ hsp
  refine wpAny_call (codeAny_mono (F.run X.A X.stack s2 H2 ⟨[], ks.zip ws⟩ (arG 0 [] ws) (arG 0 [] zs) _ _ (hr.mono hk) I2.env0 (hbk.to s2 [] ws I2.kIn hl2) r2' hsp) fun r s' hq => ?_)
  cases r with
  | error e => exact passAt tk' σ pins H2 s2 e s' I2 hq
  | ok fl =>
    cases fl with
    | ret u => exact I2.after hq
    | next => exact False.elim hq
    | brk => exact False.elim hq
    | cont => exact False.elim hq
end
end Z

/-! Z51: zip of a list and a tuple, in any mix. -/
namespace Z
open PySem PySem.Spec PyProof.Rows L2
/-- a tuple (true) or a list, in the heap of the proof and in the machine's -/
def SqB (b : Bool) (K : PySem.W.Frag) (H : Hp) (a : Addr) (xs : List V) : Prop := match b with | true => SqT K H a xs | false => SqL K H a xs
def IsSq (b : Bool) (h : Heap) (a : Addr) (items : Array Value) : Prop := match b with | true => h.IsTuple a items | false => h.IsList a items
def IsIt (b : Bool) (h : Heap) (it a : Addr) (i : Nat) : Prop := match b with | true => h.IsTupleIter it a i | false => h.IsListIter it a i
def itO (b : Bool) (a : Addr) : Obj := match b with | true => { cls := .type "tuple_iterator", data := .fields #[.ref a, .int 0 0] } | false => { cls := .type "list_iterator", data := .fields #[.ref a, .int 0 0] }
theorem IsSq.at {b : Bool} {h h' : Heap} {a : Addr} {items : Array Value} (x : IsSq b h a items) (e : ∀ o, h.get? a = some o → h'.get? a = some o) : IsSq b h' a items := by
  cases b
  · exact Heap.IsList.at x e
  · exact Heap.IsTuple.at x e
theorem IsIt.at {b : Bool} {h h' : Heap} {it a : Addr} {i : Nat} (x : IsIt b h it a i) (e : ∀ o, h.get? it = some o → h'.get? it = some o) : IsIt b h' it a i := by
  cases b
  · exact Heap.IsListIter.at x e
  · exact Heap.IsTupleIter.at x e
theorem IsIt.obj {b : Bool} {h : Heap} {it a : Addr} {i : Nat} (x : IsIt b h it a i) : ∃ o, h.get? it = some o ∧ o.data = .fields #[.ref a, .int i 0] := by
  cases b
  · obtain ⟨o, ho, _, hd⟩ := x; exact ⟨o, ho, hd⟩
  · obtain ⟨o, ho, _, hd⟩ := x; exact ⟨o, ho, hd⟩
theorem IsSq.lt {b : Bool} {h : Heap} {a : Addr} {items : Array Value} (x : IsSq b h a items) : a < h.objs.size := by
  cases b
  · obtain ⟨o, ho, _⟩ := x; exact Heap.lt_size ho
  · obtain ⟨o, ho, _⟩ := x; exact Heap.lt_size ho
theorem begB (b : Bool) (a : Addr) (items : Array Value) : Begins (.ref a) (itO b a) fun h => IsSq b h a items := by
  cases b
  · exact begins_list a items
  · exact begins_tuple a items
section
variable {prog : Program} {w : World} {A : Around}
theorem drwB (b : Bool) (hh : A.handled = none) (it a : Addr) (hne : a ≠ it) (items : Array Value) : Draws prog w A it [it, a] items.size (fun i v => items[i]? = some v) (fun i h => IsIt b h it a i ∧ IsSq b h a items) := by
  cases b
  · exact Draws.list hh it a hne items
  · exact Draws.tuple hh it a hne items
theorem stpB (b : Bool) (hh : A.handled = none) (it a : Addr) (items : Array Value) {i : Nat} (hi : items.size ≤ i) : Draws prog w A it [it, a] i (fun _ _ => True) (fun j h => j = i ∧ IsIt b h it a j ∧ IsSq b h a items) := {
  live := fun _ _ st => let ⟨o, ho, _⟩ := st.2.1.obj; ⟨o, ho⟩
  frame := fun _ _ _ st hk => ⟨st.1, st.2.1.at fun o e => hk it List.mem_cons_self o e, st.2.2.at fun o e => hk a (List.mem_cons_of_mem _ List.mem_cons_self) o e⟩
  item := fun j s Q E hj st hQ => absurd hj (by rw [st.1]; exact Nat.lt_irrefl _)
  done := fun s Q E st hE => by
    have hn : items[i]? = none := Array.getElem?_eq_none hi
    cases b
    · exact wpAny_nextOf_list_end hh st.2.1 st.2.2 hn hE
    · exact wpAny_nextOf_tuple_end hh st.2.1 st.2.2 hn hE }
end
section
variable {X : Cx} {pins : List (Addr × Obj)} {σ : L2.St} {H : Hp} {s : Shared}
theorem inv_sq {b : Bool} {a : Addr} {xs : List V} (I : Inv X pins σ H s) (h : SqB b X.K H a xs) : ∃ its, Vals xs its ∧ IsSq b s.heap a its.toArray := by
  cases b
  · obtain ⟨its, rv, p, _⟩ := I.list h
    exact ⟨its, rv, p.isList⟩
  · obtain ⟨its, rv, p, _⟩ := I.tuple h
    exact ⟨its, rv, p⟩
theorem sq_inj {b : Bool} {a : Addr} {xs ys : List V} (I : Inv X pins σ H s) (h : SqB b X.K H a xs) (k : SqB b X.K H a ys) : xs = ys := by
  cases b
  · exact I.list_inj h k
  · exact I.tuple_inj h k
end
def ItM (b c : Bool) (K : PySem.W.Frag) (p q : Addr) : It where
  go := fun i H => ∃ (xs ys : List V) (x y : V), SqB b K H p xs ∧ SqB c K H q ys ∧ xs[i]? = some x ∧ ys[i]? = some y
  yld := fun i H v H' => ∃ T x y, v = .ref T ∧ H T = none ∧ H' = upd H T (.tup [x, y]) ∧ (∀ xs, SqB b K H p xs → xs[i]? = some x) ∧ ∀ ys, SqB c K H q ys → ys[i]? = some y
  stop := fun i H => ∃ xs ys : List V, SqB b K H p xs ∧ SqB c K H q ys ∧ (xs.length ≤ i ∨ ys.length ≤ i)
/-- the cells of a zip as it goes -/
structure ZipM (b c : Bool) (z TI TO i1 i2 p q : Addr) (i : Nat) (h : Heap) : Prop where
  z : IsZip h z TI TO .none
  TI : IsTupOf2 h TI (.ref i1) (.ref i2)
  TO : ∃ x y, IsTupOf2 h TO x y
  i1 : IsIt b h i1 p i
  i2 : IsIt c h i2 q i
theorem turn_zipM {P : Program} {w : World} {K : PySem.W.Frag} {elts : List Expr} {kk : Nat} {tpos : Pos} {b c : Bool} {z TI TO i1 i2 p q : Addr} (D : ZipSep2 z TI TO i1 i2 [i1, p] [i2, q]) (n1 : p ≠ i1) (n2 : q ≠ i2) :
    Turn P w K (.Tuple elts kk tpos) (ItM b c K p q) [z, TI, TO, i1, i2] z (ZipM b c z TI TO i1 i2 p q) where
  mem := List.mem_cons_self
  obj := fun i h st x hx => by
    obtain ⟨hz, hTI, ⟨u, v, hTO⟩, h1, h2⟩ := st
    obtain ⟨o1, e1, d1⟩ := h1.obj
    obtain ⟨o2, e2, d2⟩ := h2.obj
    simp only [List.mem_cons, List.not_mem_nil, or_false] at hx
    rcases hx with rfl | rfl | rfl | rfl | rfl
    · exact ⟨_, hz, fun v q => nomatch q⟩
    · exact ⟨_, hTI, fun v q => nomatch q⟩
    · exact ⟨_, hTO, fun v q => nomatch q⟩
    · exact ⟨o1, e1, fun v q => by rw [d1] at q; cases q⟩
    · exact ⟨o2, e2, fun v q => by rw [d2] at q; cases q⟩
  keep := fun i h h' st k => by
    obtain ⟨hz, hTI, ⟨u, v, hTO⟩, h1, h2⟩ := st
    exact ⟨k z (by simp) _ hz, k TI (by simp) _ hTI, ⟨u, v, k TO (by simp) _ hTO⟩, h1.at fun o q => k i1 (by simp) o q, h2.at fun o q => k i2 (by simp) o q⟩
  item := by
    intro X hP hw hK hc i pins s σ H E I hf st hg
    subst hP hw hK
    obtain ⟨hz, hTI, ⟨u0, v0, hTO⟩, h1, h2⟩ := st
    obtain ⟨xs, ys, x, y, hqx, hqy, hx, hy⟩ := hg
    obtain ⟨its, rv, k1⟩ := inv_sq I hqx
    obtain ⟨its2, rv2, k2⟩ := inv_sq I hqy
    obtain ⟨u, hu, ru⟩ := rv.get hx
    obtain ⟨u2, hu2, ru2⟩ := rv2.get hy
    have hzl : z < s.heap.objs.size := Heap.lt_size hz
    have hh : X.A.in1.handled = none := I.ok.hd hc
    have a1 : i < its.toArray.size := by have := (List.getElem?_eq_some_iff.mp hu).1; simpa using this
    have a2 : i < its2.toArray.size := by have := (List.getElem?_eq_some_iff.mp hu2).1; simpa using this
    refine wpAny_pyNext_zipD2_item D (drwB (A := X.A.in1) b hh i1 p n1 its.toArray) (drwB (A := X.A.in1) c hh i2 q n2 its2.toArray) hz hTI hTO ⟨h1, k1⟩ ⟨h2, k2⟩ a1 a2 fun x1 x2 h' tk ex ey z' TO' s1 s2 hT hsz hk => ?_
    have eu : x1 = u := by
      have : its.toArray[i]? = some u := by simpa using hu
      rw [this] at ex; exact (Option.some.inj ex).symm
    have eu2 : x2 = u2 := by
      have : its2.toArray[i]? = some u2 := by simpa using hu2
      rw [this] at ey; exact (Option.some.inj ey).symm
    subst eu eu2
    refine ⟨_, rfl, wpAny_letOwnedTupleGo_zip (s := { s with heap := h', toks := tk }) z' fun h'' z'' sb => ?_⟩
    have hT2 : h''.get? s.heap.objs.size = some { cls := .type "tuple", data := .seq #[x1, x2] } := (sb.2 _ (Nat.ne_of_gt hzl)).trans hT
    have new : ObjOk X.prog X.w (upd H s.heap.objs.size (.tup [x, y])) h'' s.heap.objs.size (.tup [x, y]) :=
      ⟨show 2 ≤ sizeLine by decide, [x1, x2], .cons ru (.cons ru2 .nil), ⟨_, hT2, rfl, _, rfl⟩⟩
    have I1 : Inv X pins σ (upd H s.heap.objs.size (.tup [x, y])) { s with heap := h'', toks := tk } :=
      I.turnedNew (ch := [z, TI, TO, i1, i2]) (fun d o hb e => (sb.2 d (fun g => hb (by simp [g]))).trans (hk d o (fun g => hb (by simp [g])) (fun g => hb (by simp [g])) (fun g => hb (by simp [g])) (fun g => hb (by simp [g])) e)) hf (Nat.le_refl _) new
    have z1 : i1 ≠ z := fun e => D.zf1 (e ▸ List.mem_cons_self)
    have z2 : i2 ≠ z := fun e => D.zf2 (e ▸ List.mem_cons_self)
    refine ⟨.ref s.heap.objs.size, _, I1, rfl, ⟨_, x, y, rfl, I.hok.fresh (Nat.le_refl _), rfl, fun l hl => by rw [sq_inj I hl hqx]; exact hx, fun l hl => by rw [sq_inj I hl hqy]; exact hy⟩, ⟨z'', ?_, ⟨x1, x2, ?_⟩, ?_, ?_⟩, fun d hd => ?_⟩
    · exact (sb.2 _ D.TIz).trans (hk _ _ D.TIz D.TITO D.TIi1 D.TIi2 hTI)
    · exact (sb.2 _ D.TOz).trans TO'
    · exact s1.1.at fun o e => (sb.2 _ z1).trans e
    · exact s2.1.at fun o e => (sb.2 _ z2).trans e
    · have hlt : d < s.heap.objs.size := by
        simp only [List.mem_cons, List.not_mem_nil, or_false] at hd
        rcases hd with rfl | rfl | rfl | rfl | rfl
        · exact hzl
        · exact Heap.lt_size hTI
        · exact Heap.lt_size hTO
        · obtain ⟨_, e, _⟩ := h1.obj; exact Heap.lt_size e
        · obtain ⟨_, e, _⟩ := h2.obj; exact Heap.lt_size e
      rw [upd_ne (Nat.ne_of_lt hlt)]
      exact (hf d hd).1
  done := by
    intro X hP hw hK hc i pins s σ H E I hf st hg
    subst hP hw hK
    obtain ⟨hz, hTI, ⟨u0, v0, hTO⟩, h1, h2⟩ := st
    obtain ⟨xs, ys, hqx, hqy, hend⟩ := hg
    obtain ⟨its, rv, k1⟩ := inv_sq I hqx
    obtain ⟨its2, rv2, k2⟩ := inv_sq I hqy
    have hh : X.A.in1.handled = none := I.ok.hd hc
    have l1 : its.toArray.size = xs.length := by rw [rv.length]; simp
    have l2 : its2.toArray.size = ys.length := by rw [rv2.length]; simp
    have fin : ∀ h' tk, (∀ d o, d ≠ z → d ≠ TO → d ≠ i1 → d ≠ i2 → s.heap.get? d = some o → h'.get? d = some o) → Inv X pins σ H { s with heap := h', toks := tk } := fun h' tk hk =>
      I.turnedL (ch := [z, TI, TO, i1, i2]) (fun d o hb e => hk d o (fun g => hb (by simp [g])) (fun g => hb (by simp [g])) (fun g => hb (by simp [g])) (fun g => hb (by simp [g])) e) hf
    by_cases e1 : xs.length ≤ i
    · by_cases e2 : ys.length ≤ i
      · exact wpAny_pyNext_zipD2_end D (stpB (A := X.A.in1) b hh i1 p its.toArray (by omega)) (stpB (A := X.A.in1) c hh i2 q its2.toArray (by omega)) hz hTI hTO ⟨rfl, h1, k1⟩ ⟨rfl, h2, k2⟩ (Nat.le_refl _) (Nat.le_refl _) (.inl rfl) fun h' tk hk => ⟨rfl, fin h' tk hk⟩
      · exact wpAny_pyNext_zipD2_end D (stpB (A := X.A.in1) b hh i1 p its.toArray (by omega)) (drwB (A := X.A.in1) c hh i2 q n2 its2.toArray) hz hTI hTO ⟨rfl, h1, k1⟩ ⟨h2, k2⟩ (Nat.le_refl _) (by omega) (.inl rfl) fun h' tk hk => ⟨rfl, fin h' tk hk⟩
    · exact wpAny_pyNext_zipD2_end D (drwB (A := X.A.in1) b hh i1 p n1 its.toArray) (stpB (A := X.A.in1) c hh i2 q its2.toArray (by omega)) hz hTI hTO ⟨h1, k1⟩ ⟨rfl, h2, k2⟩ (by omega) (Nat.le_refl _) (.inr rfl) fun h' tk hk => ⟨rfl, fin h' tk hk⟩
  self := fun A i s Q E st h => wpAny_pyIter_zip st.z h
def iZipM (K : PySem.W.Frag) (ta : TA) : TI := fun σ H R => ta σ H fun vs H1 => ∃ p q xs ys b c, vs = [.ref p, .ref q] ∧ SqB b K H1 p xs ∧ SqB c K H1 q ys ∧ R (ItM b c K p q) H1
theorem pi_zipM {X : Cx} {e e2 : Expr} {ta : TA} {p pos tpos : Pos} {elts : List Expr} {kk : Nat} (hg : Gl X "zip") (hm : X.mg "zip" = none) (ha : PA X [e, e2] ta)
    (hs : starEach [e, e2] X.env = (false, eval e X.env) :: starEach [e2] X.env := by rfl) (hpl : (backTo pos (starEach [e2] X.env)).any (·.1) = false := by rfl) :
    PI X (.Tuple elts kk tpos) (.Call (.Name "zip" p) [e, e2] [] pos) (iZipM X.K ta) := by
  refine ⟨fun pins s σ H R I h => ?_⟩
  refine Call_ (ld_blt I hg hm PyProof.Rows.boot_zip (PyProof.Rows.callWith_type1 (thn (ha.run pos pins s σ H _ I h) fun us s1 ⟨vs, H1, I1, r1, q1⟩ => ?_) hs hpl))
  obtain ⟨p, q, xs, ys, b, c, ex, hqx, hqy, Q⟩ := q1
  subst ex
  cases r1 with
  | cons r rr =>
    cases rr with
    | cons r' rr =>
      cases rr
      cases r
      cases r'
      obtain ⟨its, rv, k1⟩ := inv_sq I1 hqx
      obtain ⟨its2, rv2, k2⟩ := inv_sq I1 hqy
      have pl := k1.lt
      have ql := k2.lt
      refine zip_begins2 (begB b p its.toArray) (begB c q its2.toArray) k1 k2 fun h' hz hTI hTO g1 g2 hsz hk => wpAny_pyIter_zip hz ?_
      have I2 : Inv X pins σ H1 { s1 with heap := h' } := I1.kept (t' := s1.toks) hk
      have S := zip_sep2 (N := s1.heap.objs.size) (fp1 := [p]) (fp2 := [q]) (fun d hd => by rw [List.mem_singleton.mp hd]; exact pl) (fun d hd => by rw [List.mem_singleton.mp hd]; exact ql)
      have fresh5 : ∀ d, d ∈ [s1.heap.objs.size + 4, s1.heap.objs.size + 2, s1.heap.objs.size + 3, s1.heap.objs.size, s1.heap.objs.size + 1] → FpOk X pins H1 d := fun d hd => by
        have hle : s1.heap.objs.size ≤ d := by
          simp only [List.mem_cons, List.not_mem_nil, or_false] at hd
          rcases hd with rfl | rfl | rfl | rfl | rfl
          · exact Nat.le_add_right _ _
          · exact Nat.le_add_right _ _
          · exact Nat.le_add_right _ _
          · exact Nat.le_refl _
          · exact Nat.le_add_right _ _
        exact I1.fpOk hle (I1.hok.fresh hle)
      have st1 : IsIt b h' s1.heap.objs.size p 0 := by
        cases b
        · exact ⟨_, g1, rfl, rfl⟩
        · exact ⟨_, g1, rfl, rfl⟩
      have st2 : IsIt c h' (s1.heap.objs.size + 1) q 0 := by
        cases c
        · exact ⟨_, g2, rfl, rfl⟩
        · exact ⟨_, g2, rfl, rfl⟩
      exact ⟨s1.heap.objs.size + 4, [s1.heap.objs.size + 4, s1.heap.objs.size + 2, s1.heap.objs.size + 3, s1.heap.objs.size, s1.heap.objs.size + 1], _, _, H1, rfl, I2, turn_zipM (b := b) (c := c) S (Nat.ne_of_lt pl) (Nat.ne_of_lt (Nat.lt_succ_of_lt ql)), ⟨hz, hTI, ⟨_, _, hTO⟩, st1, st2⟩, fresh5, Q⟩
/-! ### on data -/
/-- is it a tuple? -/
def tbD2 : D → Bool | .tup _ => true | .ptu _ => true | _ => false
section
variable {K : PySem.W.Frag} {m : M} {H : Hp} {v : V} {d : D}
theorem sqOf {ds : List D} (r : Rep K (hid m H) v d) (hm : MemOk K m H) (e : itsD (res m d) = some ds) : ∃ a vs, v = .ref a ∧ SqB (tbD2 d) K H a vs ∧ Reps K (hid m H) vs ds := by
  have no : ∀ x : D, res m d = x → tbD2 d = false → (∀ es, x ≠ .tup es) → ∃ a vs, v = .ref a ∧ SqB (tbD2 d) K H a vs ∧ Reps K (hid m H) vs ds := fun x ex hb hn => by
    rw [hb]
    refine lstOf r hm ?_
    rw [ex] at e ⊢
    cases x with
    | lst es => exact e
    | rol es => exact e
    | tup es => exact absurd rfl (hn es)
    | _ => cases e
  cases d with
  | tup es => exact tupOf r (by cases e; rfl)
  | ptu es => exact tupOf r (by cases e; rfl)
  | ref p =>
    refine no _ rfl rfl fun es h => ?_
    unfold res at h
    cases q : m p with
    | none => simp only [q] at h; cases h
    | some c => cases c <;> (simp only [q] at h; cases h)
  | _ => exact no _ rfl rfl fun es h => by cases h
end
@[irreducible] def zipMK (R : List D → (M → Prop) → M → Prop) (a b : D) (m1 : M) : Prop := Box <| ∃ xs ys, itsD (res m1 a) = some xs ∧ itsD (res m1 b) = some ys ∧ R (zipD xs ys) (fun m' => itsD (res m' a) = some xs ∧ itsD (res m' b) = some ys) m1
def iZipMU (ta : TA2) : TI2 := fun g m R => ta g m fun ds m1 => match ds with
  | [a, b] => zipMK R a b m1
  | _ => False
theorem zipMK_of {R : List D → (M → Prop) → M → Prop} {a b : D} {m1 : M} {xs ys : List D} (e1 : itsD (res m1 a) = some xs) (e2 : itsD (res m1 b) = some ys) (h : R (zipD xs ys) (fun m' => itsD (res m' a) = some xs ∧ itsD (res m' b) = some ys) m1) : zipMK R a b m1 := by unfold zipMK; exact ⟨⟨xs, ys, e1, e2, h⟩⟩
section
variable {X : Cx} {ω : Bx} {e e2 : Expr}
theorem zipMU {ta : TA2} {p pos tpos : Pos} {elts : List Expr} {kk : Nat} (hg : Gl X "zip") (hm : X.mg "zip" = none) (ha : PA2 X ω [e, e2] ta)
    (hs : starEach [e, e2] X.env = (false, eval e X.env) :: starEach [e2] X.env := by rfl) (hpl : (backTo pos (starEach [e2] X.env)).any (·.1) = false := by rfl) :
    PI2 X ω (.Tuple elts kk tpos) (.Call (.Name "zip" p) [e, e2] [] pos) (iZipMU ta) :=
  (pi_zipM hg hm pa_sem hs hpl).to2 fun σ H g m R S hmm q => (ha.sem S hmm q).mono fun vs H1 ⟨ds, m1, s1, r1, q1⟩ => by
    dsimp only at q1
    split at q1
    · rename_i a b
      obtain ⟨v1, v2, rfl, ra, rb⟩ := r1.two
      unfold zipMK at q1; replace q1 := q1.out
      obtain ⟨xs, ys, e1, e2, q1⟩ := q1
      obtain ⟨A, us, rfl, h1, h2⟩ := sqOf ra s1.mem e1
      obtain ⟨B, ws, rfl, h3, h4⟩ := sqOf rb s1.mem e2
      refine ⟨A, B, us, ws, tbD2 a, tbD2 b, rfl, h1, h3, _, _, m1, s1, ⟨fun i m' H' st hk hi => ?_, fun i m' H' st hk hi => ?_⟩, q1⟩
      · obtain ⟨A', us', e3, k1, k2⟩ := sqOf (ra.mono st.ex) st.mem hk.1
        obtain ⟨B', ws', e4, k3, k4⟩ := sqOf (rb.mono st.ex) st.mem hk.2
        cases e3; cases e4
        rw [zipD_len] at hi
        obtain ⟨dx, x, hdx, hx, rx⟩ := k2.inj_get (i := i) (by omega)
        obtain ⟨dy, y, hdy, hy, ry⟩ := k4.inj_get (i := i) (by omega)
        refine ⟨⟨us', ws', x, y, k1, k3, hx, hy⟩, fun v H'' yy => ?_⟩
        obtain ⟨T, x', y', rfl, hT, rfl, g1, g2⟩ := yy
        have := g1 _ k1
        rw [hx] at this; cases this
        have := g2 _ k3
        rw [hy] at this; cases this
        obtain ⟨st2, rr⟩ := zip_step st.mem hT rx ry
        exact ⟨_, zipD_get hdx hdy, st2, rr⟩
      · obtain ⟨A', us', e3, k1, k2⟩ := sqOf (ra.mono st.ex) st.mem hk.1
        obtain ⟨B', ws', e4, k3, k4⟩ := sqOf (rb.mono st.ex) st.mem hk.2
        cases e3; cases e4
        rw [zipD_len] at hi
        exact ⟨us', ws', k1, k3, by rw [k2.length, k4.length]; omega⟩
    · exact q1.elim
end
end Z

/-! Z52: a dict of whole numbers sorted; its values and its pairs walked. -/
namespace Z
open PySem PySem.Spec PyProof.Rows L2
@[irreducible] def sortDIK (x : D) (m : M) (Q : Kd) : Prop := Box <| ∃ (l : List (Key × D)) (zs : List Int), res m x = tbD l ∧ l.map (·.1) = zs.map Sum.inl ∧ zs.length < 64 ∧ ∀ ys : List Int, ys.Perm zs → ys.Pairwise (· ≤ ·) → Q (.lst (ys.map D.int)) m
theorem sort_di {x : D} {m : M} {Q : Kd} {l : List (Key × D)} (zs : List Int) (e : res m x = tbD l) (h : l.map (·.1) = zs.map Sum.inl) (hl : zs.length < 64) (q : ∀ ys : List Int, ys.Perm zs → ys.Pairwise (· ≤ ·) → Q (.lst (ys.map D.int)) m) : sortDIK x m Q := by unfold sortDIK; exact ⟨⟨l, zs, e, h, hl, q⟩⟩
def kSortDI : RC2 := fun xs m Q => match xs with | [x] => sortDIK x m Q | _ => False
def rSortDI : List V → Hp → VK → Prop := fun xs H Q => ∃ (a : Addr) (kvs : List (Key × V)) (ks : List Int), xs = [.ref a] ∧ Rd H a (.dK kvs) ∧ kvs.map (·.1) = ks.map Sum.inl ∧ ks.length < 64 ∧
    ∀ (ys : List Int) (p : Addr), ys.Perm ks → ys.Pairwise (· ≤ ·) → H p = none → Q (.ref p) (upd H p (.lst (ys.map V.int)))
theorem ints_rep {K : PySem.W.Frag} {G : Hp} : ∀ ys : List Int, Reps K G (ys.map V.int) (ys.map D.int)
  | [] => .nil
  | i :: r => .cons (.int i) (ints_rep r)
theorem kc_sortDI {K : PySem.W.Frag} : CvC K rSortDI kSortDI := fun H m ds vs Q Q' hm r h k => by
  unfold kSortDI at h
  split at h
  · unfold sortDIK at h
    obtain ⟨l, zs, e, h1, h2, q⟩ := h.out
    obtain ⟨v1, rfl, ra⟩ := one_rep r
    obtain ⟨a, ls, rfl, g1, g2⟩ := tabOf ra hm e
    exact ⟨a, ls, zs, rfl, g1, by rw [g2.keys]; exact h1, h2, fun ys p hp hs hq => k _ _ (.new hm hq (.lst (Step.new_at hm hq) (ints_rep ys)) (q ys hp hs))⟩
  · exact h.elim
/-- walks over a dict that is never changed -/
@[irreducible] def valsK (R : List D → (M → Prop) → M → Prop) (d : D) (m1 : M) : Prop := Box <| ∃ l, d = fdD l ∧ R (l.map fun p => p.2) (fun _ => True) m1
theorem valsK_of {R : List D → (M → Prop) → M → Prop} {l : List (Key × D)} {m1 : M} (q : R (l.map fun p => p.2) (fun _ => True) m1) : valsK R (fdD l) m1 := by unfold valsK; exact ⟨⟨l, rfl, q⟩⟩
def iValsU (tl : TE2) : TI2 := fun g m R => tl g m fun d m1 => valsK R d m1
@[irreducible] def itemsK (R : List D → (M → Prop) → M → Prop) (d : D) (m1 : M) : Prop := Box <| ∃ l, d = fdD l ∧ R (l.map fun p => .tup [keyV p.1, p.2]) (fun _ => True) m1
theorem itemsK_of {R : List D → (M → Prop) → M → Prop} {l : List (Key × D)} {m1 : M} (q : R (l.map fun p => .tup [keyV p.1, p.2]) (fun _ => True) m1) : itemsK R (fdD l) m1 := by unfold itemsK; exact ⟨⟨l, rfl, q⟩⟩
def iItemsU (tl : TE2) : TI2 := fun g m R => tl g m fun d m1 => itemsK R d m1
section
variable {X : Cx} {ω : Bx} {p pos apos cpos tpos : Pos} {e tg : Expr} {es elts : List Expr} {kk : Nat} {t : TA2} {te : TE2}
theorem sortedDIU (hc : X.calm = true) (hg : Gl X "sorted") (hm : X.mg "sorted" = none) (ha : PA2 X ω (e :: es) t) (he : starEach (e :: es) X.env = (false, eval e X.env) :: starEach es X.env := by rfl) (hpl : (backTo pos (starEach es X.env)).any (·.1) = false := by rfl) : PE2 X ω (.Call (.Name "sorted" p) (e :: es) [] pos) (tCB2 kSortDI t) :=
  q_callB (call_sortedDI hc) kc_sortDI hg hm bt_sorted ha (by decide) (by decide) he hpl
theorem zip_at2 {l : List (Key × D)} {vs : List V} {i : Nat} {k : Key} {v : V} (h : ((l.map (·.1)).zip vs)[i]? = some (k, v)) : ∃ d, l[i]? = some (k, d) ∧ vs[i]? = some v := by
  rw [List.getElem?_zip_eq_some] at h
  obtain ⟨e1, e2⟩ := h
  rw [List.getElem?_map] at e1
  cases hq : l[i]? with
  | none => rw [hq] at e1; cases e1
  | some z => rw [hq] at e1; cases e1; exact ⟨z.2, rfl, e2⟩
theorem valsU (hl : PE2 X ω e te) (hb : attributeBase e "values" X.env (eval e X.env) = eval e X.env := by rfl) (hln : (apos.endLine == cpos.line) = true := by rfl) : PI2 X ω tg (.Call (.Attribute e "values" apos) [] [] cpos) (iValsU te) :=
  (pi_values pe_sem hb hln).to2 fun σ H g m R S hm q => (hl.sem S hm q).mono fun v H1 ⟨d, m1, s1, r1, q1⟩ => by
    dsimp only at q1
    unfold valsK at q1
    obtain ⟨l, rfl, q2⟩ := q1.out
    unfold fdD at r1
    cases r1 with
    | @fdi a _ vs _ o h1 h0 h2 =>
      refine ⟨a, o, _, rfl, hid_ex _ _ h1, _, _, m1, s1, ⟨fun i m' H' st _ hi => ?_, fun i m' H' st _ hi => ?_⟩, q2⟩
      · have hk := (st.keep a _ (hid_ex _ _ h1) (hid_some h1).1).1
        rw [List.length_map] at hi
        refine ⟨⟨hk, ?_⟩, fun w H'' y => ?_⟩
        · rw [List.length_zip, ← h0, Nat.min_self, List.length_map]; exact hi
        · obtain ⟨rfl, k, hkv⟩ := y
          obtain ⟨d, e1, e2⟩ := zip_at2 hkv
          obtain ⟨x, y', hx, hy, rx⟩ := h2.inj_get (i := i) (by rw [List.length_map]; exact hi)
          rw [e2] at hy; cases hy
          rw [List.getElem?_map, e1] at hx; cases hx
          exact ⟨d, by rw [List.getElem?_map, e1]; rfl, .refl st.mem, rx.mono st.ex⟩
      · have hk := (st.keep a _ (hid_ex _ _ h1) (hid_some h1).1).1
        rw [List.length_map] at hi
        refine ⟨hk, ?_⟩
        rw [List.length_zip, ← h0, Nat.min_self, List.length_map]; exact hi
theorem itemsU (hl : PE2 X ω e te) (hb : attributeBase e "items" X.env (eval e X.env) = eval e X.env := by rfl) (hln : (apos.endLine == cpos.line) = true := by rfl) : PI2 X ω (.Tuple elts kk tpos) (.Call (.Attribute e "items" apos) [] [] cpos) (iItemsU te) :=
  (pi_items pe_sem hb hln).to2 fun σ H g m R S hm q => (hl.sem S hm q).mono fun v H1 ⟨d, m1, s1, r1, q1⟩ => by
    dsimp only at q1
    unfold itemsK at q1
    obtain ⟨l, rfl, q2⟩ := q1.out
    unfold fdD at r1
    cases r1 with
    | @fdi a _ vs _ o h1 h0 h2 =>
      refine ⟨a, o, _, rfl, hid_ex _ _ h1, _, _, m1, s1, ⟨fun i m' H' st _ hi => ?_, fun i m' H' st _ hi => ?_⟩, q2⟩
      · have hk := (st.keep a _ (hid_ex _ _ h1) (hid_some h1).1).1
        rw [List.length_map] at hi
        refine ⟨⟨hk, ?_⟩, fun w H'' y => ?_⟩
        · rw [List.length_zip, ← h0, Nat.min_self, List.length_map]; exact hi
        · obtain ⟨T, k, v, hkv, rfl, hT, rfl⟩ := y
          obtain ⟨d, e1, e2⟩ := zip_at2 hkv
          obtain ⟨x, y', hx, hy, rx⟩ := h2.inj_get (i := i) (by rw [List.length_map]; exact hi)
          rw [e2] at hy; cases hy
          rw [List.getElem?_map, e1] at hx; cases hx
          obtain ⟨st2, rr⟩ := zip_step st.mem hT (keyV_rep k) (rx.mono st.ex)
          exact ⟨_, by rw [List.getElem?_map, e1]; rfl, st2, rr⟩
      · have hk := (st.keep a _ (hid_ex _ _ h1) (hid_some h1).1).1
        rw [List.length_map] at hi
        refine ⟨hk, ?_⟩
        rw [List.length_zip, ← h0, Nat.min_self, List.length_map]; exact hi
end
end Z

/-! Z53: a tuple taken no times. -/
namespace Z
open PySem PySem.Spec PyProof.Rows L2
section
variable {X : Cx} {ω : Bx} {a b : Expr} {ta tb : TE2} {pos : Pos} {K : PySem.W.Frag}
theorem tuple_none (l : Addr) (xs : Array Value) (n : Nat) (dd : Option Addr) (sl : Array (Option Value)) (u : Tok) (hi : xs.isEmpty = false) :
    Meets (Builtin.«tuple.__mul__» ⟨[.ref l, .int 0 u], []⟩) (fun _ R s => s.heap.get? l = some { cls := .type "tuple", dict := dd, data := .seq xs n, slots := sl } ∧
      R (.ok (.ret (Value.ref s.heap.objs.size))) { s with heap := s.heap.push { cls := Value.type "tuple", data := Data.seq #[] }, toks := s.toks }) :=
  .of_wp fun prog w A R s h => by
    obtain ⟨hp, g, d, tk, os⟩ := s
    obtain ⟨hl, h⟩ := h
    have f1 := AutoSeq1.idx_int
    have c1 : (xs.isEmpty || (0 : Int) == 1) = false := by rw [hi]; rfl
    have c2 : (decide ((0 : Int) ≤ 0) || xs.isEmpty) = true := rfl
    wp_walk using wpAny_loadPart' hl
    repeat (first
      | (refine wpAny_ite_false (decide_eq_false (by rw [c1]; exact Bool.false_ne_true)) ?_; wp_walk using wpAny_loadPart' hl)
      | (refine wpAny_ite_true (decide_eq_true c2) ?_; wp_walk using wpAny_loadPart' hl))
    exact ⟨_, rfl, h⟩
def rRep0 (K : PySem.W.Frag) : R2 := fun x y H Q => ∃ l xs, x = .ref l ∧ y = .int 0 ∧ SqT K H l xs ∧ xs ≠ [] ∧ ∀ p, H p = none → Q (.ref p) (upd H p (.tup []))
theorem op_rep0 : OpR X (binaryOp .Mult) (rRep0 X.K) := by
  intro pins s σ H x y v u Q I rx ry h
  obtain ⟨l, xs, rfl, rfl, hT, hne, q⟩ := h
  cases rx
  obtain ⟨t, rfl⟩ := ry
  obtain ⟨its, r, ⟨⟨cls, dd, data, sl⟩, ho, hc, n, hd⟩, hs⟩ := I.tuple hT
  simp only at hc hd
  subst hc hd
  have hle : its.length = xs.length := r.length.symm
  have hn : its ≠ [] := fun e => hne (by
    rw [e] at hle
    exact List.eq_nil_of_length_eq_zero hle.symm)
  have hi : its.toArray.isEmpty = false := by
    cases its with
    | nil => exact absurd rfl hn
    | cons a b => rfl
  refine wpAny_binaryOp_repeat_ref (T := "tuple") (U := "int") (by decide) ⟨_, ho, rfl⟩ (fun s' => typeIs_int s' 0 t) noFill_tuple_mul F.fills_int_mul F.slot_int_rmul repeat_tuple F.slot_int_index.lookup
    (call_meets F.slot_int_rmul (typeIs_int s 0 t) F.entry_int_rmul (F.args_int_rmul_2 _ _) (int_rmul_tuple 0 t l its.toArray n dd sl)
      ⟨ho, rfl, ⟨_, ho, rfl⟩, call_meets F.slot_tuple_mul ⟨_, ho, rfl⟩ F.entry_tuple_mul (F.args_tuple_mul_2 _ _) (tuple_none l its.toArray n dd sl t hi) ⟨ho, ?_⟩⟩)
  refine ⟨.ref s.heap.objs.size, _, I.laid (t' := s.toks) (o := .tup []) (fun b ob q => Heap.get?_push_of_some _ q) (Nat.le_refl _) ?_, rfl, q _ (I.hok.fresh (Nat.le_refl _))⟩
  exact ⟨Nat.zero_le _, [], .nil, IsTup.new _ _⟩
/-- times, no times too -/
@[irreducible] def oMulZ : R22 := fun x y m Q => Box <| (∃ xs, res m x = .tup xs ∧ xs ≠ [] ∧ y = .int 0 ∧ Q (.tup []) m) ∨ oMulU x y m Q
theorem mulZ_0 {m : M} {x : D} {xs : List D} {k : Int} {Q : Kd} (h : res m x = .tup xs) (h1 : xs ≠ []) (h2 : k = 0) (q : Q (.tup []) m) : oMulZ x (.int k) m Q := by subst h2; unfold oMulZ; exact ⟨.inl ⟨xs, h, h1, rfl, q⟩⟩
theorem mulZ_u {m : M} {x y : D} {Q : Kd} (q : oMulU x y m Q) : oMulZ x y m Q := by unfold oMulZ; exact ⟨.inr q⟩
def rMulZ (K : PySem.W.Frag) : R2 := fun x y H Q => rRep0 K x y H Q ∨ rMulU K x y H Q
theorem cv_mulZ : Cv2 K (rMulZ K) oMulZ := fun H m dx dy x y Q Q' hm rx ry h k => by
  unfold oMulZ at h
  rcases h.out with ⟨xs, e1, h1, rfl, q⟩ | h
  · cases ry
    obtain ⟨a1, v1, rfl, h2, r1⟩ := tupOf rx e1
    refine .inl ⟨a1, v1, rfl, rfl, h2, fun z => ?_, fun p hp => k _ _ (.new hm hp (.tup (SqT.of (Step.new_at hm hp)) .nil) q)⟩
    subst z
    cases r1
    exact h1 rfl
  · exact .inr (cv_mulU H m dx dy x y Q Q' hm rx ry h k)
theorem mulZ (ha : PE2 X ω a ta) (hb : PE2 X ω b tb) : PE2 X ω (.BinOp a .Mult b pos) (tOp2 oMulZ ta tb) := q_op (op_rep0.or op_mulU) cv_mulZ ha hb
end
def sp6 (p : D → D → D → D → D → D → M → Kd → Prop) : Sp2 := fun ds m Q _ => match ds with | [a, b, c, d, e, g] => p a b c d e g m Q | _ => False
section
variable {P : Program} {w : World} {K : PySem.W.Frag} {mg : Str → Option Value} {base : Heap} {x : Str} {st : Stmt} {f : Addr} {fd : FuncData} {N ps : List Str} {k : Nat}
theorem fn6 {p : D → D → D → D → D → D → M → Kd → Prop} (F : FunZ K x x st f fd) (S : FnScope N ps (defScope st)) (hl : ps.length = 6) (body : BodyAt P w K mg base N x st f k fun t => ∀ a b c d e g m Q, p a b c d e g m Q → t (Ew Q) (st0 N.length [a, b, c, d, e, g]) m) : FnOk P w K mg base CX0 (k + 1) f fd ps (lift K (sp6 p)) := by
  refine fun_ok F S (fun ds m Q E h => ?_) fun cdv A outer s H E hr => ?_
  · unfold sp6 at h
    split at h
    · exact hl.symm
    · exact h.elim
  · obtain ⟨t, h1, h2⟩ := body cdv A outer s H E hr
    refine ⟨t, h1, fun ds m Q E2 h => ?_⟩
    unfold sp6 at h
    split at h
    · exact h2 _ _ _ _ _ _ _ _ h
    · exact h.elim
end
end Z

/-! Z54: an owned dict at a name, locked from a statement on. -/
namespace Z
open PySem PySem.Spec PyProof.Rows L2
theorem SlotOk.put {K : PySem.W.Frag} {ω : Bx} {g : Sl} {σ : St} {G : Hp} (s : SlotOk K ω g σ G) {i : Nat} {v : V} {d : D} (h : σ[i]? = some (some v)) (r : Rep K G v d) : SlotOk K ω (g.set i (some d)) σ G := by
  refine ⟨s.tie, by rw [List.length_set]; exact s.len, fun j e k => ?_⟩
  by_cases hj : i = j
  · subst hj
    by_cases hl : i < g.length
    · rw [List.getElem?_set_self hl] at k
      cases k
      exact ⟨v, h, r⟩
    · rw [List.getElem?_eq_none (by rw [List.length_set]; omega)] at k; cases k
  · rw [List.getElem?_set_ne hj] at k
    exact s.val j e k
/-- from here on the dict at the place is never changed -/
def tLockD (i : Nat) (t : TS2) : TS2 := fun E g m => ∃ l dl, g[i]? = some (some (.ref l)) ∧ m l = some (tbC dl) ∧ t E (g.set i (some (fdD dl))) (dropM m l)
theorem qs_lockD {X : Cx} {ω : Bx} {sts : List Stmt} {t : TS2} {i : Nat} (h : PSs2 X ω sts t) : PSs2 X ω sts (tLockD i t) := ⟨fun {σ H g m E} S hm ⟨l, dl, hg, hl, q⟩ pins s I => by
  obtain ⟨v, hv, rv⟩ := S.val i _ hg
  have e : v = .ref l := by cases rv; rfl
  subst e
  obtain ⟨ls, h1, h2⟩ := tabAt hm hl
  obtain ⟨od, I2⟩ := I.lock h1 (show Mut (some (.dK ls)) from trivial)
  have st2 := Step.frz (o := .frz od (.dK ls)) hm hl
  have r := (h2.mono st2.ex).repF (hid_of Z.dropM_same upd_same)
  exact cE_go st2 (h.sem ((S.mono st2.ex).put hv r) st2.mem q) pins s I2⟩
/-! ### list(d), d.clear() -/
@[irreducible] def lstDK (x : D) (m : M) (Q : Kd) : Prop := Box <| ∃ l, res m x = tbD l ∧ Q (.lst (l.map fun p => keyV p.1)) m
theorem lst_d {x : D} {m : M} {Q : Kd} {l : List (Key × D)} (e : res m x = tbD l) (q : Q (.lst (l.map fun p => keyV p.1)) m) : lstDK x m Q := by unfold lstDK; exact ⟨⟨l, e, q⟩⟩
def kLstD : RC2 := fun xs m Q => match xs with | [x] => lstDK x m Q | _ => False
theorem keys_rep {K : PySem.W.Frag} {G : Hp} : ∀ ks : List Key, Reps K G (ks.map kV) (ks.map keyV)
  | [] => .nil
  | i :: r => .cons (keyV_rep i) (keys_rep r)
def rLstD : List V → Hp → VK → Prop := fun xs H Q => ∃ (a : Addr) (kvs : List (Key × V)), xs = [.ref a] ∧ Rd H a (.dK kvs) ∧ ∀ p, H p = none → Q (.ref p) (upd H p (.lst (kvs.map fun kv => kV kv.1)))
theorem kc_lstD {K : PySem.W.Frag} : CvC K rLstD kLstD := fun H m ds vs Q Q' hm r h k => by
  unfold kLstD at h
  split at h
  · unfold lstDK at h
    obtain ⟨l, e, q⟩ := h.out
    obtain ⟨v1, rfl, ra⟩ := one_rep r
    obtain ⟨a, ls, rfl, g1, g2⟩ := tabOf ra hm e
    have e1 : (ls.map fun kv => kV kv.1) = (l.map (·.1)).map kV := by rw [← g2.keys, List.map_map]; rfl
    have e2 : (l.map fun p => keyV p.1) = (l.map (·.1)).map keyV := by rw [List.map_map]; rfl
    refine ⟨a, ls, rfl, g1, fun p hp => k _ _ (.new hm hp (.lst (Step.new_at hm hp) ?_) q)⟩
    rw [e1, e2]
    exact keys_rep _
  · exact h.elim
@[irreducible] def clrK (d : D) (m : M) (Q : Kd) : Prop := Box <| ∃ p l, d = .ref p ∧ m p = some (tbC l) ∧ Q .non (upM m p (tbC []))
theorem clr_d {p : Addr} {m : M} {Q : Kd} {l : List (Key × D)} (e : m p = some (tbC l)) (q : Q .non (upM m p (tbC []))) : clrK (.ref p) m Q := by unfold clrK; exact ⟨⟨p, l, rfl, e, q⟩⟩
def mClr : RM2 := fun d ds m Q => match ds with | [] => clrK d m Q | _ => False
theorem cm_clr {K : PySem.W.Frag} : CvM K "dict" rDClear mClr := fun H m d v ds vs Q Q' hm r rs h k => by
  unfold mClr at h
  split at h
  · unfold clrK at h
    obtain ⟨p, l, rfl, hp, q⟩ := h.out
    cases rs
    have hv : v = .ref p := by cases r; rfl
    subst hv
    obtain ⟨ls, h1, h2⟩ := tabAt hm hp
    have st := Step.upM (c := tbC []) (o := .dK []) hm hp ⟨[], upd_same, rfl, .nil⟩
    exact ⟨p, ls, rfl, rfl, h1, k _ _ ⟨.non, _, st, .non, q⟩⟩
  · exact h.elim
/-- one's own dict -/
def isTbR : D → M → Prop := fun d m => ∃ p l, d = .ref p ∧ m p = some (tbC l)
theorem ct_tbR {K : PySem.W.Frag} : CvT K "dict" isTbR := fun H m d v hm r ⟨p, l, e, hp⟩ => by
  subst e
  have hv : v = .ref p := by cases r; rfl
  subst hv
  obtain ⟨ls, h1, h2⟩ := tabAt hm hp
  exact .inr (.inr (.inl ⟨rfl, .inl ⟨_, h1⟩⟩))
section
variable {X : Cx} {ω : Bx} {p pos apos cpos : Pos} {o e : Expr} {es : List Expr} {t : TA2} {to te : TE2}
theorem listDU (hc : X.calm = true) (hg : Gl X "list") (hm : X.mg "list" = none) (ha : PA2 X ω (e :: es) t) (he : starEach (e :: es) X.env = (false, eval e X.env) :: starEach es X.env := by rfl) (hpl : (backTo pos (starEach es X.env)).any (·.1) = false := by rfl) : PE2 X ω (.Call (.Name "list" p) (e :: es) [] pos) (tCB2 kLstD t) :=
  q_callTy (call_listD hc) kc_lstD hg hm bt_list ha (by decide) (by decide) he hpl
theorem m_clear0M (ho : PE2 X ω o to) (hbase : attributeBase o "clear" X.env (eval o X.env) = eval o X.env := by rfl)
    (hline : (apos.endLine == cpos.line) = true := by rfl) : PE2 X ω (.Call (.Attribute o "clear" apos) [] [] cpos) (tBM02 isTbR mClr to) :=
  q_bm0 PySem.F.plainAttrs_dict PySem.F.slot_dict_clear PySem.F.type_dict_clear mtd_clear cm_clr ct_tbR ho hbase hline
end
/-- as lc_stR; what isn't the state's is kept -/
theorem lc_stK {tg : TG2} {te : TE2} {vs : List Nat} {g : Sl} {m1 : M} {ds : List D} {keep : M → Prop} {Q : Kd} {p : Addr} (R : D → D → Prop) (hs : StAt p m1 m1) (hl : ds.length ≤ sizeLine) (hk : ∀ mm, (∀ a c, a ≠ p → m1 a = some c → mm a = some c) → keep mm)
    (he : ∀ d ∈ ds, ∀ mm, StAt p mm mm → (∀ a c, a ≠ p → m1 a = some c → mm a = some c) → ∀ k : Kd, (∀ y mm', R d y → StAt p mm mm' → k y mm') → tg d (wipe2 g vs) mm fun g2 m2 => te g2 m2 k) (hq : ∀ ys m', ys.length = ds.length → (∀ (j : Nat) (y : D), ys[j]? = some y → ∃ d, ds[j]? = some d ∧ R d y) → StAt p m1 m' → Q (.lst ys) m') : LcG tg tYes2 te vs g Q ds keep m1 := by
  refine LcG.mk hl (fun i acc m' => acc.length = i ∧ (∀ (j : Nat) (y : D), acc[j]? = some y → ∃ d, ds[j]? = some d ∧ R d y) ∧ StAt p m1 m') ⟨rfl, fun _ _ h => (by simp at h), hs⟩ ?_
  rintro i acc m' ⟨rfl, hP, hm⟩
  have hkeep : ∀ Dl, m' Dl = none → ∀ a c, a ≠ p → m1 a = some c → upM m' Dl (.lst acc) a = some c := fun Dl hD a c ha h => by
    have h' : m' a = some c := by rw [hm.ne ha]; exact h
    rw [upM_ne (ne_ofM h' hD)]
    exact h'
  refine ⟨fun Dl hD => ⟨hk _ (hkeep Dl hD), fun d hd => ?_⟩, fun e => hq _ _ e hP hm⟩
  have hmem := List.mem_of_getElem? hd
  obtain ⟨st, hst, hat⟩ := hm.at
  have hne : p ≠ Dl := ne_ofM hat hD
  have h2 : StAt p (upM m' Dl (.lst acc)) (upM m' Dl (.lst acc)) := StAt.mk (by rw [upM_ne hne]; exact hat) hst
  refine he d hmem _ h2 (hkeep Dl hD) _ fun y mm' hy hmm => ?_
  obtain ⟨st', hst', rfl⟩ := hmm
  refine ⟨upM m' p (.lst st'), upM_comm hne.symm, by rw [upM_ne hne.symm]; exact hD, by simp, ?_, hm.trans ⟨st', hst', rfl⟩⟩
  intro j z hz
  by_cases hj : j < acc.length
  · rw [List.getElem?_append_left hj] at hz
    exact hP j z hz
  · rw [List.getElem?_append_right (by omega)] at hz
    have hj0 : j - acc.length = 0 := by
      cases e : j - acc.length with
      | zero => rfl
      | succ n => rw [e] at hz; simp at hz
    rw [hj0] at hz
    cases hz
    have : j = acc.length := by omega
    subst this
    exact ⟨d, hd, hy⟩
end Z

/-! Z55: a few equations in more unknowns have a small answer; so a turned table's numbers are small. -/
namespace Z
/-! ### digits -/
theorem dig_inj {b : Nat} (hb : 0 < b) : ∀ (n i j : Nat), i < b ^ n → j < b ^ n → (∀ m, m < n → i / b ^ m % b = j / b ^ m % b) → i = j
  | 0, i, j, hi, hj, _ => by rw [Nat.pow_zero] at hi hj; omega
  | n + 1, i, j, hi, hj, h => by
    have h0 := h 0 (Nat.succ_pos n)
    rw [Nat.pow_zero, Nat.div_one, Nat.div_one] at h0
    have hp : b ^ (n + 1) = b ^ n * b := Nat.pow_succ ..
    have k : i / b = j / b := dig_inj hb n (i / b) (j / b) (Nat.div_lt_of_lt_mul (by rw [Nat.mul_comm, ← hp]; exact hi)) (Nat.div_lt_of_lt_mul (by rw [Nat.mul_comm, ← hp]; exact hj)) fun m hm => by
      have := h (m + 1) (by omega)
      rw [Nat.pow_succ, Nat.mul_comm, ← Nat.div_div_eq_div_mul, ← Nat.div_div_eq_div_mul] at this
      exact this
    rw [← Nat.div_add_mod i b, ← Nat.div_add_mod j b, k, h0]
/-- numbers below S told as one -/
def cod (S : Nat) : List Nat → Nat
  | [] => 0
  | t :: r => cod S r * S + t
theorem cod_lt {S : Nat} : ∀ {ts : List Nat}, (∀ t ∈ ts, t < S) → cod S ts < S ^ ts.length
  | [], _ => Nat.one_pos
  | t :: r, h => by
    have h1 := h t List.mem_cons_self
    have h2 := cod_lt (S := S) (ts := r) fun x hx => h x (List.mem_cons_of_mem _ hx)
    show cod S r * S + t < S ^ (r.length + 1)
    rw [Nat.pow_succ]
    have : (cod S r + 1) * S ≤ S ^ r.length * S := Nat.mul_le_mul_right _ h2
    rw [Nat.succ_mul] at this
    omega
theorem cod_inj {S : Nat} : ∀ {ts us : List Nat}, ts.length = us.length → (∀ t ∈ ts, t < S) → (∀ t ∈ us, t < S) → cod S ts = cod S us → ts = us
  | [], [], _, _, _, _ => rfl
  | [], _ :: _, h, _, _, _ => by simp at h
  | _ :: _, [], h, _, _, _ => by simp at h
  | t :: r, u :: s, hl, h1, h2, e => by
    have a1 := h1 t List.mem_cons_self
    have a2 := h2 u List.mem_cons_self
    have e : cod S r * S + t = cod S s * S + u := e
    have m1 : (cod S r * S + t) % S = t := by rw [Nat.add_comm, Nat.add_mul_mod_self_right, Nat.mod_eq_of_lt a1]
    have m2 : (cod S s * S + u) % S = u := by rw [Nat.add_comm, Nat.add_mul_mod_self_right, Nat.mod_eq_of_lt a2]
    have et : t = u := by rw [← m1, ← m2, e]
    subst et
    have e2 : cod S r * S = cod S s * S := by omega
    have e3 : cod S r = cod S s := Nat.eq_of_mul_eq_mul_right (by omega) e2
    rw [cod_inj (by simpa using hl) (fun x hx => h1 x (List.mem_cons_of_mem _ hx)) (fun x hx => h2 x (List.mem_cons_of_mem _ hx)) e3]
/-! ### sums -/
def sumZ : List Int → (Int → Int) → Int
  | [], _ => 0
  | f :: r, g => g f + sumZ r g
theorem sumZ_sub {g h : Int → Int} : ∀ {fs : List Int}, sumZ fs (fun f => g f - h f) = sumZ fs g - sumZ fs h
  | [] => rfl
  | f :: r => by show (g f - h f) + sumZ r _ = (g f + sumZ r g) - (h f + sumZ r h); rw [sumZ_sub]; omega
theorem sumZ_congr {g h : Int → Int} : ∀ {fs : List Int}, (∀ f ∈ fs, g f = h f) → sumZ fs g = sumZ fs h
  | [], _ => rfl
  | f :: r, k => by
    show g f + sumZ r g = h f + sumZ r h
    rw [k f List.mem_cons_self, sumZ_congr fun x hx => k x (List.mem_cons_of_mem _ hx)]
theorem sumZ_abs {g : Int → Int} {C : Nat} : ∀ {fs : List Int}, (∀ f ∈ fs, (g f).natAbs ≤ C) → (sumZ fs g).natAbs ≤ fs.length * C
  | [], _ => Nat.zero_le _
  | f :: r, h => by
    have h1 := h f List.mem_cons_self
    have h2 := sumZ_abs (fs := r) fun x hx => h x (List.mem_cons_of_mem _ hx)
    show (g f + sumZ r g).natAbs ≤ (r.length + 1) * C
    rw [Nat.succ_mul]
    omega
theorem sumZ_cast {g : Int → Int} : ∀ {fs : List Int}, ((sumZ fs g : Int) : Rat) = sumF fs fun f => (g f : Rat)
  | [] => rfl
  | f :: r => by show ((g f + sumZ r g : Int) : Rat) = (g f : Rat) + sumF r _; rw [← sumZ_cast]; push_cast; rfl
/-! ### a small answer -/
theorem siegel {vs : List Int} (hn : vs.Nodup) {es : List (Int → Int)} (h : es.length < vs.length) {B : Nat} (hB1 : 1 ≤ B) (hB : ∀ e ∈ es, ∀ w ∈ vs, (e w).natAbs ≤ B) :
    ∃ v : Int → Int, (∃ w ∈ vs, v w ≠ 0) ∧ (∀ w, (v w).natAbs ≤ (2 * vs.length * B) ^ es.length) ∧ (∀ w, w ∉ vs → v w = 0) ∧ ∀ e ∈ es, sumZ vs (fun w => e w * v w) = 0 := by
  obtain ⟨X, hX⟩ : ∃ X, X = (2 * vs.length * B) ^ es.length := ⟨_, rfl⟩
  obtain ⟨S, hS⟩ : ∃ S, S = 2 * (vs.length * (B * X)) + 1 := ⟨_, rfl⟩
  have hnB : 1 ≤ 2 * vs.length * B := Nat.mul_pos (by omega) hB1
  have hX1 : 1 ≤ X := by rw [hX]; exact Nat.pow_pos hnB
  -- digits of a number
  let D : Nat → Int → Int := fun c w => if w ∈ vs then ((c / (X + 1) ^ (vs.idxOf w) % (X + 1) : Nat) : Int) else 0
  have hD : ∀ c w, 0 ≤ D c w ∧ D c w ≤ X := fun c w => by
    show 0 ≤ (if w ∈ vs then _ else _) ∧ (if w ∈ vs then _ else _) ≤ _
    split
    · have := Nat.mod_lt (c / (X + 1) ^ (vs.idxOf w)) (show 0 < X + 1 by omega)
      omega
    · omega
  let t : Nat → List Nat := fun c => es.map fun e => (sumZ vs (fun w => e w * D c w) + (vs.length * (B * X) : Nat)).toNat
  have hs : ∀ c, ∀ e ∈ es, (sumZ vs fun w => e w * D c w).natAbs ≤ vs.length * (B * X) := fun c e he => sumZ_abs fun w hw => by
    rw [Int.natAbs_mul]
    exact Nat.mul_le_mul (hB e he w hw) (by have := hD c w; omega)
  have ht : ∀ c, ∀ x ∈ t c, x < S := fun c x hx => by
    obtain ⟨e, he, rfl⟩ := List.mem_map.mp hx
    have := hs c e he
    omega
  have hl : ∀ c, (t c).length = es.length := fun c => List.length_map ..
  have hSX : S ≤ 2 * vs.length * B * (X + 1) := by
    have e1 : 2 * (vs.length * (B * X)) = 2 * vs.length * B * X := by rw [← Nat.mul_assoc, ← Nat.mul_assoc]
    rw [hS, e1, Nat.mul_succ]
    omega
  have hlt : S ^ es.length < (X + 1) ^ vs.length := by
    have h1 : S ^ es.length ≤ (2 * vs.length * B * (X + 1)) ^ es.length := Nat.pow_le_pow_left hSX _
    rw [Nat.mul_pow, ← hX] at h1
    have h2 : X * (X + 1) ^ es.length < (X + 1) ^ (es.length + 1) := by
      rw [Nat.pow_succ, Nat.mul_comm]
      exact Nat.mul_lt_mul_of_pos_left (Nat.lt_succ_self X) (Nat.pow_pos (Nat.succ_pos X))
    exact Nat.lt_of_le_of_lt h1 (Nat.lt_of_lt_of_le h2 (Nat.pow_le_pow_right (Nat.succ_pos X) h))
  obtain ⟨i, j, hij, hj, hc⟩ := php (f := fun c => cod S (t c)) (N := S ^ es.length) fun c _ => by
    have := cod_lt (ht c)
    rwa [hl] at this
  have et : t i = t j := cod_inj (by rw [hl, hl]) (ht i) (ht j) hc
  refine ⟨fun w => D j w - D i w, Classical.byContradiction fun no => ?_, fun w => ?_, fun w hw => ?_, fun e he => ?_⟩
  · have : i = j := dig_inj (show 0 < X + 1 by omega) vs.length i j (by omega) (by omega) fun m hm => by
      have hw := List.getElem_mem hm
      have hz : D j vs[m] - D i vs[m] = 0 := Classical.byContradiction fun k => no ⟨_, hw, k⟩
      have ei : vs.idxOf vs[m] = m := by
        have h1 : vs.idxOf vs[m] < vs.length := List.idxOf_lt_length_of_mem hw
        exact (List.getElem_inj hn).mp (List.getElem_idxOf h1)
      have e1 : ∀ c, D c vs[m] = ((c / (X + 1) ^ m % (X + 1) : Nat) : Int) := fun c => by
        show (if vs[m] ∈ vs then _ else _) = _
        rw [if_pos hw, ei]
      rw [e1, e1] at hz
      omega
    omega
  · have h1 := hD i w
    have h2 := hD j w
    rw [← hX]
    show (D j w - D i w).natAbs ≤ X
    omega
  · show (if w ∈ vs then _ else _) - (if w ∈ vs then _ else _) = _
    rw [if_neg hw, if_neg hw]
    rfl
  · have hm : (sumZ vs (fun w => e w * D i w) + (vs.length * (B * X) : Nat)).toNat = (sumZ vs (fun w => e w * D j w) + (vs.length * (B * X) : Nat)).toNat := by
      obtain ⟨k, hk⟩ := List.getElem?_of_mem he
      have h1 : (t i)[k]? = some (sumZ vs (fun w => e w * D i w) + (vs.length * (B * X) : Nat)).toNat := by show (es.map _)[k]? = _; rw [List.getElem?_map, hk]; rfl
      have h2 : (t j)[k]? = some (sumZ vs (fun w => e w * D j w) + (vs.length * (B * X) : Nat)).toNat := by show (es.map _)[k]? = _; rw [List.getElem?_map, hk]; rfl
      rw [et, h2] at h1
      exact (Option.some.inj h1).symm
    have h1 := hs i e he
    have h2 := hs j e he
    rw [sumZ_congr (h := fun w => e w * D j w - e w * D i w) fun w _ => by rw [Int.mul_sub], sumZ_sub]
    omega
/-! ### over M -/
/-- over M, not greater than B either way -/
def On (M : Int) (B : Nat) (a : Rat) : Prop := ∃ p : Int, a * (M : Rat) = (p : Rat) ∧ p.natAbs ≤ B
theorem On.ud {M : Int} {B n : Nat} {a : Rat} (h : On M B a) (hB : B < 2 ^ n) : Ud n M a := by
  obtain ⟨p, e, hp⟩ := h
  exact ⟨p, e, by omega⟩
theorem On.sz {M : Int} {B n : Nat} {a : Rat} (h : On M B a) (h0 : 0 < M) (hM : M.natAbs < 2 ^ n) (hB : B < 2 ^ n) : Sz n a := (h.ud hB).sz h0 hM
theorem On.of {n : Nat} {M : Int} {a : Rat} (h : Ud n M a) : On M (2 ^ n) a := by
  obtain ⟨p, e, hp⟩ := h
  exact ⟨p, e, by omega⟩
theorem On.mono {M : Int} {B C : Nat} {a : Rat} (h : On M B a) (hb : B ≤ C) : On M C a := by
  obtain ⟨p, e, hp⟩ := h
  exact ⟨p, e, by omega⟩
theorem On.zero {M : Int} : On M 0 0 := ⟨0, by rw [Rat.zero_mul]; rfl, Nat.le_refl 0⟩
theorem On.plus {M : Int} {A B : Nat} {a b : Rat} (h : On M A a) (k : On M B b) : On M (A + B) (a + b) := by
  obtain ⟨p, e, hp⟩ := h
  obtain ⟨q, f, hq⟩ := k
  exact ⟨p + q, by push_cast; rw [← e, ← f]; grind, by omega⟩
theorem On.times {M N : Int} {A B : Nat} {a b : Rat} (h : On M A a) (k : On N B b) : On (M * N) (A * B) (a * b) := by
  obtain ⟨p, e, hp⟩ := h
  obtain ⟨q, f, hq⟩ := k
  exact ⟨p * q, by push_cast; rw [← e, ← f]; grind, by rw [Int.natAbs_mul]; exact Nat.mul_le_mul hp hq⟩
theorem On.neg {M : Int} {A : Nat} {a : Rat} (h : On M A a) : On M A (-a) := by
  obtain ⟨p, e, hp⟩ := h
  exact ⟨-p, by push_cast; rw [← e]; grind, by omega⟩
theorem On.up {M : Int} {A k : Nat} {a : Rat} (h : On M A a) : On (M * (k : Int)) (A * k) a := by
  obtain ⟨p, e, hp⟩ := h
  exact ⟨p * (k : Int), by push_cast; rw [← e]; grind, by rw [Int.natAbs_mul]; exact Nat.mul_le_mul hp (Nat.le_of_eq (Int.natAbs_natCast k))⟩
theorem On.int {M i : Int} : On M (i.natAbs * M.natAbs) (i : Rat) := ⟨i * M, by push_cast; rfl, by rw [Int.natAbs_mul]; exact Nat.le_refl _⟩
structure RowsOn (M : Int) (B r : Nat) (T : Tb) : Prop where
  re : ∀ i ∈ T.own, ∀ c, c < r → On M B ((T.row i).re c)
  sh : ∀ i ∈ T.own, ∀ f ∈ T.free, On M B ((T.row i).sh f)
theorem sumF_in {g : Int → Rat} {fs as : List Int} (hf : fs.Nodup) (ha : as.Nodup) (h : ∀ f ∈ fs, f ∈ as) : sumF fs g = sumF as fun w => if w ∈ fs then g w else 0 := by
  have e : ∀ l : List Int, sumF l (fun w => if w ∈ fs then g w else 0) = sumF (l.filter fun w => decide (w ∈ fs)) g := fun l => by
    induction l with
    | nil => rfl
    | cons x l ih =>
      rw [List.filter_cons]
      show (if x ∈ fs then g x else 0) + sumF l _ = _
      rw [ih]
      by_cases hx : x ∈ fs
      · rw [if_pos hx, if_pos (decide_eq_true hx)]; rfl
      · rw [if_neg hx, if_neg (by simpa using hx)]; grind
  rw [e]
  refine sumF_perm ((List.perm_ext_iff_of_nodup hf (ha.sublist List.filter_sublist)).mpr fun w => ?_)
  rw [List.mem_filter]
  exact ⟨fun k => ⟨h w k, decide_eq_true k⟩, fun k => of_decide_eq_true k.2⟩
/-- two lists, both with all that isn't 0 -/
theorem sumF_both {g : Int → Rat} {fs as : List Int} (hf : fs.Nodup) (ha : as.Nodup) (h1 : ∀ w ∈ fs, g w ≠ 0 → w ∈ as) (h2 : ∀ w ∈ as, g w ≠ 0 → w ∈ fs) : sumF fs g = sumF as g := by
  have key : ∀ l : List Int, sumF l g = sumF (l.filter fun w => decide (g w ≠ 0)) g := fun l => by
    induction l with
    | nil => rfl
    | cons x l ih =>
      rw [List.filter_cons]
      show g x + sumF l g = _
      rw [ih]
      by_cases hx : g x = 0
      · rw [if_neg (by simpa using hx), hx]; grind
      · rw [if_pos (decide_eq_true hx)]; rfl
  rw [key fs, key as]
  refine sumF_perm ((List.perm_ext_iff_of_nodup (hf.sublist List.filter_sublist) (ha.sublist List.filter_sublist)).mpr fun w => ?_)
  rw [List.mem_filter, List.mem_filter]
  exact ⟨fun ⟨a, b⟩ => ⟨h1 w a (of_decide_eq_true b), b⟩, fun ⟨a, b⟩ => ⟨h2 w a (of_decide_eq_true b), b⟩⟩
theorem own_len : ∀ (k : Nat) {T T' : Tb}, TbW T → TbW T' → Eqv T T' → (newO T T').length ≤ k → T'.own.length = T.own.length := by
  have base : ∀ {T T' : Tb}, TbW T → TbW T' → Eqv T T' → (∀ w ∈ T'.own, w ∈ T.own) → T'.own.length = T.own.length := fun {T T'} h h' E hs => by
    have hs2 : ∀ w ∈ T.own, w ∈ T'.own := fun w hw => Classical.byContradiction fun no => by
      obtain ⟨i, hi, hi2, _⟩ := exch h' h E.symm hw no
      exact hi2 (hs i hi)
    exact Nat.le_antisymm (sub_len h'.ndo hs) (sub_len h.ndo hs2)
  intro k
  induction k with
  | zero =>
    intro T T' h h' E hl
    refine base h h' E fun w hw => Classical.byContradiction fun no => ?_
    have : w ∈ newO T T' := List.mem_filter.mpr ⟨hw, decide_eq_true no⟩
    rw [List.eq_nil_of_length_eq_zero (Nat.le_zero.mp hl)] at this
    cases this
  | succ k ih =>
    intro T T' h h' E hl
    by_cases hs : ∀ w ∈ T'.own, w ∈ T.own
    · exact base h h' E hs
    · obtain ⟨j, hj⟩ := Classical.not_forall.mp hs
      obtain ⟨hj, hj2⟩ := Classical.not_imp.mp hj
      obtain ⟨i, hi, hi2, ha⟩ := exch h h' E hj hj2
      have hjf : j ∈ T.free := (E.mem.mpr (.inl hj)).resolve_left hj2
      have E1 := Eqv.turn h hi hjf ha
      have := ih (h.turn hi hjf) h' (E1.symm.trans E) (Nat.le_of_lt_succ (Nat.lt_of_lt_of_le (filt_less (j := j) (fun w hw hq => ?_) hj (decide_eq_true hj2) ?_) hl))
      · rw [this, turn_len]
      · refine decide_eq_true fun (k : w ∈ T.own) => of_decide_eq_true hq ((mem_swV hi).mpr (.inr ⟨k, fun e => hi2 (e ▸ hw)⟩))
      · exact decide_eq_false fun k => k ((mem_swV hi).mpr (.inl rfl))
theorem same_ownL {T T' : Tb} (h : TbW T) (h' : TbW T') (E : Eqv T T') : T'.own.length = T.own.length := own_len _ h h' E (Nat.le_refl _)
/-- an int that isn't among some -/
theorem fresh_int : ∀ l : List Int, ∃ z : Int, ∀ w ∈ l, w < z
  | [] => ⟨0, fun _ h => nomatch h⟩
  | x :: r => by
    obtain ⟨z, hz⟩ := fresh_int r
    refine ⟨max z (x + 1), fun w hw => ?_⟩
    rcases List.mem_cons.mp hw with rfl | hw
    · omega
    · have := hz w hw; omega
theorem quo_sz {n : Nat} {a b : Int} {x : Rat} (h : x * (b : Rat) = (a : Rat)) (hb : b ≠ 0) (h1 : a.natAbs < 2 ^ n) (h2 : b.natAbs < 2 ^ n) : Sz n x := by
  rcases Int.lt_or_gt_of_ne hb with k | k
  · exact Ud.sz (d := -b) ⟨-a, by push_cast; grind, by rw [Int.natAbs_neg]; exact h1⟩ (by omega) (by rw [Int.natAbs_neg]; exact h2)
  · exact Ud.sz (d := b) ⟨a, h, h1⟩ k h2
/-- a table that says the same as one with small rows has small numbers; so has a goal -/
theorem small_core {M : Int} {B c n : Nat} {T T' : Tb} (h : TbW T) (h' : TbW T') (E : Eqv T T') (h0 : 0 < M) (hM : M.natAbs ≤ B) (hre : ∀ i ∈ T.own, On M B ((T.row i).re c)) (hsh : ∀ i ∈ T.own, ∀ f ∈ T.free, On M B ((T.row i).sh f)) {y y' : Ry} (hy1 : On M B (y.re c)) (hy2 : ∀ f ∈ T.free, On M B (y.sh f)) (hyy : ∀ u v, Holds T c u v → ev y c T.free u v = ev y' c T'.free u v) (hn : (2 * (T.own.length + 2) * B) ^ (T.own.length + 1) < 2 ^ n) :
    ∀ s : Int, (s ∈ T'.free ∨ ∀ w ∈ T.own ++ T.free, w < s) → ∃ v : Int → Int, v s ≠ 0 ∧ (∀ w, (v w).natAbs < 2 ^ n) ∧ (∀ f ∈ T'.free, f ≠ s → v f = 0) ∧ (∃ u : Int, (s ∈ T'.free → u = 0) ∧ (s ∉ T'.free → u = v s) ∧ Holds T' c (u : Rat) (fun w => (v w : Rat)) ∧ ∃ q : Int, (v q).natAbs < 2 ^ n ∧ (v q : Rat) = ev y' c T'.free (u : Rat) (fun w => (v w : Rat))) := by
  intro s hs
  -- integers over M
  have key : ∀ a : Rat, ∃ p : Int, On M B a → a * (M : Rat) = (p : Rat) ∧ p.natAbs ≤ B := fun a => by
    by_cases k : On M B a
    · obtain ⟨p, hp⟩ := k; exact ⟨p, fun _ => hp⟩
    · exact ⟨0, fun k2 => absurd k2 k⟩
  obtain ⟨N, hN⟩ : ∃ N : Rat → Int, ∀ a, On M B a → a * (M : Rat) = (N a : Rat) ∧ (N a).natAbs ≤ B := ⟨fun a => Classical.choose (key a), fun a => Classical.choose_spec (key a)⟩
  obtain ⟨z0, hz0⟩ := fresh_int (s :: (T.own ++ T.free))
  have hB1 : 1 ≤ B := by omega
  -- z: the rest's, q: the goal's
  obtain ⟨z, q, hz, hq, hzq, hzs, hqs⟩ : ∃ z q : Int, z ∉ T.own ++ T.free ∧ q ∉ T.own ++ T.free ∧ z ≠ q ∧ (s ∈ T'.free ∧ z ≠ s ∨ s ∉ T'.free ∧ z = s) ∧ q ≠ s := by
    by_cases hsf : s ∈ T'.free
    · exact ⟨z0, z0 + 1, fun k => by have := hz0 _ (List.mem_cons_of_mem _ k); omega, fun k => by have := hz0 _ (List.mem_cons_of_mem _ k); omega, by omega, .inl ⟨hsf, fun e => by have := hz0 s List.mem_cons_self; omega⟩, fun e => by have := hz0 s List.mem_cons_self; omega⟩
    · have hs2 := hs.resolve_left hsf
      exact ⟨s, z0, fun k => by have := hs2 _ k; omega, fun k => by have := hz0 _ (List.mem_cons_of_mem _ k); omega, fun e => by have := hz0 s List.mem_cons_self; omega, .inr ⟨hsf, rfl⟩, fun e => by have := hz0 s List.mem_cons_self; omega⟩
  have hvar : ∀ w, (w ∈ T'.own ∨ w ∈ T'.free) ↔ w ∈ T.own ++ T.free := fun w => by rw [List.mem_append]; exact E.mem.symm
  have hso : s ∉ T'.own := fun k => by
    rcases hs with k2 | k2
    · exact h'.dis k k2
    · exact absurd (k2 s ((hvar s).mp (.inl k))) (by omega)
  have hqo : q ∉ T'.own := fun k => hq ((hvar q).mp (.inl k))
  let vs : List Int := q :: s :: T'.own
  have hvn : vs.Nodup := List.nodup_cons.mpr ⟨fun k => by
    rcases List.mem_cons.mp k with k | k
    · exact hqs k
    · exact hqo k, List.nodup_cons.mpr ⟨hso, h'.ndo⟩⟩
  let co : Rat → (Int → Rat) → Int → Int → Int := fun re sh o w => if w = o then M else if w = z then -N re else if w ∈ T.free then -N (sh w) else 0
  let es : List (Int → Int) := co (y.re c) y.sh q :: T.own.map fun o => co ((T.row o).re c) (T.row o).sh o
  have hel : es.length = T.own.length + 1 := by show (_ :: _ : List (Int → Int)).length = _; rw [List.length_cons, List.length_map]
  have hvl : vs.length = T.own.length + 2 := by show (_ :: _ :: _ : List Int).length = _; rw [List.length_cons, List.length_cons, same_ownL h h' E]
  have hco : ∀ (re : Rat) (sh : Int → Rat) (o w : Int), On M B re → (∀ f ∈ T.free, On M B (sh f)) → (co re sh o w).natAbs ≤ B := fun re sh o w k1 k2 => by
    show (if w = o then M else if w = z then -N re else if w ∈ T.free then -N (sh w) else 0).natAbs ≤ B
    split
    · exact hM
    · split
      · rw [Int.natAbs_neg]; exact (hN _ k1).2
      · split
        · rename_i hf
          rw [Int.natAbs_neg]; exact (hN _ (k2 w hf)).2
        · exact Nat.zero_le _
  obtain ⟨v, ⟨w0, hw0, hv0⟩, hvb, hvo, hve⟩ := siegel hvn (es := es) (by rw [hel, hvl]; omega) hB1 fun e he w hw => by
    rcases List.mem_cons.mp he with rfl | he
    · exact hco _ _ _ _ hy1 hy2
    · obtain ⟨o, ho, rfl⟩ := List.mem_map.mp he
      exact hco _ _ _ _ (hre o ho) (hsh o ho)
  rw [hel, hvl] at hvb
  have hvb : ∀ w, (v w).natAbs < 2 ^ n := fun w => Nat.lt_of_le_of_lt (hvb w) hn
  -- what an equation says
  have say : ∀ (re : Rat) (sh : Int → Rat) (o : Int), (o ∈ T.own ∨ o = q) → On M B re → (∀ f ∈ T.free, On M B (sh f)) → sumZ vs (fun w => co re sh o w * v w) = 0 → (v o : Rat) = re * (v z : Rat) + sumF T.free fun f => sh f * (v f : Rat) := fun re sh o ho k1 k2 e => by
    have e : ((sumZ vs (fun w => co re sh o w * v w) : Int) : Rat) = ((0 : Int) : Rat) := by rw [e]
    rw [sumZ_cast] at e
    have hoz : o ≠ z := fun k => by
      rcases ho with ho | ho
      · exact hz (k ▸ List.mem_append_left _ ho)
      · exact hzq (k.symm.trans ho)
    have hof : o ∉ T.free := fun k => by
      rcases ho with ho | ho
      · exact h.dis ho k
      · exact hq (ho ▸ List.mem_append_right _ k)
    have hzf : z ∉ T.free := fun k => hz (List.mem_append_right _ k)
    have hall : (o :: z :: T.free).Nodup := List.nodup_cons.mpr ⟨fun k => by
      rcases List.mem_cons.mp k with k | k
      · exact hoz k
      · exact hof k, List.nodup_cons.mpr ⟨hzf, h.ndf⟩⟩
    rw [sumF_both hvn hall (fun w _ hg => ?_) (fun w _ hg => ?_)] at e
    · have c1 : co re sh o o = M := if_pos rfl
      have c2 : co re sh o z = -N re := by show (if z = o then M else if z = z then -N re else _) = _; rw [if_neg hoz.symm, if_pos rfl]
      have e1 : sumF (o :: z :: T.free) (fun w => ((co re sh o w * v w : Int) : Rat)) = (M : Rat) * (v o : Rat) + (-(re * M) * (v z : Rat) + -(M : Rat) * sumF T.free fun f => sh f * (v f : Rat)) := by
        have eF : sumF T.free (fun w => ((co re sh o w * v w : Int) : Rat)) = -(M : Rat) * sumF T.free fun f => sh f * (v f : Rat) := by
          rw [← sumF_mul]
          refine sumF_congr fun f hf => ?_
          have c3 : co re sh o f = -N (sh f) := by
            show (if f = o then M else if f = z then -N re else if f ∈ T.free then -N (sh f) else 0) = _
            rw [if_neg (fun (k : f = o) => hof (k ▸ hf)), if_neg (fun (k : f = z) => hzf (k ▸ hf)), if_pos hf]
          have c4 := (hN _ (k2 f hf)).1
          rw [c3]
          push_cast
          rw [← c4]
          generalize sh f = a1
          generalize ((v f : Int) : Rat) = a2
          generalize (M : Rat) = a3
          have : -(a1 * a3) * a2 = -a3 * (a1 * a2) := by grind
          exact this
        show ((co re sh o o * v o : Int) : Rat) + (((co re sh o z * v z : Int) : Rat) + sumF T.free (fun w => ((co re sh o w * v w : Int) : Rat))) = _
        rw [c1, c2, eF, (hN re k1).1]
        push_cast
        rfl
      rw [e1] at e
      have hM0 : (M : Rat) ≠ 0 := cast_ne (by omega)
      generalize sumF T.free (fun f => sh f * (v f : Rat)) = F at e ⊢
      have e : (M : Rat) * ((v o : Rat) - (re * (v z : Rat) + F)) = 0 := by
        have : ((0 : Int) : Rat) = 0 := rfl
        rw [this] at e
        grind
      rcases Rat.mul_eq_zero.mp e with k | k
      · exact absurd k hM0
      · grind
    · have hg : co re sh o w ≠ 0 := fun k => hg (by rw [k, Int.zero_mul]; rfl)
      have hg : (if w = o then M else if w = z then -N re else if w ∈ T.free then -N (sh w) else 0) ≠ 0 := hg
      by_cases a : w = o
      · exact a ▸ List.mem_cons_self
      · rw [if_neg a] at hg
        by_cases b : w = z
        · exact List.mem_cons_of_mem _ (b ▸ List.mem_cons_self)
        · rw [if_neg b] at hg
          by_cases d : w ∈ T.free
          · exact List.mem_cons_of_mem _ (List.mem_cons_of_mem _ d)
          · rw [if_neg d] at hg; exact absurd rfl hg
    · exact Classical.byContradiction fun k => hg (by rw [hvo w k, Int.mul_zero]; rfl)
  have hH : Holds T c (v z : Rat) (fun w => (v w : Rat)) := fun o ho => by
    have := say _ _ o (.inl ho) (hre o ho) (hsh o ho) (hve _ (List.mem_cons_of_mem _ (List.mem_map.mpr ⟨o, ho, rfl⟩)))
    exact this
  have hQ : (v q : Rat) = ev y c T.free (v z : Rat) (fun w => (v w : Rat)) := say _ _ q (.inr rfl) hy1 hy2 (hve _ List.mem_cons_self)
  have hH' := (E.say c _ _).mp hH
  rw [hyy _ _ hH] at hQ
  have hf0 : ∀ f ∈ T'.free, f ≠ s → v f = 0 := fun f hf hfs => hvo f fun k => by
    rcases List.mem_cons.mp k with k | k
    · exact hq ((hvar q).mp (.inr (k ▸ hf)))
    · rcases List.mem_cons.mp k with k | k
      · exact hfs k
      · exact h'.dis k hf
  have hz1 : s ∈ T'.free → v z = 0 := fun k => hvo z fun k2 => by
    have hzs : z ≠ s := by rcases hzs with ⟨_, k3⟩ | ⟨k3, _⟩; exact k3; exact absurd k k3
    rcases List.mem_cons.mp k2 with k2 | k2
    · exact hzq k2
    · rcases List.mem_cons.mp k2 with k2 | k2
      · exact hzs k2
      · exact hz ((hvar z).mp (.inl k2))
  have hz2 : s ∉ T'.free → v z = v s := fun k => by rcases hzs with ⟨k3, _⟩ | ⟨_, k3⟩; exact absurd k3 k; rw [k3]
  refine ⟨v, fun hvs => ?_, hvb, hf0, v z, hz1, hz2, hH', q, hvb q, hQ⟩
  -- all would be 0
  have hz3 : v z = 0 := by
    by_cases k : s ∈ T'.free
    · exact hz1 k
    · rw [hz2 k]; exact hvs
  have hff : ∀ f ∈ T'.free, (v f : Rat) = 0 := fun f hf => by
    by_cases k : f = s
    · rw [k, hvs]; rfl
    · rw [hf0 f hf k]; rfl
  have hev : ∀ (x : Ry), ev x c T'.free (v z : Rat) (fun w => (v w : Rat)) = 0 := fun x => by
    rw [ev_congr (w := fun _ => 0) fun f hf => hff f hf, ev_zero, hz3]
    show _ * ((0 : Int) : Rat) = 0
    have : ((0 : Int) : Rat) = 0 := rfl
    rw [this]; grind
  refine hv0 ?_
  rcases List.mem_cons.mp hw0 with k | k
  · rw [k]
    rw [hev] at hQ
    exact_mod_cast hQ
  · rcases List.mem_cons.mp k with k | k
    · rw [k]; exact hvs
    · have := hH' w0 k
      dsimp only at this
      rw [hev] at this
      exact_mod_cast this
/-- numbers of a reckoning, each of n bits -/
structure RS (n r : Nat) (fs : List Int) (y : Ry) : Prop where
  re' : ∀ c, c < r → Sz n (y.re c)
  sh' : ∀ f ∈ fs, Sz n (y.sh f)
theorem RS.re {n r c : Nat} {fs : List Int} {y : Ry} (h : RS n r fs y) (hc : c < r) : Sz n (y.re c) := h.re' c hc
theorem RS.sh {n r : Nat} {f : Int} {fs : List Int} {y : Ry} (h : RS n r fs y) (hf : f ∈ fs) : Sz n (y.sh f) := h.sh' f hf
theorem RS.mono {n k r : Nat} {fs : List Int} {y : Ry} (h : RS n r fs y) (hk : n ≤ k) : RS k r fs y := ⟨fun c hc => (h.re' c hc).mono hk, fun f hf => (h.sh' f hf).mono hk⟩
theorem RB.rs {n r : Nat} {fs : List Int} {y : Ry} (h : RB n r fs y) : RS n r fs y := ⟨fun c hc => h.re hc, fun f hf => h.sh hf⟩
structure TS (n r g : Nat) (T : Tb) : Prop where
  row : ∀ i ∈ T.own, RS n r T.free (T.row i)
  goal : ∀ k, k < g → RS n r T.free (T.goal k)
theorem TS.mono {n k r g : Nat} {T : Tb} (h : TS n r g T) (hk : n ≤ k) : TS k r g T := ⟨fun i hi => (h.row i hi).mono hk, fun j hj => (h.goal j hj).mono hk⟩
theorem TB.ts {n r g : Nat} {T : Tb} (h : TB n r g T) : TS n r g T := ⟨fun i hi => (h.row i hi).rs, fun j hj => (h.goal j hj).rs⟩
def Yo (M : Int) (B r : Nat) (fs : List Int) (y : Ry) : Prop := (∀ c, c < r → On M B (y.re c)) ∧ ∀ f ∈ fs, On M B (y.sh f)
/-- rows and a goal of a table that says the same -/
theorem small_rs {M : Int} {B r n : Nat} {T T' : Tb} (h : TbW T) (h' : TbW T') (E : Eqv T T') (h0 : 0 < M) (hM : M.natAbs ≤ B) (hr : 0 < r) (R : RowsOn M B r T) {y y' : Ry} (hy : Yo M B r T.free y) (hyy : ∀ c, c < r → ∀ u v, Holds T c u v → ev y c T.free u v = ev y' c T'.free u v) (hn : (2 * (T.own.length + 2) * B) ^ (T.own.length + 1) < 2 ^ n) :
    (∀ w ∈ T'.own, RS n r T'.free (T'.row w)) ∧ RS n r T'.free y' := by
  obtain ⟨z, hz⟩ := fresh_int (T.own ++ T.free)
  have hzf : z ∉ T'.free := fun k => by have := hz z (E.vars.mem_iff.mpr (List.mem_append_right _ k)); omega
  have rest : ∀ c, c < r → (∀ w ∈ T'.own, Sz n ((T'.row w).re c)) ∧ Sz n (y'.re c) := fun c hc => by
    obtain ⟨v, v1, v2, v3, u, u1, u2, v4, q, v5, v6⟩ := small_core (c := c) h h' E h0 hM (fun i hi => R.re i hi c hc) R.sh (hy.1 c hc) hy.2 (hyy c hc) hn z (.inr hz)
    have eu := u2 hzf
    have hff : ∀ f ∈ T'.free, ((v f : Int) : Rat) = 0 := fun f hf => by rw [v3 f hf fun k => hzf (k ▸ hf)]; rfl
    have hev : ∀ x : Ry, ev x c T'.free (u : Rat) (fun w => (v w : Rat)) = x.re c * (v z : Rat) := fun x => by rw [ev_congr (w := fun _ => 0) fun f hf => hff f hf, ev_zero, eu]
    refine ⟨fun w hw => ?_, ?_⟩
    · have := v4 w hw
      dsimp only at this
      rw [hev] at this
      exact quo_sz this.symm v1 (v2 w) (v2 z)
    · rw [hev] at v6
      exact quo_sz v6.symm v1 v5 (v2 z)
  have shar : ∀ f ∈ T'.free, (∀ w ∈ T'.own, Sz n ((T'.row w).sh f)) ∧ Sz n (y'.sh f) := fun f hf => by
    obtain ⟨v, v1, v2, v3, u, u1, u2, v4, q, v5, v6⟩ := small_core (c := 0) h h' E h0 hM (fun i hi => R.re i hi 0 hr) R.sh (hy.1 0 hr) hy.2 (hyy 0 hr) hn f (.inl hf)
    have eu := u1 hf
    have hev : ∀ x : Ry, ev x 0 T'.free (u : Rat) (fun w => (v w : Rat)) = x.sh f * (v f : Rat) := fun x => by
      unfold ev
      rw [sumF_congr (h := fun g => (x.sh g * (v f : Rat)) * unit f g) fun g hg => ?_, sumF_unit (g := fun g => x.sh g * (v f : Rat)) h'.ndf hf, eu]
      · have : ((0 : Int) : Rat) = 0 := rfl
        rw [this]; grind
      · unfold unit
        by_cases k : g = f
        · rw [if_pos k, k]; grind
        · show x.sh g * ((v g : Int) : Rat) = _
          rw [if_neg k, v3 g hg k]
          have : ((0 : Int) : Rat) = 0 := rfl
          rw [this]; grind
    refine ⟨fun w hw => ?_, ?_⟩
    · have := v4 w hw
      dsimp only at this
      rw [hev] at this
      exact quo_sz this.symm v1 (v2 w) (v2 f)
    · rw [hev] at v6
      exact quo_sz v6.symm v1 v5 (v2 f)
  exact ⟨fun w hw => ⟨fun c hc => (rest c hc).1 w hw, fun f hf => (shar f hf).1 w hw⟩, ⟨fun c hc => (rest c hc).2, fun f hf => (shar f hf).2⟩⟩
end Z

/-! Z56: a dict compared with the empty one. -/
namespace Z
open PySem PySem.Spec PyProof.Rows L2
def rEqE (neg : Bool) : R2 := fun x y H Q => ∃ a b ks, x = .ref a ∧ y = .ref b ∧ Rd H a (.dK ks) ∧ Rd H b (.dK ([] : List (Key × V))) ∧ Q (.bl (if neg then !ks.isEmpty else ks.isEmpty)) H
theorem op_eqE {X : Cx} (hu : X.A.units + 64 < cLine) : OpR X (compareOp .Eq) (rEqE false) := by
  intro pins s σ H x y v u Q I rx ry h
  obtain ⟨a, b, ks, rfl, rfl, ea, eb, q⟩ := h
  obtain rfl : v = Value.ref a := rx
  obtain rfl : u = Value.ref b := ry
  obtain ⟨_, ya, va, ra, da⟩ := (dk_rd I.hok ea)
  obtain ⟨_, yb, vb, rb, db⟩ := (dk_rd I.hok eb)
  have lb : vb = [] := List.eq_nil_of_length_eq_zero (rb.length.symm)
  subst lb
  have la := ra.length
  refine PySem.W.keq_eq (knd := mixKind X.prog X.w) (r := true) ya yb da db (by omega) (fun hl => ?_) (fin_bl I q ?_)
  · have : va = [] := List.eq_nil_of_length_eq_zero hl
    subst this
    exact .nil
  · cases ks with
    | nil => cases va with | nil => rfl | cons _ _ => simp at la
    | cons _ _ => cases va with | nil => simp at la | cons _ _ => rfl
theorem op_neE {X : Cx} (hu : X.A.units + 64 < cLine) : OpR X (compareOp .NotEq) (rEqE true) := by
  intro pins s σ H x y v u Q I rx ry h
  obtain ⟨a, b, ks, rfl, rfl, ea, eb, q⟩ := h
  obtain rfl : v = Value.ref a := rx
  obtain rfl : u = Value.ref b := ry
  obtain ⟨_, ya, va, ra, da⟩ := (dk_rd I.hok ea)
  obtain ⟨_, yb, vb, rb, db⟩ := (dk_rd I.hok eb)
  have lb : vb = [] := List.eq_nil_of_length_eq_zero (rb.length.symm)
  subst lb
  have la := ra.length
  refine PySem.W.keq_ne (knd := mixKind X.prog X.w) (r := true) ya yb da db (by omega) (fun hl => ?_) (fin_bl I q ?_)
  · have : va = [] := List.eq_nil_of_length_eq_zero hl
    subst this
    exact .nil
  · cases ks with
    | nil => cases va with | nil => rfl | cons _ _ => simp at la
    | cons _ _ => cases va with | nil => simp at la | cons _ _ => rfl
@[irreducible] def oEqE (neg : Bool) : R22 := fun x y m Q => Box <| ∃ l, res m x = tbD l ∧ res m y = tbD [] ∧ Q (.bl (if neg then !l.isEmpty else l.isEmpty)) m
theorem eq_e {x y : D} {m : M} {Q : Kd} {l : List (Key × D)} {n : Bool} (e : res m x = tbD l) (e' : res m y = tbD []) (q : Q (.bl (if n then !l.isEmpty else l.isEmpty)) m) : oEqE n x y m Q := by unfold oEqE; exact ⟨⟨l, e, e', q⟩⟩
theorem cv_eqE {K : PySem.W.Frag} {neg : Bool} : Cv2 K (rEqE neg) (oEqE neg) := fun H m dx dy x y Q Q' hm rx ry h k => by
  unfold oEqE at h
  obtain ⟨l, e, e', q⟩ := h.out
  obtain ⟨a, ls, rfl, h1, h2⟩ := tabOf rx hm e
  obtain ⟨b, ls', rfl, h3, h4⟩ := tabOf ry hm e'
  have hl' : ls' = [] := by
    have := h4.keys
    exact List.map_eq_nil_iff.mp this
  subst hl'
  refine ⟨a, b, ls, rfl, rfl, h1, h3, ?_⟩
  have hk := congrArg List.length h2.keys
  rw [List.length_map, List.length_map] at hk
  have he : ls.isEmpty = l.isEmpty := by
    cases ls <;> cases l <;> first | rfl | (simp at hk)
  rw [he]
  exact k _ _ (.same hm (.bl _) q)
section
variable {X : Cx} {ω : Bx} {a b : Expr} {ta tb : TE2} {pos : Pos}
theorem eqE {k : Nat} (hr : Room k X.A) (ha : PE2 X ω a ta) (hb : PE2 X ω b tb) : PE2 X ω (.Compare a [.Eq] [b] pos) (tOp2 (oEqE false) ta tb) := q_cmp (op_eqE hr.units) cv_eqE ha hb (nomark _)
theorem neE {k : Nat} (hr : Room k X.A) (ha : PE2 X ω a ta) (hb : PE2 X ω b tb) : PE2 X ω (.Compare a [.NotEq] [b] pos) (tOp2 (oEqE true) ta tb) := q_cmp (op_neE hr.units) cv_eqE ha hb (nomark _)
theorem teqE {k : Nat} (hr : Room k X.A) (ha : PE2 X ω a ta) (hb : PE2 X ω b tb) : PT2 X ω (.Compare a [.Eq] [b] pos) (tTU (tOp2 (oEqE false) ta tb)) := testC (op_eqE hr.units) cv_eqE ha hb (nomark _)
theorem tneE {k : Nat} (hr : Room k X.A) (ha : PE2 X ω a ta) (hb : PE2 X ω b tb) : PT2 X ω (.Compare a [.NotEq] [b] pos) (tTU (tOp2 (oEqE true) ta tb)) := testC (op_neE hr.units) cv_eqE ha hb (nomark _)
end
end Z

/-! Z57: range that goes down. -/
namespace Z
open PySem PySem.Spec PyProof.Rows L2
/-- i, i - 1, .., n of them -/
def rngN (i : Int) (n : Nat) : List D := (List.range n).map fun (k : Nat) => D.int (i + (k : Int) * (-1))
theorem rngN_len {i : Int} {n : Nat} : (rngN i n).length = n := by unfold rngN; rw [List.length_map, List.length_range]
theorem rngN_at {i : Int} {n k : Nat} {d : D} (h : (rngN i n)[k]? = some d) : k < n ∧ d = .int (i - (k : Int)) := by
  unfold rngN at h
  rw [List.getElem?_map] at h
  by_cases hk : k < n
  · rw [List.getElem?_range hk] at h
    have h : D.int (i + (k : Int) * (-1)) = d := Option.some.inj h
    exact ⟨hk, by rw [← h]; congr 1; omega⟩
  · rw [List.getElem?_eq_none (by rw [List.length_range]; omega)] at h
    cases h
theorem walks_rngN {K : PySem.W.Frag} {lo : Int} {n : Nat} {m : M} {H : Hp} : Walks2 K (Itc lo (-1) n) (rngN lo n) (fun _ => True) m H := by
  refine ⟨fun i m' H' st _ hi => ?_, fun i m' H' st _ hi => ?_⟩
  · rw [rngN_len] at hi
    refine ⟨hi, fun v H'' y => ?_⟩
    obtain ⟨rfl, rfl⟩ := y
    exact ⟨.int (lo + (i : Int) * (-1)), by unfold rngN; rw [List.getElem?_map, List.getElem?_range hi]; rfl, .refl st.mem, .int _⟩
  · rw [rngN_len] at hi
    exact hi
def iRngN (ta : TA2) : TI2 := fun g m R => ta g m fun ds m1 => match ds with
  | [.int i, .int j, .int c] => (c = -1 ∧ -(2 ^ 62) ≤ i ∧ i < 2 ^ 62 ∧ -(2 ^ 62) ≤ j ∧ j < 2 ^ 62) ∧ R (rngN i (i - j).toNat) (fun _ => True) m1
  | _ => False
theorem rngNU {X : Cx} {ω : Bx} {tg : Expr} {a b c : Expr} {ta : TA2} {p pos : Pos} (hg : Gl X "range") (hm : X.mg "range" = none) (ha : PA2 X ω [a, b, c] ta) (hs : starEach [a, b, c] X.env = (false, eval a X.env) :: starEach [b, c] X.env := by rfl) (hpl : (backTo pos (starEach [b, c] X.env)).any (·.1) = false := by rfl) :
    PI2 X ω tg (.Call (.Name "range" p) [a, b, c] [] pos) (iRngN ta) :=
  (pi_range3 hg hm pa_sem hs hpl).to2 fun σ H g m R S hm q => (ha.sem S hm q).mono fun vs H1 ⟨ds, m1, s1, r1, q1⟩ => by
    dsimp only at q1
    split at q1
    · obtain ⟨⟨rfl, h1, h2, h3, h4⟩, q2⟩ := q1
      cases r1 with | cons r1 r2 => cases r1; cases r2 with | cons r1 r2 => cases r1; cases r2 with | cons r1 r2 => cases r1; cases r2; exact ⟨_, _, _, _, rfl, RgC.neg h1 h2 h3 h4, _, _, m1, s1, walks_rngN, q2⟩
    · exact q1.elim
end Z

/-! Z58: goals of a turned table, some of them lent to, over one small number. -/
namespace Z
theorem sumF_append {g : Int → Rat} : ∀ {xs ys : List Int}, sumF (xs ++ ys) g = sumF xs g + sumF ys g
  | [], ys => by show sumF ys g = 0 + sumF ys g; grind
  | x :: xs, ys => by show g x + sumF (xs ++ ys) g = (g x + sumF xs g) + sumF ys g; rw [sumF_append]; grind
theorem sumF_swap {g : Int → Int → Rat} {ys : List Int} : ∀ {xs : List Int}, sumF xs (fun x => sumF ys fun y => g x y) = sumF ys fun y => sumF xs fun x => g x y
  | [] => (sumF_none fun f _ => rfl).symm
  | x :: xs => by show sumF ys _ + sumF xs _ = sumF ys fun y => g x y + sumF xs fun x => g x y; rw [sumF_swap (xs := xs), sumF_add]
theorem sumF_mulr {g : Int → Rat} {a : Rat} {fs : List Int} : sumF fs (fun f => g f * a) = sumF fs g * a := by
  rw [Rat.mul_comm, ← sumF_mul]; exact sumF_congr fun f _ => Rat.mul_comm ..
theorem sumF_sub {g h : Int → Rat} {fs : List Int} : sumF fs (fun f => g f - h f) = sumF fs g - sumF fs h := by
  have e : sumF fs (fun f => g f - h f) = sumF fs fun f => g f + -1 * h f := sumF_congr fun f _ => by grind
  rw [e, sumF_add, sumF_mul]; grind
theorem dual {M : Int} {B : Nat} {T T' : Tb} (h : TbW T) (h' : TbW T') (E : Eqv T T') (h0 : 0 < M) (hM : M.natAbs ≤ B) (hsh : ∀ i ∈ T.own, ∀ f ∈ T.free, On M B ((T.row i).sh f))
    {gs : List Int} {G G' : Int → Ry} (hG : ∀ t ∈ gs, ∀ f ∈ T.free, On M B ((G t).sh f)) (hgn : gs.Nodup) (hgo : ∀ t ∈ gs, t ∉ T.own) (hgg : ∀ t ∈ gs, ∀ v, Holds T 0 0 v → ev (G t) 0 T.free 0 v = ev (G' t) 0 T'.free 0 v)
    {cols nuls : List Int} (hc : ∀ f ∈ cols, f ∈ T'.free) (hl : cols.length + nuls.length < gs.length) :
    ∃ x : Int → Int, (∃ t ∈ gs, x t ≠ 0) ∧ (∀ t, (x t).natAbs ≤ (2 * (gs.length + T.own.length) * B) ^ (T.own.length + cols.length + nuls.length)) ∧ (∀ f ∈ cols, sumF gs (fun t => (x t : Rat) * (G' t).sh f) = 0) ∧ (∀ t ∈ nuls, x t = 0) ∧
      ∀ f ∈ T'.free, On M ((gs.length + T.own.length) * (B * (2 * (gs.length + T.own.length) * B) ^ (T.own.length + cols.length + nuls.length))) (sumF gs fun t => (x t : Rat) * (G' t).sh f) := by
  have key : ∀ a : Rat, ∃ p : Int, On M B a → a * (M : Rat) = (p : Rat) ∧ p.natAbs ≤ B := fun a => by
    by_cases k : On M B a
    · obtain ⟨p, hp⟩ := k; exact ⟨p, fun _ => hp⟩
    · exact ⟨0, fun k2 => absurd k2 k⟩
  obtain ⟨N, hN⟩ : ∃ N : Rat → Int, ∀ a, On M B a → a * (M : Rat) = (N a : Rat) ∧ (N a).natAbs ≤ B := ⟨fun a => Classical.choose (key a), fun a => Classical.choose_spec (key a)⟩
  have hB1 : 1 ≤ B := by omega
  have hvn : (gs ++ T.own).Nodup := List.nodup_append.mpr ⟨hgn, h.ndo, fun a ha b hb e => hgo a ha (e ▸ hb)⟩
  have hvl : (gs ++ T.own).length = gs.length + T.own.length := List.length_append ..
  let C : Int → Int → Int := fun w t => if t ∈ T.own then (if w ∈ T.own then (if t = w then M else 0) else -N ((T.row t).sh w)) else (if w ∈ T.own then 0 else N ((G t).sh w))
  let es : List (Int → Int) := (T'.own.map C ++ cols.map C) ++ nuls.map fun a t => if t = a then 1 else 0
  have hel : es.length = T.own.length + cols.length + nuls.length := by
    show ((_ ++ _) ++ _ : List (Int → Int)).length = _
    rw [List.length_append, List.length_append, List.length_map, List.length_map, List.length_map, same_ownL h h' E]
  have hCb : ∀ w, (w ∈ T.own ∨ w ∈ T.free) → ∀ t ∈ gs ++ T.own, (C w t).natAbs ≤ B := fun w hw t ht => by
    show (if t ∈ T.own then (if w ∈ T.own then (if t = w then M else 0) else -N ((T.row t).sh w)) else (if w ∈ T.own then 0 else N ((G t).sh w))).natAbs ≤ B
    split
    · rename_i hto
      split
      · split
        · exact hM
        · exact Nat.zero_le _
      · rename_i hwo
        rw [Int.natAbs_neg]
        exact (hN _ (hsh t hto w (hw.resolve_left hwo))).2
    · rename_i hto
      split
      · exact Nat.zero_le _
      · rename_i hwo
        exact (hN _ (hG t ((List.mem_append.mp ht).resolve_right hto) w (hw.resolve_left hwo))).2
  have hvar : ∀ w, (w ∈ T'.own ∨ w ∈ T'.free) → (w ∈ T.own ∨ w ∈ T.free) := fun w hw => E.mem.mpr hw
  obtain ⟨v, ⟨w0, hw0, hv0⟩, hvb, hvo, hve⟩ := siegel hvn (es := es) (by rw [hel, hvl]; omega) hB1 fun e he w hw => by
    rcases List.mem_append.mp he with he | he
    · rcases List.mem_append.mp he with he | he
      · obtain ⟨z, hz, rfl⟩ := List.mem_map.mp he
        exact hCb z (hvar z (.inl hz)) w hw
      · obtain ⟨z, hz, rfl⟩ := List.mem_map.mp he
        exact hCb z (hvar z (.inr (hc z hz))) w hw
    · obtain ⟨a, ha, rfl⟩ := List.mem_map.mp he
      show (if w = a then (1 : Int) else 0).natAbs ≤ B
      split
      · exact hB1
      · exact Nat.zero_le _
  rw [hel, hvl] at hvb
  have eown : ∀ w ∈ T'.own, sumZ (gs ++ T.own) (fun t => C w t * v t) = 0 := fun w hw => hve (C w) (List.mem_append_left _ (List.mem_append_left _ (List.mem_map_of_mem hw)))
  have ecol : ∀ w ∈ cols, sumZ (gs ++ T.own) (fun t => C w t * v t) = 0 := fun w hw => hve (C w) (List.mem_append_left _ (List.mem_append_right _ (List.mem_map_of_mem hw)))
  have enul : ∀ a ∈ nuls, sumZ (gs ++ T.own) (fun t => (if t = a then 1 else 0) * v t) = 0 := fun a ha => hve (fun t => if t = a then 1 else 0) (List.mem_append_right _ (List.mem_map.mpr ⟨a, ha, rfl⟩))
  -- a coefficient, of an own variable and of a free one
  have cown : ∀ w ∈ T.own, ((sumZ (gs ++ T.own) (fun t => C w t * v t) : Int) : Rat) = (M : Rat) * (v w : Rat) := fun w hw => by
    rw [sumZ_cast, sumF_append, sumF_none (fs := gs) fun t ht => ?_]
    · rw [sumF_congr (h := fun t => ((M : Rat) * (v w : Rat)) * unit w t) fun t ht => ?_, sumF_unit (g := fun _ => (M : Rat) * (v w : Rat)) h.ndo hw]
      · grind
      · have e : C w t = if t = w then M else 0 := by show (if t ∈ T.own then (if w ∈ T.own then _ else _) else _) = _; rw [if_pos ht, if_pos hw]
        rw [e]
        unfold unit
        by_cases k : t = w
        · rw [if_pos k, if_pos k, k]; push_cast; grind
        · rw [if_neg k, if_neg k]; push_cast; grind
    · have e : C w t = 0 := by show (if t ∈ T.own then _ else (if w ∈ T.own then _ else _)) = _; rw [if_neg (hgo t ht), if_pos hw]
      rw [e, Int.zero_mul]; rfl
  have cfree : ∀ w ∈ T.free, ((sumZ (gs ++ T.own) (fun t => C w t * v t) : Int) : Rat) = (M : Rat) * (sumF gs (fun t => (v t : Rat) * (G t).sh w) - sumF T.own (fun t => (v t : Rat) * (T.row t).sh w)) := fun w hw => by
    have hwo : w ∉ T.own := fun k => h.dis k hw
    rw [sumZ_cast, sumF_append, sumF_congr (fs := gs) (h := fun t => (M : Rat) * ((v t : Rat) * (G t).sh w)) fun t ht => ?_, sumF_congr (fs := T.own) (h := fun t => -(M : Rat) * ((v t : Rat) * (T.row t).sh w)) fun t ht => ?_, sumF_mul, sumF_mul]
    · grind
    · have e : C w t = -N ((T.row t).sh w) := by show (if t ∈ T.own then (if w ∈ T.own then _ else _) else _) = _; rw [if_pos ht, if_neg hwo]
      rw [e]
      have := (hN _ (hsh t ht w hw)).1
      push_cast
      rw [← this]
      generalize (T.row t).sh w = a
      grind
    · have e : C w t = N ((G t).sh w) := by show (if t ∈ T.own then _ else (if w ∈ T.own then _ else _)) = _; rw [if_neg (hgo t ht), if_neg hwo]
      rw [e]
      have := (hN _ (hG t ht w hw)).1
      push_cast
      rw [← this]
      generalize (G t).sh w = a
      grind
  have main : ∀ f ∈ T'.free, ((sumZ (gs ++ T.own) (fun t => C f t * v t) : Int) : Rat) = (M : Rat) * sumF gs fun t => (v t : Rat) * (G' t).sh f := fun f hf => by
    have hb := bas_holds h' 0 0 (unit f)
    have hbT := (E.say 0 0 _).mpr hb
    let c : Int → Rat := fun w => ((sumZ (gs ++ T.own) (fun t => C w t * v t) : Int) : Rat)
    have e1 : sumF (T.own ++ T.free) (fun w => c w * bas T' 0 0 (unit f) w) = c f := by
      rw [sumF_perm E.vars, sumF_append, sumF_none (fs := T'.own) fun w hw => ?_, sumF_congr (fs := T'.free) (h := fun w => c w * unit f w) fun w hw => by rw [bas_free h' hw], sumF_unit h'.ndf hf]
      · grind
      · show ((sumZ (gs ++ T.own) (fun t => C w t * v t) : Int) : Rat) * _ = 0
        rw [eown w hw]
        show ((0 : Int) : Rat) * _ = 0
        push_cast
        grind
    rw [show ((sumZ (gs ++ T.own) (fun t => C f t * v t) : Int) : Rat) = c f from rfl, ← e1, sumF_append]
    generalize hbb : bas T' 0 0 (unit f) = b at hb hbT
    rw [sumF_congr (fs := T.own) (h := fun w => (M : Rat) * ((v w : Rat) * b w)) fun w hw => by show c w * _ = _; rw [show c w = _ from cown w hw]; grind]
    rw [sumF_congr (fs := T.free) (h := fun w => (M : Rat) * (sumF gs (fun t => (v t : Rat) * ((G t).sh w * b w)) - sumF T.own (fun t => (v t : Rat) * ((T.row t).sh w * b w)))) fun w hw => by
      show c w * _ = _
      rw [show c w = _ from cfree w hw, Rat.mul_assoc]
      congr 1
      rw [sumF_congr (fs := gs) (g := fun t => (v t : Rat) * ((G t).sh w * b w)) (h := fun t => ((v t : Rat) * (G t).sh w) * b w) fun t _ => by grind, sumF_congr (fs := T.own) (g := fun t => (v t : Rat) * ((T.row t).sh w * b w)) (h := fun t => ((v t : Rat) * (T.row t).sh w) * b w) fun t _ => by grind, sumF_mulr, sumF_mulr]
      grind]
    rw [sumF_mul, sumF_mul, sumF_sub, sumF_swap (xs := T.free) (ys := gs), sumF_swap (xs := T.free) (ys := T.own)]
    have a1 : sumF T.own (fun t => sumF T.free fun w => (v t : Rat) * ((T.row t).sh w * b w)) = sumF T.own fun w => (v w : Rat) * b w := sumF_congr fun t ht => by
      rw [sumF_mul, hbT t ht]
      unfold ev
      grind
    have a2 : sumF gs (fun t => sumF T.free fun w => (v t : Rat) * ((G t).sh w * b w)) = sumF gs fun t => (v t : Rat) * (G' t).sh f := sumF_congr fun t ht => by
      have e := hgg t ht b hbT
      rw [← hbb, bas_ev h', ev_unit h'.ndf hf, hbb] at e
      rw [sumF_mul, ← e]
      unfold ev
      grind
    rw [a1, a2]
    grind
  have hM0 : (M : Rat) ≠ 0 := cast_ne (by omega)
  refine ⟨v, Classical.byContradiction fun no => ?_, hvb, fun f hf => ?_, fun a ha => ?_, fun f hf => ?_⟩
  · have hz : ∀ t ∈ gs, v t = 0 := fun t ht => Classical.byContradiction fun k => no ⟨t, ht, k⟩
    have hzs : ∀ w ∈ T.own, v w = 0 := fun w hw => by
      have e : ((sumZ (gs ++ T.own) (fun t => C w t * v t) : Int) : Rat) = 0 := by
        rcases E.mem.mp (.inl hw) with k | k
        · rw [eown w k]; rfl
        · rw [main w k, sumF_none fun t ht => by rw [hz t ht]; push_cast; grind]; grind
      rw [cown w hw] at e
      rcases Rat.mul_eq_zero.mp e with k | k
      · exact absurd k hM0
      · exact_mod_cast k
    rcases List.mem_append.mp hw0 with k | k
    · exact hv0 (hz _ k)
    · exact hv0 (hzs _ k)
  · have e := main f (hc f hf)
    rw [ecol f hf] at e
    have e : (M : Rat) * sumF gs (fun t => (v t : Rat) * (G' t).sh f) = 0 := e.symm.trans rfl
    exact (Rat.mul_eq_zero.mp e).resolve_left hM0
  · have e := enul a ha
    by_cases ht : a ∈ gs ++ T.own
    · have e : ((sumZ (gs ++ T.own) (fun t => (if t = a then 1 else 0) * v t) : Int) : Rat) = 0 := by rw [e]; rfl
      rw [sumZ_cast, sumF_congr (h := fun t => (v a : Rat) * unit a t) fun t _ => ?_, sumF_unit (g := fun _ => (v a : Rat)) hvn ht] at e
      · exact_mod_cast e
      · unfold unit
        by_cases k : t = a
        · rw [if_pos k, if_pos k, k]; push_cast; grind
        · rw [if_neg k, if_neg k]; push_cast; grind
    · exact hvo a ht
  · refine ⟨sumZ (gs ++ T.own) (fun t => C f t * v t), by rw [main f hf]; grind, ?_⟩
    have := sumZ_abs (g := fun t => C f t * v t) (fs := gs ++ T.own) (C := B * (2 * (gs.length + T.own.length) * B) ^ (T.own.length + cols.length + nuls.length)) fun t ht => by
      rw [Int.natAbs_mul]
      exact Nat.mul_le_mul (hCb f (hvar f (.inr hf)) t ht) (hvb t)
    rwa [hvl] at this
end Z

/-! Z59: the numbers of one column of a turned table over one small number. -/
namespace Z
theorem on_abs {a : Rat} {b p : Int} {n : Nat} (h : a * (b : Rat) = (p : Rat)) (hp : p.natAbs < 2 ^ n) : On (b.natAbs : Int) (2 ^ n) a := by
  rcases Int.natAbs_eq b with e | e
  · exact ⟨p, by rw [← e]; exact h, by omega⟩
  · refine ⟨-p, ?_, by rw [Int.natAbs_neg]; omega⟩
    have e2 : ((b.natAbs : Int)) = -b := by omega
    rw [e2]
    push_cast
    grind
theorem small_col {M : Int} {B n : Nat} {T T' : Tb} (h : TbW T) (h' : TbW T') (E : Eqv T T') (h0 : 0 < M) (hM : M.natAbs ≤ B) (R : RowsOn M B 1 T) (hn : (2 * (T.own.length + 2) * B) ^ (T.own.length + 1) < 2 ^ n) :
    (∃ d : Int, 0 < d ∧ d.natAbs < 2 ^ n ∧ ∀ w ∈ T'.own, On d (2 ^ n) ((T'.row w).re 0)) ∧ ∀ f ∈ T'.free, ∃ d : Int, 0 < d ∧ d.natAbs < 2 ^ n ∧ ∀ w ∈ T'.own, On d (2 ^ n) ((T'.row w).sh f) := by
  have hz0 : ∀ u v, Holds T 0 u v → ev (⟨fun _ => 0, fun _ => 0⟩ : Ry) 0 T.free u v = ev (⟨fun _ => 0, fun _ => 0⟩ : Ry) 0 T'.free u v := fun u v _ => by
    unfold ev
    rw [sumF_none fun f _ => by grind, sumF_none fun f _ => by grind]
  have core := small_core (c := 0) (y := ⟨fun _ => 0, fun _ => 0⟩) (y' := ⟨fun _ => 0, fun _ => 0⟩) h h' E h0 hM (fun i hi => R.re i hi 0 (by decide)) R.sh (On.zero.mono (Nat.zero_le _)) (fun _ _ => On.zero.mono (Nat.zero_le _)) hz0 hn
  refine ⟨?_, fun f hf => ?_⟩
  · obtain ⟨z, hz⟩ := fresh_int (T.own ++ T.free)
    have hzf : z ∉ T'.free := fun k => by have := hz z (E.vars.mem_iff.mpr (List.mem_append_right _ k)); omega
    obtain ⟨v, v1, v2, v3, u, u1, u2, v4, q, v5, v6⟩ := core z (.inr hz)
    have eu := u2 hzf
    have hff : ∀ f ∈ T'.free, ((v f : Int) : Rat) = 0 := fun f hf => by rw [v3 f hf fun k => hzf (k ▸ hf)]; rfl
    have hev : ∀ x : Ry, ev x 0 T'.free (u : Rat) (fun w => (v w : Rat)) = x.re 0 * (v z : Rat) := fun x => by rw [ev_congr (w := fun _ => 0) fun f hf => hff f hf, ev_zero, eu]
    refine ⟨((v z).natAbs : Int), by omega, by rw [Int.natAbs_natCast]; exact v2 z, fun w hw => ?_⟩
    have := v4 w hw
    dsimp only at this
    rw [hev] at this
    exact on_abs this.symm (v2 w)
  · obtain ⟨v, v1, v2, v3, u, u1, u2, v4, q, v5, v6⟩ := core f (.inl hf)
    have eu := u1 hf
    have hev : ∀ x : Ry, ev x 0 T'.free (u : Rat) (fun w => (v w : Rat)) = x.sh f * (v f : Rat) := fun x => by
      unfold ev
      rw [sumF_congr (h := fun g => (x.sh g * (v f : Rat)) * unit f g) fun g hg => ?_, sumF_unit (g := fun g => x.sh g * (v f : Rat)) h'.ndf hf, eu]
      · have : ((0 : Int) : Rat) = 0 := rfl
        rw [this]; grind
      · unfold unit
        by_cases k : g = f
        · rw [if_pos k, k]; grind
        · show x.sh g * ((v g : Int) : Rat) = _
          rw [if_neg k, v3 g hg k]
          have : ((0 : Int) : Rat) = 0 := rfl
          rw [this]; grind
    refine ⟨((v f).natAbs : Int), by omega, by rw [Int.natAbs_natCast]; exact v2 f, fun w hw => ?_⟩
    have := v4 w hw
    dsimp only at this
    rw [hev] at this
    exact on_abs this.symm (v2 w)
end Z

/-! Z60: d.copy(), a dict of one's own; list(d.items()) of a dict of one's own. -/
namespace Z
open PySem PySem.Spec PyProof.Rows L2
def rDCopy : V → List V → Hp → VK → Prop := fun x vs H Q => ∃ (a : Addr) (kvs : List (Key × V)), x = .ref a ∧ vs = [] ∧ Rd H a (.dK kvs) ∧ ∀ p, H p = none → Q (.ref p) (upd H p (.dK kvs))
theorem mtd_copy {X : Cx} : MtR X "dict.copy" rDCopy := by
  intro pins s σ H x vs v us Q I rx rv h
  obtain ⟨a, kvs, ex, ev, e, q⟩ := h
  subst ex
  subst ev
  obtain rfl : v = Value.ref a := rx
  have hus := rv.zero
  subst hus
  obtain ⟨hz, hs, ws, kv, hd⟩ := dk_rd I.hok e
  refine PySem.call_meetsIn PySem.F.slot_dict_copy hd.typeIs PySem.F.entry_dict_copy (PySem.F.args_dict_copy_1 _) (meets_dict_copy (mixKind X.prog X.w) a hs) ⟨ws, hd, by rw [← kv.length]; exact hz, fun h' hn _ k => ?_⟩
  have hm : (s.heap.objs.size == sysModules) = false := beq_eq_false_iff_ne.mpr (Nat.ne_of_gt I.big)
  exact ⟨.ref s.heap.objs.size, upd H s.heap.objs.size (.dK kvs), I.laid (t' := s.toks) k (Nat.le_refl _) (show ObjOk X.prog X.w _ _ _ (.dK kvs) from ⟨hz, hm, ws, kv, hn⟩), rfl, q _ (I.hok.fresh (Nat.le_refl _))⟩
@[irreducible] def cpyK (d : D) (m : M) (Q : Kd) : Prop := Box <| ∃ l, res m d = tbD l ∧ ∀ p, m p = none → Q (.ref p) (upM m p (tbC l))
theorem cpy_d {d : D} {m : M} {Q : Kd} {l : List (Key × D)} (e : res m d = tbD l) (q : ∀ p, m p = none → Q (.ref p) (upM m p (tbC l))) : cpyK d m Q := by unfold cpyK; exact ⟨⟨l, e, q⟩⟩
def mCpy : RM2 := fun d ds m Q => match ds with | [] => cpyK d m Q | _ => False
theorem cm_cpy {K : PySem.W.Frag} : CvM K "dict" rDCopy mCpy := fun H m d v ds vs Q Q' hm r rs h k => by
  unfold mCpy at h
  split at h
  · unfold cpyK at h
    obtain ⟨l, e, q⟩ := h.out
    cases rs
    obtain ⟨a, ls, rfl, g1, g2⟩ := tabOf r hm e
    exact ⟨a, ls, rfl, rfl, g1, fun p hp => k _ _ ⟨.ref p, _, Step.newM hm hp (g2.cell upd_same), .ref p, q p (hm.fresh hp)⟩⟩
  · exact h.elim
theorem Step.more {K : PySem.W.Frag} {m : M} {H H' : Hp} (h : MemOk K m H) (k : ∀ b o, H b = some o → H' b = some o) : Step K m H m H' := by
  have e : Ex (hid m H) (hid m H') := fun a u z => by
    obtain ⟨z1, z2⟩ := hid_some z
    exact hid_of z1 (k a u z2)
  refine ⟨fun a u h1 h2 => ⟨k a u h1, h2⟩, fun a c hc => ?_⟩
  have hco := h a c hc
  have hs : ∃ o, H a = some o := by
    cases c with
    | lst ds => obtain ⟨vs, h1, _⟩ := hco; exact ⟨_, h1⟩
    | dic ks ds => obtain ⟨vs, h1, _⟩ := hco; exact ⟨_, h1⟩
  obtain ⟨o, ho⟩ := hs
  exact hco.mono ((k a o ho).trans ho.symm) e
@[irreducible] def itmLK (d : D) (m : M) (Q : Kd) : Prop := Box <| ∃ p l, d = .ref p ∧ m p = some (tbC l) ∧ Q (.lst (l.map fun q => .tup [keyV q.1, q.2])) m
theorem itm_l {p : Addr} {m : M} {Q : Kd} {l : List (Key × D)} (e : m p = some (tbC l)) (q : Q (.lst (l.map fun q => .tup [keyV q.1, q.2])) m) : itmLK (.ref p) m Q := by unfold itmLK; exact ⟨⟨p, l, rfl, e, q⟩⟩
def tItmL (te : TE2) : TE2 := fun g m Q => te g m fun d m1 => itmLK d m1 Q
theorem itm_rep {K : PySem.W.Frag} {m : M} {H H' : Hp} (hk : ∀ b o, H b = some o → H' b = some o) (hm : MemOk K m H) : ∀ {ts : List Addr} {ls : List (Key × V)} {l : List (Key × D)}, (∀ t ∈ ts, H t = none) → Paired (fun (t : Addr) (q : Key × V) => H' t = some (.tup [kV q.1, q.2])) ts ls → RP K (hid m H) ls l → Reps K (hid m H') (ts.map V.ref) (l.map fun q => .tup [keyV q.1, q.2])
  | _, _, _, _, .nil, .nil => .nil
  | t :: ts, p :: ls, q :: l, h0, .cons a r, .cons b r2 => by
    have e : Ex (hid m H) (hid m H') := (Step.more hm hk).ex
    refine .cons (.tup (.inl (.inl (hid_of (hm.fresh (h0 t List.mem_cons_self)) a))) (.cons ?_ (.cons (b.2.mono e) .nil))) (itm_rep hk hm (fun x hx => h0 x (List.mem_cons_of_mem _ hx)) r r2)
    rw [b.1]
    exact keyV_rep _
section
variable {X : Cx} {ω : Bx} {p pos apos cpos : Pos} {o e : Expr} {to te : TE2}
theorem m_copy0M (ho : PE2 X ω o to) (hbase : attributeBase o "copy" X.env (eval o X.env) = eval o X.env := by rfl)
    (hline : (apos.endLine == cpos.line) = true := by rfl) : PE2 X ω (.Call (.Attribute o "copy" apos) [] [] cpos) (tBM02 isTbR mCpy to) :=
  q_bm0 PySem.F.plainAttrs_dict PySem.F.slot_dict_copy PySem.F.type_dict_copy mtd_copy cm_cpy ct_tbR ho hbase hline
theorem listItemsU (hc : X.calm = true) (he : PE2 X ω e te) (hg : Gl X "list") (hm : X.mg "list" = none) (hbase : attributeBase e "items" X.env (eval e X.env) = eval e X.env := by rfl) (hline : (apos.endLine == cpos.line) = true := by rfl)
    (hs : starEach [.Call (.Attribute e "items" apos) [] [] cpos] X.env = (false, eval (.Call (.Attribute e "items" apos) [] [] cpos) X.env) :: starEach [] X.env := by rfl) :
    PE2 X ω (.Call (.Name "list" p) [.Call (.Attribute e "items" apos) [] [] cpos] [] pos) (tItmL te) :=
  (LiI.pe_listItems hc pe_sem hg hm bt_list hbase hline hs).to2 fun σ H g m Q S hm q => (he.sem S hm q).mono fun x H1 ⟨d, m1, s1, r1, q1⟩ => by
    have q1 : itmLK d m1 Q := q1
    unfold itmLK at q1
    obtain ⟨a, l, rfl, hp, q2⟩ := q1.out
    have hv : x = .ref a := by cases r1; rfl
    subst hv
    obtain ⟨ls, h1, h2⟩ := tabAt s1.mem hp
    refine ⟨a, ls, rfl, h1, fun H' p ts k hpn hts _ hl hpr => ?_⟩
    have st := Step.more s1.mem k
    exact P2.go s1 ⟨_, m1, st, .lst (hid_of (s1.mem.fresh hpn) hl) (itm_rep k s1.mem hts hpr h2), q2⟩
end
end Z

/-! Z61: repr(x) of plain data, where no repr is under way (the law's own def, or a def that it calls so). -/
namespace Z
open PySem PySem.Spec PyProof.Rows L2
def keyP : Key → PyData
  | .inl i => .int i
  | .inr x => .str x
mutual
/-- data as what repr shows -/
def pyR : D → PyData
  | .non => .none | .bl b => .bool b | .int i => .int i | .str x => .str x
  | .tup xs => .tuple (pysR xs) | .ptu xs => .tuple (pysR xs) | .lst xs => .list (pysR xs) | .rol xs => .list (pysR xs)
  | .dic ks vs => .dict ((ks.map keyP).zip (pysR vs)) | .fdi ks vs => .dict ((ks.map keyP).zip (pysR vs))
  | .ty _ => .none | .ref _ => .none | .exc _ => .none
def pysR : List D → List PyData
  | [] => []
  | x :: r => pyR x :: pysR r
end
theorem pysR_len : ∀ (xs : List D), (pysR xs).length = xs.length
  | [] => by simp only [pysR, List.length_nil]
  | x :: r => by simp only [pysR, List.length_cons, pysR_len r]
/-- small data: with lists and no dicts (b), or with dicts and no lists -/
def Shw (b : Bool) : Nat → D → Prop
  | _, .non => True
  | _, .bl _ => True
  | _, .int i => i.natAbs < 2 ^ 1900
  | _, .str x => (reprText x).length ≤ 600
  | n + 1, .tup xs => xs.length ≤ 8 ∧ ∀ x ∈ xs, Shw b n x
  | n + 1, .ptu xs => xs.length ≤ 8 ∧ ∀ x ∈ xs, Shw b n x
  | n + 1, .lst xs => b = true ∧ xs.length ≤ 8 ∧ ∀ x ∈ xs, Shw b n x
  | n + 1, .rol xs => b = true ∧ xs.length ≤ 8 ∧ ∀ x ∈ xs, Shw b n x
  | n + 1, .dic ks xs => b = false ∧ ks.length = xs.length ∧ xs.length ≤ 8 ∧ (∀ k ∈ ks, Shw b 0 (keyV k)) ∧ ∀ x ∈ xs, Shw b n x
  | n + 1, .fdi ks xs => b = false ∧ ks.length = xs.length ∧ xs.length ≤ 8 ∧ (∀ k ∈ ks, Shw b 0 (keyV k)) ∧ ∀ x ∈ xs, Shw b n x
  | _, _ => False
def lenR : Nat → Nat
  | 0 => 700
  | n + 1 => 8 * (lenR n + 704) + 3
theorem lenR_ge : ∀ n, 700 ≤ lenR n
  | 0 => Nat.le_refl _
  | n + 1 => by have := lenR_ge n; simp only [lenR]; omega
/-- what is asked of a thing shown -/
structure Okp (b : Bool) (n : Nat) (d : PyData) : Prop where
  sh : d.showable = true
  dp : d.depth ≤ n
  ln : d.shown.length ≤ lenR n
  nd : b = true → d.hasDict = false
theorem int_len600 {i : Int} (h : i.natAbs < 2 ^ 1900) : (PyData.shown (.int i)).length ≤ 600 := by
  have h2 : (2 : Nat) ^ 1900 < 10 ^ 580 := by decide +kernel
  have e := int_len (i := i) (k := 580) (by decide) (by omega)
  simp only [PyData.shown]
  exact Nat.le_trans e (by decide)
theorem log1900 {i : Int} (h : i.natAbs < 2 ^ 1900) : i.natAbs.log2 < 1920 := by
  by_cases h0 : i.natAbs = 0
  · rw [h0]; decide
  · exact (Nat.log2_lt h0).mpr (Nat.lt_of_lt_of_le h (Nat.pow_le_pow_right (by decide) (by decide)))
theorem okp_all {b : Bool} {n : Nat} : ∀ {xs : List D}, (∀ x ∈ xs, Okp b n (pyR x)) → PyData.showableAll (pysR xs) = true ∧ PyData.depthAll (pysR xs) ≤ n ∧ ((PyData.shownAll (pysR xs)).map (·.length)).sum ≤ xs.length * lenR n ∧ (PyData.shownAll (pysR xs)).length = xs.length ∧ (b = true → PyData.hasDictAll (pysR xs) = false)
  | [], _ => by simp [pysR, PyData.showableAll, PyData.depthAll, PyData.shownAll, PyData.hasDictAll]
  | x :: r, h => by
    obtain ⟨a1, a2, a3, a4, a5⟩ := okp_all (xs := r) fun y hy => h y (List.mem_cons_of_mem _ hy)
    have hx := h x List.mem_cons_self
    simp only [pysR, PyData.showableAll, PyData.depthAll, PyData.shownAll, PyData.hasDictAll, List.map_cons, List.sum_cons, List.length_cons, a1, hx.sh, Bool.and_self, true_and]
    refine ⟨by have := hx.dp; omega, ?_, by omega, fun hb => by rw [hx.nd hb, a5 hb]; rfl⟩
    have := hx.ln
    rw [Nat.add_mul, Nat.one_mul]
    omega
theorem key_okp {b : Bool} {k : Key} (h : Shw b 0 (keyV k)) : (keyP k).showable = true ∧ (keyP k).depth = 0 ∧ (keyP k).shown.length ≤ 600 := by
  cases k with
  | inl i =>
    have h : i.natAbs < 2 ^ 1900 := by simpa only [keyV, Shw] using h
    exact ⟨by simp only [keyP, PyData.showable]; exact decide_eq_true (log1900 h), by simp only [keyP, PyData.depth], int_len600 h⟩
  | inr x =>
    have h : (reprText x).length ≤ 600 := by simpa only [keyV, Shw] using h
    exact ⟨by simp only [keyP, PyData.showable], by simp only [keyP, PyData.depth], by simp only [keyP, PyData.shown]; exact h⟩
theorem okp_kv {b : Bool} {n : Nat} : ∀ {ks : List Key} {xs : List D}, (∀ k ∈ ks, Shw b 0 (keyV k)) → (∀ x ∈ xs, Okp b n (pyR x)) → PyData.showableKv ((ks.map keyP).zip (pysR xs)) = true ∧ PyData.depthKv ((ks.map keyP).zip (pysR xs)) ≤ n ∧ ((PyData.shownKv ((ks.map keyP).zip (pysR xs))).map (·.length)).sum ≤ xs.length * (lenR n + 602) ∧ (PyData.shownKv ((ks.map keyP).zip (pysR xs))).length ≤ xs.length
  | [], _, _, _ => by simp [PyData.showableKv, PyData.depthKv, PyData.shownKv]
  | k :: ks, [], _, _ => by simp [pysR, PyData.showableKv, PyData.depthKv, PyData.shownKv]
  | k :: ks, x :: r, hk, h => by
    obtain ⟨a1, a2, a3, a4⟩ := okp_kv (ks := ks) (xs := r) (fun y hy => hk y (List.mem_cons_of_mem _ hy)) fun y hy => h y (List.mem_cons_of_mem _ hy)
    have hx := h x List.mem_cons_self
    obtain ⟨k1, k2, k3⟩ := key_okp (hk k List.mem_cons_self)
    simp only [pysR, List.map_cons, List.zip_cons_cons, PyData.showableKv, PyData.depthKv, PyData.shownKv, List.sum_cons, List.length_cons, a1, hx.sh, k1, k2, Bool.and_self, true_and]
    refine ⟨by have := hx.dp; omega, ?_, by omega⟩
    have := hx.ln
    rw [strLen_append, strLen_append]
    have e : (Str.length ": ") = 2 := by decide
    rw [e, Nat.add_mul, Nat.one_mul]
    omega
theorem shw_okp {b : Bool} : ∀ (n : Nat) (d : D), Shw b n d → Okp b n (pyR d) := by
  have z4 : ∀ n, 4 ≤ lenR n := fun n => by have := lenR_ge n; omega
  have seq : ∀ (n : Nat) (xs : List D), xs.length ≤ 8 → (∀ x ∈ xs, Okp b n (pyR x)) → Okp b (n + 1) (.tuple (pysR xs)) := fun n xs hl hx => by
    obtain ⟨a1, a2, a3, a4, a5⟩ := okp_all hx
    refine ⟨by simp only [PyData.showable]; exact a1, by simp only [PyData.depth]; omega, ?_, fun hb => by simp only [PyData.hasDict]; exact a5 hb⟩
    simp only [PyData.shown, lenR]
    have := tupleText_len_le (PyData.shownAll (pysR xs))
    have h8 : xs.length * lenR n ≤ 8 * lenR n := Nat.mul_le_mul_right _ hl
    omega
  have seqL : ∀ (n : Nat) (xs : List D), xs.length ≤ 8 → (∀ x ∈ xs, Okp b n (pyR x)) → Okp b (n + 1) (.list (pysR xs)) := fun n xs hl hx => by
    obtain ⟨a1, a2, a3, a4, a5⟩ := okp_all hx
    refine ⟨by simp only [PyData.showable]; exact a1, by simp only [PyData.depth]; omega, ?_, fun hb => by simp only [PyData.hasDict]; exact a5 hb⟩
    simp only [PyData.shown, lenR]
    have := listText_len_le (PyData.shownAll (pysR xs))
    have h8 : xs.length * lenR n ≤ 8 * lenR n := Nat.mul_le_mul_right _ hl
    omega
  have seqD : ∀ (n : Nat) (ks : List Key) (xs : List D), b = false → xs.length ≤ 8 → (∀ k ∈ ks, Shw b 0 (keyV k)) → (∀ x ∈ xs, Okp b n (pyR x)) → Okp b (n + 1) (.dict ((ks.map keyP).zip (pysR xs))) := fun n ks xs hb hl hk hx => by
    obtain ⟨a1, a2, a3, a4⟩ := okp_kv hk hx
    refine ⟨by simp only [PyData.showable]; exact a1, by simp only [PyData.depth]; omega, ?_, fun h => by rw [hb] at h; cases h⟩
    simp only [PyData.shown, lenR]
    have := dictText_len_le (PyData.shownKv ((ks.map keyP).zip (pysR xs)))
    have h8 : xs.length * (lenR n + 602) ≤ 8 * (lenR n + 602) := Nat.mul_le_mul_right _ hl
    omega
  intro n
  induction n with
  | zero =>
    intro d h
    cases d with
    | non => exact ⟨by simp [pyR, PyData.showable], by simp [pyR, PyData.depth], Nat.le_trans (show (PyData.shown .none).length ≤ 4 by decide) (z4 _), fun _ => by simp [pyR, PyData.hasDict]⟩
    | bl c => exact ⟨by simp [pyR, PyData.showable], by simp [pyR, PyData.depth], Nat.le_trans (show (PyData.shown (.bool c)).length ≤ 5 by cases c <;> decide) (by have := lenR_ge 0; omega), fun _ => by simp [pyR, PyData.hasDict]⟩
    | int i =>
      have h : i.natAbs < 2 ^ 1900 := by simpa only [Shw] using h
      exact ⟨by simp only [pyR, PyData.showable]; exact decide_eq_true (log1900 h), by simp [pyR, PyData.depth], by have := int_len600 h; have := lenR_ge 0; simp only [pyR]; omega, fun _ => by simp [pyR, PyData.hasDict]⟩
    | str x =>
      have h : (reprText x).length ≤ 600 := by simpa only [Shw] using h
      exact ⟨by simp [pyR, PyData.showable], by simp [pyR, PyData.depth], by have := lenR_ge 0; simp only [pyR, PyData.shown]; omega, fun _ => by simp [pyR, PyData.hasDict]⟩
    | _ => exact (by simpa only [Shw] using h : False).elim
  | succ n ih =>
    intro d h
    cases d with
    | non => exact ⟨by simp [pyR, PyData.showable], by simp [pyR, PyData.depth], Nat.le_trans (show (PyData.shown .none).length ≤ 4 by decide) (z4 _), fun _ => by simp [pyR, PyData.hasDict]⟩
    | bl c => exact ⟨by simp [pyR, PyData.showable], by simp [pyR, PyData.depth], Nat.le_trans (show (PyData.shown (.bool c)).length ≤ 5 by cases c <;> decide) (by have := lenR_ge (n + 1); omega), fun _ => by simp [pyR, PyData.hasDict]⟩
    | int i =>
      have h : i.natAbs < 2 ^ 1900 := by simpa only [Shw] using h
      exact ⟨by simp only [pyR, PyData.showable]; exact decide_eq_true (log1900 h), by simp [pyR, PyData.depth], by have := int_len600 h; have := lenR_ge (n + 1); simp only [pyR]; omega, fun _ => by simp [pyR, PyData.hasDict]⟩
    | str x =>
      have h : (reprText x).length ≤ 600 := by simpa only [Shw] using h
      exact ⟨by simp [pyR, PyData.showable], by simp [pyR, PyData.depth], by have := lenR_ge (n + 1); simp only [pyR, PyData.shown]; omega, fun _ => by simp [pyR, PyData.hasDict]⟩
    | tup xs =>
      have h : xs.length ≤ 8 ∧ ∀ x ∈ xs, Shw b n x := by simpa only [Shw] using h
      simp only [pyR]
      exact seq n xs h.1 fun x hx => ih x (h.2 x hx)
    | ptu xs =>
      have h : xs.length ≤ 8 ∧ ∀ x ∈ xs, Shw b n x := by simpa only [Shw] using h
      simp only [pyR]
      exact seq n xs h.1 fun x hx => ih x (h.2 x hx)
    | lst xs =>
      have h : b = true ∧ xs.length ≤ 8 ∧ ∀ x ∈ xs, Shw b n x := by simpa only [Shw] using h
      simp only [pyR]
      exact seqL n xs h.2.1 fun x hx => ih x (h.2.2 x hx)
    | rol xs =>
      have h : b = true ∧ xs.length ≤ 8 ∧ ∀ x ∈ xs, Shw b n x := by simpa only [Shw] using h
      simp only [pyR]
      exact seqL n xs h.2.1 fun x hx => ih x (h.2.2 x hx)
    | dic ks xs =>
      have h : b = false ∧ ks.length = xs.length ∧ xs.length ≤ 8 ∧ (∀ k ∈ ks, Shw b 0 (keyV k)) ∧ ∀ x ∈ xs, Shw b n x := by simpa only [Shw] using h
      simp only [pyR]
      exact seqD n ks xs h.1 h.2.2.1 h.2.2.2.1 fun x hx => ih x (h.2.2.2.2 x hx)
    | fdi ks xs =>
      have h : b = false ∧ ks.length = xs.length ∧ xs.length ≤ 8 ∧ (∀ k ∈ ks, Shw b 0 (keyV k)) ∧ ∀ x ∈ xs, Shw b n x := by simpa only [Shw] using h
      simp only [pyR]
      exact seqD n ks xs h.1 h.2.2.1 h.2.2.2.1 fun x hx => ih x (h.2.2.2.2 x hx)
    | _ => exact (by simpa only [Shw] using h : False).elim

/-! ### what the heap holds of it -/
theorem pairs_key {P : Program} {w : World} {h : Heap} : ∀ {es : List DictEntry} {vs : List (Key × Value)}, Pairs (mixKind P w) es vs → ReadsAll h (es.map (·.key)) ((vs.map (·.1)).map keyP) [] ∧ es.map (·.val) = vs.map (·.2)
  | _, _, .nil => ⟨.nil, rfl⟩
  | _, _, .cons (e := e) (kv := kv) (es := es) (kvs := kvs) h1 h2 r => by
    obtain ⟨a1, a2⟩ := pairs_key (h := h) r
    refine ⟨?_, by rw [List.map_cons, List.map_cons, a2, h2]⟩
    have h1 : keyIs kv.1 e.key = true := h1
    rcases keyIs_shape h1 with ⟨i, t, e1, e2⟩ | ⟨x, t, e1, e2⟩
    · simp only [List.map_cons]
      rw [e1, e2]
      exact ReadsAll.cons (as := []) (Reads.int i t) a1
    · simp only [List.map_cons]
      rw [e1, e2]
      exact ReadsAll.cons (as := []) (Reads.str x t) a1
theorem kv_keys : ∀ {kvs : List (Key × V)} {vs : List (Key × Value)}, KV kvs vs → vs.map (·.1) = kvs.map (·.1) ∧ Vals (kvs.map (·.2)) (vs.map (·.2))
  | _, _, .nil => ⟨rfl, .nil⟩
  | _, _, .cons h r => by
    obtain ⟨a, b⟩ := kv_keys r
    exact ⟨by rw [List.map_cons, List.map_cons, a, h.1], .cons h.2 b⟩
theorem zip_fst {α β : Type} : ∀ (ks : List α) (vs : List β), ks.length = vs.length → (ks.zip vs).map (·.1) = ks ∧ (ks.zip vs).map (·.2) = vs
  | [], [], _ => ⟨rfl, rfl⟩
  | k :: ks, v :: vs, h => by
    obtain ⟨a, b⟩ := zip_fst ks vs (by simpa using h)
    simp only [List.zip_cons_cons, List.map_cons, a, b, and_self]
  | [], _ :: _, h => by simp at h
  | _ :: _, [], h => by simp at h
section
variable {X : Cx} {pins : List (Addr × Obj)} {σ : St} {H : Hp} {s : Shared} {b : Bool}
/-- the addresses of lists and dicts; of dicts alone where lists are out -/
def AsOk (b : Bool) (as : List Addr) : Prop := b = false → sysModules ∉ as
theorem AsOk.nil : AsOk b [] := fun _ h => nomatch h
theorem AsOk.app {as bs : List Addr} (h1 : AsOk b as) (h2 : AsOk b bs) : AsOk b (as ++ bs) := fun e h => (List.mem_append.mp h).elim (h1 e) (h2 e)
theorem reads_all (I : Inv X pins σ H s) {n : Nat} (ih : ∀ {d : D} {v : V} {u : Value}, Rep X.K H v d → RelV v u → Shw b n d → ∃ as, Reads s.heap u (pyR d) as ∧ AsOk b as) :
    ∀ {ds : List D} {vs : List V} {us : List Value}, Reps X.K H vs ds → Vals vs us → (∀ d ∈ ds, Shw b n d) → ∃ as, ReadsAll s.heap us (pysR ds) as ∧ AsOk b as
  | _, _, _, .nil, .nil, _ => ⟨[], by simp only [pysR]; exact .nil, .nil⟩
  | _, _, _, .cons r rs, .cons v vs, h => by
    obtain ⟨as, a1, a2⟩ := ih r v (h _ List.mem_cons_self)
    obtain ⟨bs, b1, b2⟩ := reads_all I (n := n) ih rs vs fun d hd => h d (List.mem_cons_of_mem _ hd)
    exact ⟨as ++ bs, by simp only [pysR]; exact .cons a1 b1, a2.app b2⟩
theorem reads_of (I : Inv X pins σ H s) : ∀ (n : Nat) {d : D} {v : V} {u : Value}, Rep X.K H v d → RelV v u → Shw b n d → ∃ as, Reads s.heap u (pyR d) as ∧ AsOk b as := by
  intro n
  have base : ∀ (n : Nat) {d : D} {v : V} {u : Value}, Rep X.K H v d → RelV v u → (∀ {d : D} {v : V} {u : Value} {k : Nat}, n = k + 1 → Rep X.K H v d → RelV v u → Shw b k d → ∃ as, Reads s.heap u (pyR d) as ∧ AsOk b as) → Shw b n d → ∃ as, Reads s.heap u (pyR d) as ∧ AsOk b as := by
    intro n d v u r q ih h
    have lst : ∀ {a : Addr} {vs : List V} {ds : List D} {k : Nat}, n = k + 1 → SqL X.K H a vs → Reps X.K H vs ds → b = true → (∀ x ∈ ds, Shw b k x) → ∃ as, Reads s.heap (.ref a) (.list (pysR ds)) as ∧ AsOk b as := fun {a vs ds k} e hs rs hb hx => by
      obtain ⟨its, rv, ⟨o, m, ho, hc, _, hd⟩, _⟩ := I.list hs
      obtain ⟨as, h1, h2⟩ := reads_all I (n := k) (fun r q => ih e r q) rs rv hx
      exact ⟨a :: as, .list ho hc hd h1, fun e => by rw [hb] at e; cases e⟩
    have tup : ∀ {a : Addr} {vs : List V} {ds : List D} {k : Nat}, n = k + 1 → SqT X.K H a vs → Reps X.K H vs ds → (∀ x ∈ ds, Shw b k x) → ∃ as, Reads s.heap (.ref a) (.tuple (pysR ds)) as ∧ AsOk b as := fun {a vs ds k} e hs rs hx => by
      obtain ⟨its, rv, ⟨o, ho, hc, m, hd⟩, _⟩ := I.tuple hs
      obtain ⟨as, h1, h2⟩ := reads_all I (n := k) (fun r q => ih e r q) rs rv hx
      exact ⟨as, .tuple ho hc hd h1, h2⟩
    have dic : ∀ {a : Addr} {ks : List Key} {vs : List V} {ds : List D} {k : Nat}, n = k + 1 → Rd H a (.dK (ks.zip vs)) → ks.length = vs.length → Reps X.K H vs ds → (∀ x ∈ ds, Shw b k x) → ∃ as, Reads s.heap (.ref a) (.dict ((ks.map keyP).zip (pysR ds))) as ∧ AsOk b as := fun {a ks vs ds k} e hs hl rs hx => by
      obtain ⟨hz, hsm, ws, kv, o, es, ep, ho, hxd, hdt, _, pr, _⟩ := dk_rd I.hok hs
      obtain ⟨k1, k2⟩ := kv_keys kv
      obtain ⟨z1, z2⟩ := zip_fst ks vs hl
      rw [z1] at k1
      rw [z2] at k2
      obtain ⟨p1, p2⟩ := pairs_key (h := s.heap) pr
      rw [k1] at p1
      obtain ⟨as, h1, h2⟩ := reads_all I (n := k) (fun r q => ih e r q) rs k2 hx
      have hl2 : (ks.map keyP).length = (pysR ds).length := by rw [List.length_map, pysR_len, hl, rs.length]
      obtain ⟨w1, w2⟩ := zip_fst _ _ hl2
      refine ⟨a :: [] ++ as, Reads.dict (as := []) (bs := as) ho hxd.1 hdt (by rw [w1]; exact p1) (by rw [w2, p2]; exact h1), fun hb hm => ?_⟩
      rcases List.mem_cons.mp hm with z | z
      · rw [← z] at hsm; exact absurd hsm (by decide)
      · exact h2 hb z
    cases r with
    | non => cases q; exact ⟨[], by simp only [pyR]; exact .none, .nil⟩
    | bl c => cases q; exact ⟨[], by simp only [pyR]; exact .bool c, .nil⟩
    | int i => obtain ⟨t, rfl⟩ := q; exact ⟨[], by simp only [pyR]; exact .int i t, .nil⟩
    | str x => obtain ⟨t, rfl⟩ := q; exact ⟨[], by simp only [pyR]; exact .str x t, .nil⟩
    | tup h1 r =>
      cases q
      cases n with
      | zero => exact (by simpa only [Shw] using h : False).elim
      | succ k =>
        simp only [Shw] at h
        simp only [pyR]
        exact tup rfl h1 r h.2
    | ptu h1 h0 r =>
      cases q
      cases n with
      | zero => exact (by simpa only [Shw] using h : False).elim
      | succ k =>
        simp only [Shw] at h
        simp only [pyR]
        exact tup rfl (.inl (.inr ⟨_, h1⟩)) r h.2
    | lst h1 r =>
      cases q
      cases n with
      | zero => exact (by simpa only [Shw] using h : False).elim
      | succ k =>
        simp only [Shw] at h
        simp only [pyR]
        exact lst rfl (SqL.of h1) r h.1 h.2.2
    | rol h1 r =>
      cases q
      cases n with
      | zero => exact (by simpa only [Shw] using h : False).elim
      | succ k =>
        simp only [Shw] at h
        simp only [pyR]
        exact lst rfl h1 r h.1 h.2.2
    | dic h1 h0 r =>
      cases q
      cases n with
      | zero => exact (by simpa only [Shw] using h : False).elim
      | succ k =>
        simp only [Shw] at h
        simp only [pyR]
        exact dic rfl h1 h0 r h.2.2.2.2
    | fdi h1 h0 r =>
      cases q
      cases n with
      | zero => exact (by simpa only [Shw] using h : False).elim
      | succ k =>
        simp only [Shw] at h
        simp only [pyR]
        exact dic rfl (.inr ⟨_, h1⟩) h0 r h.2.2.2.2
    | ty x => exact (by cases n <;> simpa only [Shw] using h : False).elim
    | ref a => exact (by cases n <;> simpa only [Shw] using h : False).elim
    | exc h1 => exact (by cases n <;> simpa only [Shw] using h : False).elim
  induction n with
  | zero => exact fun r q h => base 0 r q (fun e => nomatch e) h
  | succ n ih => exact fun r q h => base (n + 1) r q (fun e r q h => by cases e; exact ih r q h) h
end
/-- repr(x): x has been read -/
theorem repr_call {P : Program} {w : World} {A : Around} {E : Value → Shared → Prop} {s : Shared} {u : Value} {d : PyData} {as : List Addr} {Q : Value → Shared → Prop} (r : Reads s.heap u d as) (hs : d.showable = true) (hsm : d.hasDict = true → sysModules ∉ as)
    (hg : A.guards = some []) (hu : A.units + (d.depth + 1) < cLine) (hsz : d.shown.length ≤ sizeLine) (hQ : ∀ h' t tk, (∀ b o, s.heap.get? b = some o → h'.get? b = some o) → Q (.str d.shown t) { s with heap := h', toks := tk }) :
    wpAny (model P w) A (call (.builtin "repr") [u]) Q E s := by
  cases r with
  | none => exact PySem.P.repr_of_none (hQ s.heap _ _ fun _ _ e => e)
  | bool b => exact PySem.P.repr_of_bool (by have := hQ s.heap s.toks (s.toks + 1) fun _ _ e => e; cases b <;> exact this)
  | int i t =>
    have hl : i.natAbs.log2 < 1920 := by simpa only [PyData.showable, decide_eq_true_eq] using hs
    exact PySem.P.repr_of_int hl (hQ s.heap _ _ fun _ _ e => e)
  | str x t => exact PySem.P.repr_of_str (hQ s.heap _ _ fun _ _ e => e) hsz
  | list h1 h2 h3 h4 => exact repr_of_reads' (.list h1 h2 h3 h4) hs hsm hg hu (fun _ _ e => e) hQ hsz
  | tuple h1 h2 h3 h4 => exact repr_of_reads' (.tuple h1 h2 h3 h4) hs hsm hg hu (fun _ _ e => e) hQ hsz
  | dict h1 h2 h3 h4 h5 => exact repr_of_reads' (.dict h1 h2 h3 h4 h5) hs hsm hg hu (fun _ _ e => e) hQ hsz
end Z

/-! Z62: the rule of repr(x); defs that are promised only where no repr is under way (FnG), their calls, the law's end by one. -/
namespace Z
open PySem PySem.Spec PyProof.Rows L2
def rRepr (K : PySem.W.Frag) : List V → Hp → VK → Prop := fun xs H Q => ∃ v d b, xs = [v] ∧ Rep K H v d ∧ Shw b 4 d ∧ Q (.str (pyR d).shown) H
theorem call_reprR {X : Cx} (hg : X.A.guards = some []) (hu : X.A.units + 64 < cLine) : CallR X (.builtin "repr") (rRepr X.K) := by
  intro pins s σ H xs us Q I r h
  obtain ⟨v, d, b, rfl, hr, hs, q⟩ := h
  obtain ⟨u, rfl, ru⟩ := vals1 r
  obtain ⟨as, h1, h2⟩ := reads_of I 4 hr ru hs
  have o := shw_okp 4 d hs
  have l4 : lenR 4 ≤ sizeLine := by decide
  refine repr_call h1 o.sh (fun hd => ?_) hg (by have := o.dp; omega) (Nat.le_trans o.ln l4) fun h' t tk k => ⟨.str _, H, I.kept k, ⟨_, rfl⟩, q⟩
  cases b with
  | true => rw [o.nd rfl] at hd; cases hd
  | false => exact h2 rfl
@[irreducible] def reprK : RC2 := fun xs m Q => Box <| ∃ d b, xs = [d] ∧ Shw b 4 (res m d) ∧ Q (.str (pyR (res m d)).shown) m
theorem repr_of (b : Bool) {d e : D} {m : M} {Q : Kd} (h : res m d = e) (hs : Shw b 4 e) (q : Q (.str (pyR e).shown) m) : reprK [d] m Q := by unfold reprK; subst h; exact ⟨⟨d, b, rfl, hs, q⟩⟩
theorem kc_repr {K : PySem.W.Frag} : CvC K (rRepr K) reprK := fun H m ds vs Q Q' hm r h k => by
  unfold reprK at h
  obtain ⟨d, b, rfl, hs, q⟩ := h.out
  cases r with
  | cons r rs =>
    cases rs
    exact ⟨_, res m d, b, rfl, repRes r hm, hs, k _ _ (.same hm (.str _) q)⟩
section
variable {X : Cx} {ω : Bx} {x : Str} {p pos : Pos} {e : Expr} {es : List Expr} {t : TA2}
theorem reprU {k : Nat} (hgd : X.A.guards = some []) (hr : Room k X.A) (hg : Gl X "repr") (hm : X.mg "repr" = none) (ha : PA2 X ω (e :: es) t) (he : starEach (e :: es) X.env = (false, eval e X.env) :: starEach es X.env := by rfl) (hpl : (backTo pos (starEach es X.env)).any (·.1) = false := by rfl) :
    PE2 X ω (.Call (.Name "repr" p) (e :: es) [] pos) (tCB2 reprK t) :=
  q_callB (call_reprR hgd hr.units) kc_repr hg hm PyProof.Rows.bootS_repr ha (by decide) (by decide) he hpl
end

/-! ### defs promised where no repr is under way -/
structure FnG (P : Program) (w : World) (K : PySem.W.Frag) (mg : Str → Option Value) (base : Heap) (k : Nat) (f : Addr) (fd : FuncData) (ps : List Str) (sp : Sp) : Prop where
  len : ∀ vs H Q E, sp vs H Q E → vs.length = ps.length
  run : ∀ (A : Around) (outer : List Env) (s : Shared) (H : Hp) (args : Args) (us : List Value) (vs : List V) (Q : VK) (E : XK), A.guards = some [] → Room k A → Env0 P w K mg base A outer s H → BindsTo s fd args (ps.zip us) → Vals vs us → sp vs H Q E →
    codeAny (model P w) A (.call (.ref f) args) (CR CX0 outer P w H s Q E) s
section
variable {P : Program} {w : World} {K : PySem.W.Frag} {mg : Str → Option Value} {base : Heap} {x qual : Str} {st : Stmt} {f : Addr} {fd : FuncData} {N ps : List Str} {k : Nat}
theorem fnG_of {sp : Sp} (F : FunZ K x qual st f fd) (S : FnScope N ps (defScope st)) (len : ∀ vs H Q E, sp vs H Q E → vs.length = ps.length)
    (h : ∀ (cdv : Value) (A : Around) (outer : List Env) (s : Shared) (H : Hp) (vs : List V) (Q : VK) (E : XK), A.guards = some [] → Room k (A.deeper (envOfC qual (defScope st) s.heap.objs.size f cdv)) → sp vs H Q E →
      ∃ t, PSs (cxOf CX0 P w K mg base N qual (defScope st) f cdv A outer s H E).nox (defBody st) t ∧ t { nx := fun _ H' => Q .non H', rt := Q } (start N vs) H) : FnG P w K mg base (k + 1) f fd ps sp := by
  obtain ⟨oc, od, dV, kV, doc, pm, an, cdv, ct, osl, rfl, lk, hcd⟩ := F.ex
  refine ⟨len, fun A outer s H args us vs Q E hgd hr e0 hb r hsp => ?_⟩
  have hl := len _ _ _ _ hsp
  have up : ∀ b o, base.get? b = some o → s.heap.get? b = some o := fun b o e => (e0.bs b o e).1
  have KX : K.In s.heap := e0.mod.kin.keeps up
  have par : ∀ y ∈ ps.zip us, (defScope st).names.lookup y.1 = some .local ∨ ((defScope st).names.lookup y.1 = some .cell ∧ ((cellsFrom (s.heap.objs.size + 1) (defScope st).names []).lookup y.1).isSome = true) := fun y hy =>
    (S.par y.1 (List.of_mem_zip hy).1).imp id fun q => ⟨q, PySem.W.cellsFrom_some _ _ _ (.inl q)⟩
  refine codeAny_call_function hr.depth (KX _ _ lk) rfl S.co S.gen rfl (PySem.W.codeRec_of KX hcd) (hb _ _ _ _ (wpAny_newFunctionEnv_cells S.kind par fun env he s1 x1 => ?_))
  subst he
  obtain ⟨t, ht, hq⟩ := h cdv A outer s H vs Q E hgd (hr.deeper _) hsp
  have I : Inv (cxOf CX0 P w K mg base N qual (defScope st) f cdv A outer s H E) [] (start N vs) H s1 := inv_start S hr.hd e0 hl r x1
  refine ⟨(e0.mod.nolimit.keeps up).keeps x1.toInCall.keep, codeAny_func (wpAny_mono (ht.nox.run [] s1 (start N vs) H _ I hq) (fun fl s' hs => ?_) fun e s' hs => hs)⟩
  match fl, hs with
  | .ret u, ⟨v, σ', H', J, rv, q⟩ => exact ⟨v, H', J.os, J.bare, J.base, J.hok, rv, q⟩
  | .next, ⟨σ', H', J, q⟩ => exact ⟨.non, H', J.os, J.bare, J.base, J.hok, rfl, q⟩
  | .brk, ⟨_, _, _, q⟩ => exact q.elim
  | .cont, ⟨_, _, _, q⟩ => exact q.elim
theorem fun_okG {sp : Sp2} (F : FunZ K x qual st f fd) (S : FnScope N ps (defScope st)) (len : ∀ ds m Q E, sp ds m Q E → ds.length = ps.length)
    (body : ∀ (cdv : Value) (A : Around) (outer : List Env) (s : Shared) (H : Hp) (E : XK), A.guards = some [] → Room k (A.deeper (envOfC qual (defScope st) s.heap.objs.size f cdv)) →
      ∃ t, PSs2 (cxOf CX0 P w K mg base N qual (defScope st) f cdv A outer s H E).nox Bx.no (defBody st) t ∧ ∀ ds m Q E2, sp ds m Q E2 → t (Ew Q) (st0 N.length ds) m) :
    FnG P w K mg base (k + 1) f fd ps (lift K sp) := by
  refine fnG_of F S (fun vs H Q E h => lift_len len vs H Q E h) (fun cdv A outer s H vs Q E hgd hr h => ?_)
  obtain ⟨ds, m, Q2, E2, hm, r, hs, hQ, hE⟩ := h
  obtain ⟨t, h1, h2⟩ := body cdv A outer s H E hgd hr
  refine ⟨_, pss_sem, semSs.mono (h1.sem (SlotOk.start N (fun _ _ z => nomatch z) r) hm (h2 ds m Q2 E2 hs)) ?_ hQ ?_ ?_⟩
  · rintro σ' H' ⟨g', m', s', _, q'⟩
    exact hQ _ _ ⟨.non, m', s', .non, q'⟩
  · rintro σ' H' ⟨g', m', s', _, q'⟩
    exact q'.elim
  · rintro σ' H' ⟨g', m', s', _, q'⟩
    exact q'.elim
/-- the law's def, which asks repr -/
theorem fnLG (F : FunZ K x x st f fd) (S : FnScope N ps (defScope st)) (hl : ps.length = 1)
    (body : ∀ (cdv : Value) (A : Around) (outer : List Env) (s : Shared) (H : Hp) (E : XK), A.guards = some [] → Room k (A.deeper (envOfC x (defScope st) s.heap.objs.size f cdv)) →
      ∃ t, PSs2 (cxOf CX0 P w K mg base N x (defScope st) f cdv A outer s H E).nox Bx.no (defBody st) t ∧ ∀ (ns : List Int) m Q, ns.length ≤ 63 → (∀ m', Q (.bl true) m') → t (Ew Q) (st0 N.length [.rol (ns.map D.int)]) m) : FnG P w K mg base (k + 1) f fd ps (lift K spLaw) := by
  refine fun_okG F S (fun ds m Q E ⟨ns, h, _⟩ => by rw [h]; exact hl.symm) fun cdv A outer s H E hgd hr => ?_
  obtain ⟨t, h1, h2⟩ := body cdv A outer s H E hgd hr
  refine ⟨t, h1, fun ds m Q E2 ⟨ns, e, hn, q⟩ => ?_⟩
  subst e
  exact h2 ns m Q hn q
end
structure DefG (P : Program) (w : World) (K : PySem.W.Frag) (mg : Str → Option Value) (base : Heap) (k : Nat) (x : Str) (sp : Sp2) : Prop where
  ex : ∃ (f : Addr) (fd : FuncData) (ps : List Str), FnG P w K mg base k f fd ps (lift K sp) ∧ mg x = some (.ref f) ∧ PySem.W.keepIn K (.ref f) = true ∧ Binds K fd ps []
section
variable {X : Cx} {ω : Bx} {k kk : Nat} {sp : Sp2} {x : Str} {p pos : Pos} {e : Expr} {es : List Expr} {t : TA2}
theorem callG (D : DefG X.prog X.w X.K X.mg X.base k x sp) (hgd : X.A.guards = some []) (hr : Room kk X.A) (hg : Gl X x) (ha : PA2 X ω (e :: es) t) (hk : k ≤ kk := by decide) (hdb : (x == ("__debug__" : Str)) = false := by decide)
    (he : starEach (e :: es) X.env = (false, eval e X.env) :: starEach es X.env := by rfl) (hpl : (backTo pos (starEach es X.env)).any (·.1) = false := by rfl) : PE2 X ω (.Call (.Name x p) (e :: es) [] pos) (tCallU sp t) := by
  obtain ⟨f, fd, ps, F, h1, h2, h3⟩ := D.ex
  refine ⟨fun {σ H g m Q} S hm q pins s I => ?_⟩
  refine wpAny_Call_Name_kw (ld_glob I hg h1 ?_ hdb)
  refine PySem.W.callWith_K (h₀ := X.base) I.ok.mod.kin h2 (thn (ha.sem S hm q pos pins s I) fun us s1 ⟨vs, H1, I1, r, ds, m1, s2, r2, q2⟩ => ⟨I1.kIn, ?_⟩) he hpl
  have hsp : lift X.K sp vs H1 (P2 X.K m H Q) (fun _ _ _ => False) := ⟨ds, m1, Q, no2, s2.mem, r2, q2, fun v H' h => P2.go s2 h, fun _ _ _ _ z => z.elim⟩
  have hl : us.length = ps.length := by rw [← r.length]; exact F.len _ _ _ _ hsp
  refine wpAny_call (codeAny_mono (F.run X.A X.stack s1 H1 ⟨us, []⟩ us vs _ _ hgd (hr.mono hk) I1.env0 (by simpa using h3 s1 us I1.kIn (by simpa using hl)) r hsp) fun r s' hq => ?_)
  match r, hq with
  | .ok (.ret u), hq => exact I1.after hq
end

/-! ### the law's end -/
theorem law_callG {P : Program} {w : World} {K : PySem.W.Frag} {mg mb : Str → Option Value} {k : Nat} {fa a : Addr} {fd : FuncData} {x : Str} {s : Shared} {vs : List Value} {ns : List Int}
    (KX : K.In s.heap) (hns : s.heap.Ns mainGlobals mg) (hb : s.heap.Ns builtinsNs mb) (hbb : ∀ x : Str, x ≠ "__name__" → mb x = bootBuiltins x) (hlim : s.heap.NoLimit) (hg : s.gens = #[])
    (ha : s.heap.get? a = some { cls := .type "list", data := .seq vs.toArray }) (hi : IntsAre vs ns) (hl : ns.length ≤ 63) (hr : Room k callerA)
    (F : ∀ base : Heap, K.In base → base.Ns mainGlobals mg → FnG P w K mg base k fa fd [x] (lift K spLaw)) (hbind : ∀ (s : Shared) (u : Value), BindsTo s fd ⟨[u], []⟩ [(x, u)]) :
    codeAny (model P w) callerA (.call (.ref fa) ⟨[.ref a], []⟩) (fun r s' => r = .ok (.ret (.bool true)) ∧ OldK s.heap s'.heap ∧ s'.os = s.os ∧ AllBare s'.gens) s := by
  have rv := vals_ints hi
  have lenV := hi.length
  -- H tracks the script alone, or nothing
  have core : ∀ H : Hp, (∀ b, H b = none ∨ (b = a ∧ K.lookup a = none ∧ H b = some (.frz { cls := .type "list", data := .seq vs.toArray } (.lst (ns.map V.int))))) → SqL K H a (ns.map V.int) →
      codeAny (model P w) callerA (.call (.ref fa) ⟨[.ref a], []⟩) (fun r s' => r = .ok (.ret (.bool true)) ∧ OldK s.heap s'.heap ∧ s'.os = s.os ∧ AllBare s'.gens) s := by
    intro H hA hS
    have hO : Only H := fun b => (hA b).imp id fun h => ⟨_, _, h.2.2⟩
    have hok : HOk P w H s.heap := fun b u z => by
      rcases hA b with h | ⟨rfl, _, h⟩
      · rw [h] at z; cases z
      · rw [h] at z; cases z
        exact ⟨ha, by rw [List.length_map]; exact Nat.le_trans hl (by decide), vs, _, rv, ha⟩
    have noD : ∀ {b : Addr} {m : Str → Option Value}, s.heap.Ns b m → (hidT s.heap H).Ns b m := fun {b m} ⟨o, es, ep, e, d, r⟩ => by
      rcases hA b with h | ⟨rfl, _, _⟩
      · exact ⟨o, es, ep, hidT_get e h, d, r⟩
      · rw [ha] at e; cases e
        exact nomatch (show Data.seq vs.toArray _ = Data.dict es ep from d)
    have hKb : K.In (hidT s.heap H) := fun b o e => by
      rcases hA b with h | ⟨rfl, h, _⟩
      · exact hidT_get (KX b o e) h
      · rw [h] at e; cases e
    have hM : Mod K mg (hidT s.heap H) := ⟨hKb, noD hns, ⟨mb, noD hb, hbb⟩, let ⟨mc, h1, h2⟩ := hlim; ⟨mc, noD h1, h2⟩⟩
    have e0 : Env0 P w K mg (hidT s.heap H) callerA [] s H := ⟨rfl, hM, fun b o e => of_hidT e, Nat.le_of_eq (hidT_size _ _), trivial, fun b hb => absurd (show b ∈ ([] : List Addr) from hb) (by simp), hok, .of_eq hg⟩
    have hsp : lift K spLaw [V.ref a] H (fun v _ => v = .bl true) fun _ _ _ => False := ⟨[.rol (ns.map D.int)], noM, fun d _ => d = .bl true, no2, .no, .cons (.rol (only_hid hO hS) (Reps.of_ints ns)) .nil, ⟨ns, rfl, hl, fun _ => rfl⟩, fun v H' ⟨d, m', _, r, e⟩ => by
      subst e
      cases r
      rfl, fun _ _ _ _ z => z⟩
    refine codeAny_mono ((F _ hKb (noD hns)).run callerA [] s H ⟨[.ref a], []⟩ [.ref a] [.ref a] _ _ rfl hr e0 (hbind s (.ref a)) (.cons rfl .nil) hsp) fun r s' h => ?_
    match r, h with
    | .ok (.ret u), ⟨v, H', os, bare, un, hok', r', q⟩ =>
      obtain rfl : v = .bl true := q
      obtain rfl : u = Value.bool true := r'
      refine ⟨rfl, OldK.of_keep fun b o e => ?_, os, bare⟩
      rcases hA b with z | ⟨_, _, z⟩
      · exact un.keep b o e z (fun h => absurd (show b ∈ ([] : List Addr) from h) (by simp)) (by simp)
      · obtain ⟨e1, _⟩ := hok b _ z
        obtain ⟨e2, _⟩ := hok' b _ (un.frzs b _ _ z)
        rw [e] at e1; cases e1
        exact e2
  cases hk : K.lookup a with
  | some o =>
    have e := KX a o hk
    rw [ha] at e
    cases e
    exact core (fun _ => none) (fun _ => .inl rfl) (.inr ⟨_, vs.toArray, _, hk, rfl, rfl, rfl, by rw [List.size_toArray, lenV]; exact Nat.le_trans hl (by decide), by simpa using rv⟩)
  | none =>
    refine core (fun b => if b = a then some (.frz { cls := .type "list", data := .seq vs.toArray } (.lst (ns.map V.int))) else none) (fun b => ?_) (.inl (.inr ⟨_, if_pos rfl⟩))
    by_cases hb : b = a
    · exact .inr ⟨hb, hk, if_pos hb⟩
    · exact .inl (if_neg hb)
theorem walkGZ {l : PySem.W.OpenLaw} {k : Nat} {q : Program} {loose : List Str} {XP : (Str → Option Value) → Heap → Prop} {YP : World → Heap → Prop} {d : DefRec} {K : Params → PySem.W.Frag} {x : Str}
    (hn : l.most = some 63) (hdf : d.params.defaults = []) (hr : Room k callerA)
    (hY : ∀ (w : World) (h : Heap), YP w h → (K w.params).In h)
    (F : ∀ (w : World) (mg : Str → Option Value) (fa : Addr) (h : Heap), (K w.params).In h → h.Ns mainGlobals mg → mg d.name = some (.ref fa) →
      ∃ fd : FuncData, (∀ (s : Shared) (u : Value), BindsTo s fd ⟨[u], []⟩ [(x, u)]) ∧
        ∀ base : Heap, (K w.params).In base → base.Ns mainGlobals mg → FnG l.prog w (K w.params) mg base k fa fd [x] (lift (K w.params) spLaw)) :
    PySem.W.WalkO q loose XP YP l.row.toRowW d [] (fun f vs => PySem.call f vs) := by
  refine Att.attach_call hn hdf fun w s₀ s₁ mg mb fa o pm cd doc a vs ns G Y ho hd hcd hmg hobj hints hlen hg => ?_
  have KX := hY w _ Y
  obtain ⟨fd, hb, hF⟩ := F w mg fa _ KX G.T.g hmg
  exact law_callG KX G.T.g G.T.b G.T.builtins G.T.nolimit hg hobj hints hlen hr hF hb
/-! ### == and != of texts of any signs -/
def rEqS (neg : Bool) : R2 := fun x y H Q => ∃ a b : Str, x = .str a ∧ y = .str b ∧ Q (.bl (if neg then !decide (a = b) else decide (a = b))) H
theorem op_eqS {X : Cx} : OpR X (compareOp .Eq) (rEqS false) := fun pins s σ H x y v u Q I rx ry ⟨a, b, e1, e2, q⟩ => by
  subst e1 e2
  refine op_eq pins s σ H _ _ v u Q I rx ry ⟨rfl, ?_⟩
  rw [show decide (V.str a = V.str b) = decide (a = b) from decide_eq_decide.mpr ⟨fun h => V.str.inj h, fun h => by rw [h]⟩]
  exact q
theorem op_neS {X : Cx} : OpR X (compareOp .NotEq) (rEqS true) := fun pins s σ H x y v u Q I rx ry ⟨a, b, e1, e2, q⟩ => by
  subst e1 e2
  refine op_ne pins s σ H _ _ v u Q I rx ry ⟨rfl, ?_⟩
  rw [show decide (V.str a = V.str b) = decide (a = b) from decide_eq_decide.mpr ⟨fun h => V.str.inj h, fun h => by rw [h]⟩]
  exact q
@[irreducible] def oEqS (neg : Bool) : R22 := fun x y m Q => Box <| ∃ a b : Str, x = .str a ∧ y = .str b ∧ Q (.bl (if neg then !decide (a = b) else decide (a = b))) m
theorem eqS_of {a b : Str} {m : M} {Q : Kd} {n : Bool} (q : Q (.bl (if n then !decide (a = b) else decide (a = b))) m) : oEqS n (.str a) (.str b) m Q := by unfold oEqS; exact ⟨⟨a, b, rfl, rfl, q⟩⟩
theorem cv_eqS {K : PySem.W.Frag} {neg : Bool} : Cv2 K (rEqS neg) (oEqS neg) := fun H m dx dy x y Q Q' hm rx ry h k => by
  unfold oEqS at h
  obtain ⟨a, b, rfl, rfl, q⟩ := h.out
  cases rx
  cases ry
  exact ⟨a, b, rfl, rfl, k _ _ (.same hm (.bl _) q)⟩
section
variable {X : Cx} {ω : Bx} {a b : Expr} {ta tb : TE2} {pos : Pos}
theorem eqS {k : Nat} (hr : Room k X.A) (ha : PE2 X ω a ta) (hb : PE2 X ω b tb) : PE2 X ω (.Compare a [.Eq] [b] pos) (tOp2 (oEqS false) ta tb) := q_cmp op_eqS cv_eqS ha hb (nomark _)
theorem neS {k : Nat} (hr : Room k X.A) (ha : PE2 X ω a ta) (hb : PE2 X ω b tb) : PE2 X ω (.Compare a [.NotEq] [b] pos) (tOp2 (oEqS true) ta tb) := q_cmp op_neS cv_eqS ha hb (nomark _)
theorem teqS {k : Nat} (hr : Room k X.A) (ha : PE2 X ω a ta) (hb : PE2 X ω b tb) : PT2 X ω (.Compare a [.Eq] [b] pos) (tTU (tOp2 (oEqS false) ta tb)) := testC op_eqS cv_eqS ha hb (nomark _)
theorem tneS {k : Nat} (hr : Room k X.A) (ha : PE2 X ω a ta) (hb : PE2 X ω b tb) : PT2 X ω (.Compare a [.NotEq] [b] pos) (tTU (tOp2 (oEqS true) ta tb)) := testC op_neS cv_eqS ha hb (nomark _)
end
end Z

/-! Z63: != of two tuples that are equal and may hold dicts. -/
namespace Z
open PySem PySem.Spec PyProof.Rows L2
open PySem.SeqAt (EqIn EqAt)
open AutoSeq1 (wpAny_loadPart')
theorem tuple_neIn {prog : Program} {w : World} (l b : Addr) (xs ys : Array Value) (n n2 : Nat) (dd dd2 : Option Addr) (sl sl2 : Array (Option Value)) (hsz : xs.size = ys.size) :
    MeetsIn prog w (Builtin.«tuple.__ne__» ⟨[.ref l, .ref b], []⟩)
      (fun A R s => s.heap.get? l = some { cls := .type "tuple", dict := dd, data := .seq xs n, slots := sl } ∧ s.heap.get? b = some { cls := .type "tuple", dict := dd2, data := .seq ys n2, slots := sl2 } ∧
        (∀ j (h1 : j < xs.size) (h2 : j < ys.size), EqIn prog w A.in1 s xs[j] ys[j] true) ∧ R (.ok (.ret (.bool false))) s) :=
  .of_wp fun A R s h => by
    obtain ⟨hp, g, d, tk, os⟩ := s; obtain ⟨hl, hb, he, h⟩ := h
    have f2 := AutoSeq1.sub_tuple_tuple
    wp_walk using wpAny_loadPart' hl, wpAny_loadPart' hb, wpAny_forIn_list _ (fun rest b s' => b.1 = none ∧ s' = ⟨hp, g, d, tk, os⟩ ∧ ∃ i, rest = (xs.toList.zip ys.toList).drop i) _
    case turn =>
      rintro ⟨y, x⟩ rest b s' ⟨hb', rfl, i, hz⟩
      have hlt : i < (xs.toList.zip ys.toList).length := Nat.lt_of_not_le fun k => by
        rw [List.drop_of_length_le k] at hz
        cases hz
      rw [List.drop_eq_getElem_cons hlt] at hz
      injection hz with hyx hrest
      have h1 : i < xs.size := by simp at hlt; omega
      have h2 : i < ys.size := by omega
      obtain rfl : y = xs[i] := by simpa using congrArg Prod.fst hyx
      obtain rfl : x = ys[i] := by simpa using congrArg Prod.snd hyx
      refine wpAny_bind (he i h1 h2 _ _ ?_)
      wp_walk
      exact ⟨rfl, rfl, i + 1, hrest⟩
    case fin =>
      rintro ⟨b1, b2⟩ s' ⟨hb', rfl, i, hz⟩
      simp only at hb'
      subst hb'
      wp_walk
      exact ⟨_, rfl, by simpa [Builtin.Tuple.tupleCompareSizes, hsz] using h⟩
    case h =>
      exact ⟨rfl, rfl, 0, rfl⟩
/-- two values that are equal: plain data, or dicts of plain data -/
def EqV (K : PySem.W.Frag) (H : Hp) (x y : V) : Prop :=
  (∃ d e, Dp K H x d ∧ Dp K H y e ∧ d.canLay0 = true ∧ e.canLay0 = true ∧ d.depth ≤ 60 ∧ PyData.eqv d e = true) ∨
  (∃ a b ks ls, x = .ref a ∧ y = .ref b ∧ Rd H a (.dK ks) ∧ Rd H b (.dK ls) ∧ ks.length = ls.length ∧ (∀ p ∈ ks, ∃ v d e, valV ls p.1 = some v ∧ Dp K H p.2 d ∧ Dp K H v e ∧ d.canLay0 = true ∧ e.canLay0 = true ∧ d.depth ≤ 60 ∧ PyData.eqv d e = true))
theorem EqV.inn {X : Cx} {pins : List (Addr × Obj)} {σ : St} {H : Hp} {s : Shared} {A : Around} {x y : V} {u t : Value} (I : Inv X pins σ H s) (hu : A.units + 62 < cLine) (h : EqV X.K H x y) (rx : RelV x u) (ry : RelV y t) : EqIn X.prog X.w A s u t true := by
  rcases h with ⟨d, e, d1, d2, l1, l2, hd, he⟩ | ⟨a, b, ks, ls, rfl, rfl, ea, eb, hlen, hp⟩
  · obtain ⟨as, r1⟩ := Dp.reads I d _ _ d1 rx
    obtain ⟨bs, r2⟩ := Dp.reads I e _ _ d2 ry
    have z := SeqAt.eqAt_reads d e A s u t as bs r1 r2 l1 l2 (by have := Nat.min_le_left d.depth e.depth; omega)
    rw [he] at z
    exact z.inModel _ _
  · obtain rfl : u = Value.ref a := rx
    obtain rfl : t = Value.ref b := ry
    by_cases hab : a = b
    · subst hab
      exact (SeqAt.EqAt.same _).inModel _ _
    · obtain ⟨_, ya, va, ra, da⟩ := (dk_rd I.hok ea)
      obtain ⟨_, yb, vb, rb, db⟩ := (dk_rd I.hok eb)
      have hl : va.length = vb.length := by rw [← ra.length, ← rb.length]; exact hlen
      refine SeqAt.EqIn.of_refs hab fun E Q hq => ?_
      exact PySem.W.keq_eq (knd := mixKind X.prog X.w) (r := true) ya yb da db (by omega) (fun _ => hits_dp I (by show A.units + 1 + 60 < cLine; omega) rb ra hp) (by simpa [hl] using hq)
def rNeTT (K : PySem.W.Frag) : R2 := fun x y H Q => ∃ a b xs ys, x = .ref a ∧ y = .ref b ∧ SqT K H a xs ∧ SqT K H b ys ∧ xs.length = ys.length ∧ (∀ (i : Nat) x y, xs[i]? = some x → ys[i]? = some y → EqV K H x y) ∧ Q (.bl false) H
theorem vals_get : ∀ {xs : List V} {us : List Value}, Vals xs us → ∀ {i : Nat} {u : Value}, us[i]? = some u → ∃ x, xs[i]? = some x ∧ RelV x u
  | _, _, .nil, i, u, h => by simp at h
  | _, _, .cons r t, 0, u, h => by
    have h := Option.some.inj h
    subst h
    exact ⟨_, rfl, r⟩
  | _, _, .cons r t, i + 1, u, h => vals_get t (i := i) (by simpa using h)
theorem op_neTT {X : Cx} (hu : X.A.units + 64 < cLine) : OpR X (compareOp .NotEq) (rNeTT X.K) := by
  intro pins s σ H x y v u Q I rx ry h
  obtain ⟨a, b, xs, ys, rfl, rfl, ha, hb, hl, he, q⟩ := h
  obtain rfl : v = Value.ref a := rx
  obtain rfl : u = Value.ref b := ry
  obtain ⟨us, vu, ⟨⟨cls, dd, data, sl⟩, ho, hc, n, hd⟩, _⟩ := I.tuple ha
  obtain ⟨ts, vt, ⟨⟨cls2, dd2, data2, sl2⟩, ho2, hc2, n2, hd2⟩, _⟩ := I.tuple hb
  simp only at hc hd hc2 hd2
  subst hc hd hc2 hd2
  have hsz : us.toArray.size = ts.toArray.size := by rw [List.size_toArray, List.size_toArray, ← vu.length, ← vt.length]; exact hl
  refine wpAny_richCompare_same_room (T := "tuple") (op := .NotEq) ⟨_, ho, rfl⟩ ⟨_, ho2, rfl⟩ PySem.F.slot_tuple_ne (call_meetsIn PySem.F.slot_tuple_ne ⟨_, ho, rfl⟩ PySem.F.entry_tuple_ne (PySem.F.args_tuple_ne_2 _ _) (tuple_neIn a b us.toArray ts.toArray n n2 dd dd2 sl sl2 hsz)
    ⟨ho, ho2, fun j h1 h2 => ?_, show Value.bool false ≠ Value.notImplemented ∧ _ from ⟨(fun x => nomatch x), ⟨.bl false, H, I, rfl, q⟩⟩⟩) (by omega)
  have h1' : j < us.length := by simpa using h1
  have h2' : j < ts.length := by simpa using h2
  obtain ⟨x, hx, rx⟩ := vals_get vu (List.getElem?_eq_getElem h1')
  obtain ⟨y, hy, ry⟩ := vals_get vt (List.getElem?_eq_getElem h2')
  exact (he j x y hx hy).inn I (by show X.A.units + 1 + 62 < cLine; omega) (by simpa using rx) (by simpa using ry)
def EqDD (m : M) (d e : D) : Prop := (okD 60 d = true ∧ okD 60 e = true ∧ eqD d e = true) ∨ ∃ l l', res m d = tbD l ∧ res m e = tbD l' ∧ l.length = l'.length ∧ ∀ p ∈ l, ∃ e, gtK l' p.1 = some e ∧ okD 60 p.2 = true ∧ okD 60 e = true ∧ eqD p.2 e = true
@[irreducible] def oNeTT : R22 := fun x y m Q => Box <| ∃ xs ys, res m x = .tup xs ∧ res m y = .tup ys ∧ xs.length = ys.length ∧ (∀ (i : Nat) d e, xs[i]? = some d → ys[i]? = some e → EqDD m d e) ∧ Q (.bl false) m
theorem neTT_of {x y : D} {m : M} {Q : Kd} {xs ys : List D} (e1 : res m x = .tup xs) (e2 : res m y = .tup ys) (hl : xs.length = ys.length) (h : ∀ (i : Nat) d e, xs[i]? = some d → ys[i]? = some e → EqDD m d e) (q : Q (.bl false) m) : oNeTT x y m Q := by unfold oNeTT; exact ⟨⟨xs, ys, e1, e2, hl, h, q⟩⟩
theorem cv_neTT {K : PySem.W.Frag} : Cv2 K (rNeTT K) oNeTT := fun H m dx dy x y Q Q' hm rx ry h k => by
  unfold oNeTT at h
  obtain ⟨xs, ys, e1, e2, hl, he, q⟩ := h.out
  obtain ⟨a, us, rfl, h1, h2⟩ := tupOf rx e1
  obtain ⟨b, ts, rfl, h3, h4⟩ := tupOf ry e2
  have hus := h2.length
  have hts := h4.length
  refine ⟨a, b, us, ts, rfl, rfl, h1, h3, by omega, fun i x y hx hy => ?_, k _ _ (.same hm (.bl _) q)⟩
  obtain ⟨d, hd, rd⟩ := h2.get' hx
  obtain ⟨e, hee, re⟩ := h4.get' hy
  rcases he i d e hd hee with ⟨o1, o2, oe⟩ | ⟨l, l', t1, t2, hll, hp⟩
  · have ⟨c1, c2⟩ := okD_lay 60 _ o1
    have ⟨c3, _⟩ := okD_lay 60 _ o2
    exact .inl ⟨py d, py e, (rd.mono hid_ex).dp o1, (re.mono hid_ex).dp o2, c1, c3, c2, oe⟩
  · obtain ⟨p, ls, rfl, g1, g2⟩ := tabOf rd hm t1
    obtain ⟨p', ls', rfl, g3, g4⟩ := tabOf re hm t2
    refine .inr ⟨p, p', ls, ls', rfl, rfl, g1, g3, by rw [g2.len, g4.len]; exact hll, fun z hz => ?_⟩
    obtain ⟨z', hm', ek, rp⟩ := g2.mem z hz
    obtain ⟨e', he', o1, o2, oe⟩ := hp z' hm'
    obtain ⟨v, hv, rv⟩ := (g4.get z'.1).1 e' he'
    have ⟨c1, c2⟩ := okD_lay 60 _ o1
    have ⟨c3, _⟩ := okD_lay 60 _ o2
    exact ⟨v, py z'.2, py e', by rw [ek]; exact hv, (rp.mono hid_ex).dp o1, (rv.mono hid_ex).dp o2, c1, c3, c2, oe⟩
section
variable {X : Cx} {ω : Bx} {a b : Expr} {ta tb : TE2} {pos : Pos}
theorem neTT {k : Nat} (hr : Room k X.A) (ha : PE2 X ω a ta) (hb : PE2 X ω b tb) : PE2 X ω (.Compare a [.NotEq] [b] pos) (tOp2 oNeTT ta tb) := q_cmp (op_neTT hr.units) cv_neTT ha hb (nomark _)
theorem tneTT {k : Nat} (hr : Room k X.A) (ha : PE2 X ω a ta) (hb : PE2 X ω b tb) : PT2 X ω (.Compare a [.NotEq] [b] pos) (tTU (tOp2 oNeTT ta tb)) := testC (op_neTT hr.units) cv_neTT ha hb (nomark _)
end
end Z

/-! Z64: repr(x) of plain data with lists and dicts in one another. -/
namespace Z
open PySem PySem.Spec PyProof.Rows L2
/-- small data -/
def ShM : Nat → D → Prop
  | _, .non => True
  | _, .bl _ => True
  | _, .int i => i.natAbs < 2 ^ 1900
  | _, .str x => (reprText x).length ≤ 600
  | n + 1, .tup xs => xs.length ≤ 8 ∧ ∀ x ∈ xs, ShM n x
  | n + 1, .ptu xs => xs.length ≤ 8 ∧ ∀ x ∈ xs, ShM n x
  | n + 1, .lst xs => xs.length ≤ 8 ∧ ∀ x ∈ xs, ShM n x
  | n + 1, .rol xs => xs.length ≤ 8 ∧ ∀ x ∈ xs, ShM n x
  | n + 1, .dic ks xs => ks.length = xs.length ∧ xs.length ≤ 8 ∧ (∀ k ∈ ks, Shw false 0 (keyV k)) ∧ ∀ x ∈ xs, ShM n x
  | n + 1, .fdi ks xs => ks.length = xs.length ∧ xs.length ≤ 8 ∧ (∀ k ∈ ks, Shw false 0 (keyV k)) ∧ ∀ x ∈ xs, ShM n x
  | _, _ => False
theorem shm_okp : ∀ (n : Nat) (d : D), ShM n d → Okp false n (pyR d) := by
  have nd : ∀ {d : PyData}, false = true → d.hasDict = false := fun h => nomatch h
  have tupS : ∀ (n : Nat) (xs : List D), xs.length ≤ 8 → (∀ x ∈ xs, Okp false n (pyR x)) → Okp false (n + 1) (.tuple (pysR xs)) := fun n xs hl hx => by
    obtain ⟨a1, a2, a3, a4, a5⟩ := okp_all hx
    refine ⟨by simp only [PyData.showable]; exact a1, by simp only [PyData.depth]; omega, ?_, nd⟩
    simp only [PyData.shown, lenR]
    have := tupleText_len_le (PyData.shownAll (pysR xs))
    have h8 : xs.length * lenR n ≤ 8 * lenR n := Nat.mul_le_mul_right _ hl
    omega
  have lstS : ∀ (n : Nat) (xs : List D), xs.length ≤ 8 → (∀ x ∈ xs, Okp false n (pyR x)) → Okp false (n + 1) (.list (pysR xs)) := fun n xs hl hx => by
    obtain ⟨a1, a2, a3, a4, a5⟩ := okp_all hx
    refine ⟨by simp only [PyData.showable]; exact a1, by simp only [PyData.depth]; omega, ?_, nd⟩
    simp only [PyData.shown, lenR]
    have := listText_len_le (PyData.shownAll (pysR xs))
    have h8 : xs.length * lenR n ≤ 8 * lenR n := Nat.mul_le_mul_right _ hl
    omega
  have dicS : ∀ (n : Nat) (ks : List Key) (xs : List D), xs.length ≤ 8 → (∀ k ∈ ks, Shw false 0 (keyV k)) → (∀ x ∈ xs, Okp false n (pyR x)) → Okp false (n + 1) (.dict ((ks.map keyP).zip (pysR xs))) := fun n ks xs hl hk hx => by
    obtain ⟨a1, a2, a3, a4⟩ := okp_kv hk hx
    refine ⟨by simp only [PyData.showable]; exact a1, by simp only [PyData.depth]; omega, ?_, nd⟩
    simp only [PyData.shown, lenR]
    have := dictText_len_le (PyData.shownKv ((ks.map keyP).zip (pysR xs)))
    have h8 : xs.length * (lenR n + 602) ≤ 8 * (lenR n + 602) := Nat.mul_le_mul_right _ hl
    omega
  have leaf : ∀ (n : Nat) (d : D), Shw false 0 d → Okp false n (pyR d) := fun n d h => by
    have o := shw_okp 0 d h
    refine ⟨o.sh, by have := o.dp; omega, Nat.le_trans o.ln ?_, nd⟩
    have := lenR_ge n
    show 700 ≤ lenR n
    exact this
  intro n
  induction n with
  | zero =>
    intro d h
    cases d <;> first
      | (refine leaf 0 _ ?_; simp only [ShM] at h; simp only [Shw] <;> exact h)
      | exact (by simpa only [ShM] using h : False).elim
  | succ n ih =>
    intro d h
    cases d <;> simp only [ShM] at h <;> first
      | (refine leaf (n + 1) _ ?_; simp only [Shw] <;> exact h)
      | (simp only [pyR]; exact tupS n _ h.1 fun x hx => ih x (h.2 x hx))
      | (simp only [pyR]; exact lstS n _ h.1 fun x hx => ih x (h.2 x hx))
      | (simp only [pyR]; exact dicS n _ _ h.2.1 h.2.2.1 fun x hx => ih x (h.2.2.2 x hx))
      | exact h.elim
/-! ### what the heap holds, and how repr goes through it -/
section
variable {X : Cx} {pins : List (Addr × Obj)} {σ : St} {H : Hp} {s : Shared}
/-- a value read, and its text told level by level -/
def Told (P : Program) (w : World) (h : Heap) (u : Value) (d : PyData) : Prop := (∃ as, Reads h u d as) ∧ ∃ bs, ReadAtMost h d.depth bs ∧ ReprK P w bs h d.depth u d.shown
theorem told_all {P : Program} {w : World} {h : Heap} {n : Nat} : ∀ {us : List Value} {ds : List D}, us.length = ds.length → (∀ (i : Nat) u d, us[i]? = some u → ds[i]? = some d → Told P w h u (pyR d)) →
    (∃ as, ReadsAll h us (pysR ds) as) ∧ ∃ bs, ReadAtMost h (PyData.depthAll (pysR ds)) bs ∧ ReprAllK P w bs h (PyData.depthAll (pysR ds)) us (PyData.shownAll (pysR ds))
  | [], [], _, _ => ⟨⟨[], by simp only [pysR]; exact .nil⟩, [], (fun _ h => nomatch h), by simp only [pysR, PyData.shownAll]; exact .nil⟩
  | u :: us, d :: ds, hl, k => by
    obtain ⟨⟨as, r1⟩, b1, m1, k1⟩ := k 0 u d rfl rfl
    obtain ⟨⟨as2, r2⟩, b2, m2, k2⟩ := told_all (n := n) (us := us) (ds := ds) (by simpa using hl) fun i u d h1 h2 => k (i + 1) u d h1 h2
    simp only [pysR, PyData.depthAll, PyData.shownAll]
    refine ⟨⟨_, .cons r1 r2⟩, b1 ++ b2, ?_, .cons ((k1.more fun b hb => List.mem_append_left _ hb).level_le (Nat.le_max_left _ _)) (k2.more_le (fun b hb => List.mem_append_right _ hb) (Nat.le_max_right _ _))⟩
    exact (m1.mono (Nat.le_max_left _ _)).append (m2.mono (Nat.le_max_right _ _))
  | [], _ :: _, hl, _ => by simp at hl
  | _ :: _, [], hl, _ => by simp at hl
theorem told_keys {P : Program} {w : World} {h : Heap} : ∀ {ks : List Key} {us : List Value}, ks.length = us.length → (∀ k ∈ ks, Shw false 0 (keyV k)) → (∀ (i : Nat) k u, ks[i]? = some k → us[i]? = some u → keyIs k u = true) →
    ReprAllK P w [] h (PyData.depthAll (ks.map keyP)) us (PyData.shownAll (ks.map keyP)) ∧ PyData.depthAll (ks.map keyP) = 0
  | [], [], _, _, _ => ⟨by simp only [List.map_nil, PyData.shownAll]; exact .nil, by simp only [List.map_nil, PyData.depthAll]⟩
  | k :: ks, u :: us, hl, hk, hi => by
    obtain ⟨a1, a2⟩ := told_keys (P := P) (w := w) (h := h) (ks := ks) (us := us) (by simpa using hl) (fun x hx => hk x (List.mem_cons_of_mem _ hx)) fun i k u h1 h2 => hi (i + 1) k u h1 h2
    obtain ⟨o1, o2, o3⟩ := key_okp (hk k List.mem_cons_self)
    have h0 := hi 0 k u rfl rfl
    simp only [List.map_cons, PyData.shownAll, PyData.depthAll]
    rw [a2] at a1
    rw [a2, o2]
    refine ⟨.cons ?_ a1, rfl⟩
    rcases keyIs_shape h0 with ⟨i, t, rfl, rfl⟩ | ⟨x, t, rfl, rfl⟩
    · simp only [keyP, PyData.shown]
      exact .of_is (ReprIs.int t (by simpa only [keyP, PyData.showable, decide_eq_true_eq] using o1)) _ _ _
    · simp only [keyP, PyData.shown]
      exact .of_is (ReprIs.str x t (Nat.le_trans (by simpa only [keyP, PyData.shown] using o3) (by decide))) _ _ _
  | [], _ :: _, hl, _, _ => by simp at hl
  | _ :: _, [], hl, _, _ => by simp at hl
theorem pairs_is {P : Program} {w : World} : ∀ {es : List DictEntry} {vs : List (Key × Value)}, Pairs (mixKind P w) es vs → ∀ (i : Nat) k u, (vs.map (·.1))[i]? = some k → (es.map (·.key))[i]? = some u → keyIs k u = true
  | _, _, .nil, i, k, u, h1, h2 => by simp at h1
  | _, _, .cons h1 h2 r, 0, k, u, e1, e2 => by
    have e1 := Option.some.inj e1
    have e2 := Option.some.inj e2
    subst e1 e2
    exact h1
  | _, _, .cons h1 h2 r, i + 1, k, u, e1, e2 => pairs_is r i k u (by simpa using e1) (by simpa using e2)
/-- repr(u) itself -/
def TopR (P : Program) (w : World) (h : Heap) (u : Value) (d : PyData) : Prop := ∀ (A : Around) (E : Value → Shared → Prop) (s : Shared) (Q : Value → Shared → Prop), A.guards = some [] → A.units + (d.depth + 1) < cLine → d.shown.length ≤ sizeLine → (∀ b o, h.get? b = some o → s.heap.get? b = some o) →
  (∀ h' t tk, (∀ b o, s.heap.get? b = some o → h'.get? b = some o) → Q (.str d.shown t) { s with heap := h', toks := tk }) → wpAny (model P w) A (call (.builtin "repr") [u]) Q E s
theorem told_of (I : Inv X pins σ H s) : ∀ (n : Nat) {d : D} {v : V} {u : Value}, Rep X.K H v d → RelV v u → ShM n d → Told X.prog X.w s.heap u (pyR d) ∧ TopR X.prog X.w s.heap u (pyR d) := by
  intro n
  have base : ∀ (n : Nat) {d : D} {v : V} {u : Value}, Rep X.K H v d → RelV v u → (∀ {d : D} {v : V} {u : Value} {k : Nat}, n = k + 1 → Rep X.K H v d → RelV v u → ShM k d → Told X.prog X.w s.heap u (pyR d)) → ShM n d → Told X.prog X.w s.heap u (pyR d) ∧ TopR X.prog X.w s.heap u (pyR d) := by
    intro n d v u r q ih h
    have each : ∀ {vs : List V} {ds : List D} {us : List Value} {k : Nat}, n = k + 1 → Reps X.K H vs ds → Vals vs us → (∀ x ∈ ds, ShM k x) → us.length = ds.length ∧ ∀ (i : Nat) u d, us[i]? = some u → ds[i]? = some d → Told X.prog X.w s.heap u (pyR d) := fun {vs ds us k} e rs rv hx => ⟨by rw [← rv.length, rs.length], fun i u d h1 h2 => by
      obtain ⟨x, hx1, rx⟩ := vals_get rv h1
      obtain ⟨y, hy1, ry⟩ := rs.get h2
      rw [hx1] at hy1
      cases hy1
      exact ih e ry rx (hx d (List.mem_of_getElem? h2))⟩
    have lst : ∀ {a : Addr} {vs : List V} {ds : List D} {k : Nat}, n = k + 1 → SqL X.K H a vs → Reps X.K H vs ds → (∀ x ∈ ds, ShM k x) → Told X.prog X.w s.heap (.ref a) (.list (pysR ds)) ∧ TopR X.prog X.w s.heap (.ref a) (.list (pysR ds)) := fun {a vs ds k} e hs rs hx => by
      obtain ⟨its, rv, ⟨o, m, ho, hc, _, hd⟩, _⟩ := I.list hs
      obtain ⟨hl, hu⟩ := each e rs rv hx
      obtain ⟨⟨as, r1⟩, bs, hb, hk⟩ := told_all (n := k) hl hu
      have r : Reads s.heap (.ref a) (.list (pysR ds)) _ := .list ho hc hd r1
      have hna : a ∉ bs := not_mem_of_deeper r (by simp only [PyData.depth]; omega) hb
      refine ⟨⟨⟨_, r⟩, a :: bs, ReadAtMost.cons r (by simp only [PyData.depth]; omega) hb, ?_⟩, fun A E s1 Q hg hu hz hk0 hQ => ?_⟩
      · simp only [PyData.depth, PyData.shown]
        cases its with
        | nil =>
          have r1' : ReadsAll s.heap [] (pysR ds) as := r1
          generalize pysR ds = zs at *
          cases r1'
          simp only [PyData.shownAll, listText_nil]
          exact ReprK.listEmpty ho hc hd
        | cons x l => exact ReprK.list ho hc hd hna (by simpa using hk.length_eq) (fun i y e => hk.item i y (by simpa using e))
      · simp only [PyData.depth] at hu
        simp only [PyData.shown] at hQ hz
        refine call_repr_slot (by omega) ⟨o, hk0 _ _ ho, hc⟩ F.slot_list_repr.toG ?_
        cases its with
        | nil =>
          have r1' : ReadsAll s.heap [] (pysR ds) as := r1
          generalize pysR ds = zs at *
          cases r1'
          simp only [PyData.shownAll, listText_nil] at hQ
          exact call_list_repr_empty ⟨o, hk0 _ _ ho, hc⟩ (hk0 _ _ ho) hd ⟨_, _, rfl, hQ s1.heap _ _ fun _ _ e => e⟩
        | cons x l => exact call_list_reprK ho hc hd hna (by simpa using hk.length_eq) (fun i y e => hk.item i y (by simpa using e)) hg (fun b _ => Clear.nil b) (by show A.units + 1 + _ < cLine; omega) hk0 (fun h' u tk hk => ⟨_, _, rfl, hQ h' u tk hk⟩) hz
    have tup : ∀ {a : Addr} {vs : List V} {ds : List D} {k : Nat}, n = k + 1 → SqT X.K H a vs → Reps X.K H vs ds → (∀ x ∈ ds, ShM k x) → Told X.prog X.w s.heap (.ref a) (.tuple (pysR ds)) ∧ TopR X.prog X.w s.heap (.ref a) (.tuple (pysR ds)) := fun {a vs ds k} e hs rs hx => by
      obtain ⟨its, rv, ⟨o, ho, hc, m, hd⟩, _⟩ := I.tuple hs
      obtain ⟨hl, hu⟩ := each e rs rv hx
      obtain ⟨⟨as, r1⟩, bs, hb, hk⟩ := told_all (n := k) hl hu
      have r : Reads s.heap (.ref a) (.tuple (pysR ds)) _ := .tuple ho hc hd r1
      have hna : a ∉ bs := not_mem_of_deeper r (by simp only [PyData.depth]; omega) hb
      refine ⟨⟨⟨_, r⟩, a :: bs, ReadAtMost.cons r (by simp only [PyData.depth]; omega) hb, ?_⟩, fun A E s1 Q hg hu hz hk0 hQ => ?_⟩
      · simp only [PyData.depth, PyData.shown]
        exact ReprK.tuple ho hc hd hna hk
      · simp only [PyData.depth] at hu
        simp only [PyData.shown] at hQ hz
        exact call_repr_slot (by omega) ⟨o, hk0 _ _ ho, hc⟩ F.slot_tuple_repr (call_tuple_reprK ho hc hd hna hk hg (fun b _ => Clear.nil b) (by show A.units + 1 + _ < cLine; omega) hk0 (fun h' u tk hk => ⟨_, _, rfl, hQ h' u tk hk⟩) hz)
    have dic : ∀ {a : Addr} {ks : List Key} {vs : List V} {ds : List D} {k : Nat}, n = k + 1 → Rd H a (.dK (ks.zip vs)) → ks.length = vs.length → Reps X.K H vs ds → (∀ x ∈ ks, Shw false 0 (keyV x)) → (∀ x ∈ ds, ShM k x) →
        Told X.prog X.w s.heap (.ref a) (.dict ((ks.map keyP).zip (pysR ds))) ∧ TopR X.prog X.w s.heap (.ref a) (.dict ((ks.map keyP).zip (pysR ds))) := fun {a ks vs ds k} e hs hl rs hks hx => by
      obtain ⟨hz, hsm, ws, kv, o, es, ep, ho, hxd, hdt, _, pr, _⟩ := dk_rd I.hok hs
      obtain ⟨k1, k2⟩ := kv_keys kv
      obtain ⟨z1, z2⟩ := zip_fst ks vs hl
      rw [z1] at k1
      rw [z2] at k2
      obtain ⟨p1, p2⟩ := pairs_key (h := s.heap) pr
      rw [k1] at p1
      rw [← p2] at k2
      obtain ⟨hlu, hu⟩ := each e rs k2 hx
      obtain ⟨⟨as, r1⟩, b2, hb2, c2⟩ := told_all (n := k) hlu hu
      have hkl : ks.length = (es.toList.map (·.key)).length := by rw [List.length_map, pr.length, ← k1, List.length_map]
      obtain ⟨c1, c0⟩ := told_keys (P := X.prog) (w := X.w) (h := s.heap) hkl hks fun i x u g1 g2 => pairs_is pr i x u (by rw [k1]; exact g1) g2
      have hl2 : (ks.map keyP).length = (pysR ds).length := by rw [List.length_map, pysR_len, hl, rs.length]
      obtain ⟨w1, w2⟩ := zip_fst _ _ hl2
      have r : Reads s.heap (.ref a) (.dict ((ks.map keyP).zip (pysR ds))) _ := Reads.dict (as := []) (bs := as) ho hxd.1 hdt (by rw [w1]; exact p1) (by rw [w2]; exact r1)
      have dk := PyData.depthAll_vals_le ((ks.map keyP).zip (pysR ds))
      have dk0 := PyData.depthAll_keys_le ((ks.map keyP).zip (pysR ds))
      rw [w2] at dk
      rw [w1] at dk0
      have hb : ReadAtMost s.heap (PyData.depthKv ((ks.map keyP).zip (pysR ds))) b2 := hb2.mono dk
      have hna : a ∉ b2 := not_mem_of_deeper r (by simp only [PyData.depth]; omega) hb
      have hE := ReprEntriesK.of_two es.toList _ _ (c1.more_le (as' := b2) (fun b hb => absurd hb List.not_mem_nil) dk0) (c2.more_le (as' := b2) (fun b hb => hb) dk)
      refine ⟨⟨⟨_, r⟩, a :: b2, ReadAtMost.cons r (by simp only [PyData.depth]; omega) hb, ?_⟩, fun A E s1 Q hg hu hz k0 hQ => ?_⟩
      · simp only [PyData.depth, PyData.shown, PyData.shownKv_eq, w1, w2]
        exact ReprK.dict ho hxd.1 hdt hsm hna hE
      · simp only [PyData.depth] at hu
        simp only [PyData.shown, PyData.shownKv_eq, w1, w2] at hQ hz
        exact call_repr_slot (by omega) ⟨o, k0 _ _ ho, hxd.1⟩ F.slot_dict_repr (call_dict_reprK ho hxd.1 hdt hsm hna hE hg (fun b _ => Clear.nil b) (by show A.units + 1 + _ < cLine; omega) k0 (fun h' u tk hk => ⟨_, _, rfl, hQ h' u tk hk⟩) hz)
    cases r with
    | non =>
      cases q
      simp only [pyR]
      exact ⟨⟨⟨_, .none⟩, [], (fun _ h => nomatch h), by simp only [PyData.shown]; exact .of_is ReprIs.none _ _ _⟩, fun A E s1 Q _ _ _ _ hQ => PySem.P.repr_of_none (hQ s1.heap _ _ fun _ _ e => e)⟩
    | bl c =>
      cases q
      simp only [pyR]
      exact ⟨⟨⟨_, .bool c⟩, [], (fun _ h => nomatch h), by simp only [PyData.shown]; exact .of_is (ReprIs.bool c) _ _ _⟩, fun A E s1 Q _ _ _ _ hQ => PySem.P.repr_of_bool (by have := hQ s1.heap s1.toks (s1.toks + 1) fun _ _ e => e; cases c <;> exact this)⟩
    | int i =>
      obtain ⟨t, rfl⟩ := q
      have h : i.natAbs < 2 ^ 1900 := by cases n <;> simpa only [ShM] using h
      simp only [pyR]
      exact ⟨⟨⟨_, .int i t⟩, [], (fun _ h => nomatch h), by simp only [PyData.shown]; exact .of_is (ReprIs.int t (log1900 h)) _ _ _⟩, fun A E s1 Q _ _ _ _ hQ => PySem.P.repr_of_int (log1900 h) (hQ s1.heap _ _ fun _ _ e => e)⟩
    | str x =>
      obtain ⟨t, rfl⟩ := q
      have h : (reprText x).length ≤ 600 := by cases n <;> simpa only [ShM] using h
      simp only [pyR]
      exact ⟨⟨⟨_, .str x t⟩, [], (fun _ h => nomatch h), by simp only [PyData.shown]; exact .of_is (ReprIs.str x t (Nat.le_trans h (by decide))) _ _ _⟩, fun A E s1 Q _ _ hz _ hQ => PySem.P.repr_of_str (hQ s1.heap _ _ fun _ _ e => e) hz⟩
    | tup h1 r =>
      cases q
      cases n with
      | zero => exact (by simpa only [ShM] using h : False).elim
      | succ k =>
        simp only [ShM] at h
        simp only [pyR]
        exact tup rfl h1 r h.2
    | ptu h1 h0 r =>
      cases q
      cases n with
      | zero => exact (by simpa only [ShM] using h : False).elim
      | succ k =>
        simp only [ShM] at h
        simp only [pyR]
        exact tup rfl (.inl (.inr ⟨_, h1⟩)) r h.2
    | lst h1 r =>
      cases q
      cases n with
      | zero => exact (by simpa only [ShM] using h : False).elim
      | succ k =>
        simp only [ShM] at h
        simp only [pyR]
        exact lst rfl (SqL.of h1) r h.2
    | rol h1 r =>
      cases q
      cases n with
      | zero => exact (by simpa only [ShM] using h : False).elim
      | succ k =>
        simp only [ShM] at h
        simp only [pyR]
        exact lst rfl h1 r h.2
    | dic h1 h0 r =>
      cases q
      cases n with
      | zero => exact (by simpa only [ShM] using h : False).elim
      | succ k =>
        simp only [ShM] at h
        simp only [pyR]
        exact dic rfl h1 h0 r h.2.2.1 h.2.2.2
    | fdi h1 h0 r =>
      cases q
      cases n with
      | zero => exact (by simpa only [ShM] using h : False).elim
      | succ k =>
        simp only [ShM] at h
        simp only [pyR]
        exact dic rfl (.inr ⟨_, h1⟩) h0 r h.2.2.1 h.2.2.2
    | ty x => exact (by cases n <;> simpa only [ShM] using h : False).elim
    | ref a => exact (by cases n <;> simpa only [ShM] using h : False).elim
    | exc h1 => exact (by cases n <;> simpa only [ShM] using h : False).elim
  induction n with
  | zero => exact fun r q h => base 0 r q (fun e => nomatch e) h
  | succ n ih => exact fun r q h => base (n + 1) r q (fun e r q h => by cases e; exact (ih r q h).1) h
end
/-- what is owned, read through to that depth -/
def resN (m : M) : Nat → D → D
  | n + 1, .tup xs => .tup (xs.map (resN m n))
  | n + 1, .ptu xs => .tup (xs.map (resN m n))
  | n + 1, .lst xs => .rol (xs.map (resN m n))
  | n + 1, .rol xs => .rol (xs.map (resN m n))
  | n + 1, .dic ks xs => .dic ks (xs.map (resN m n))
  | n + 1, .fdi ks xs => .dic ks (xs.map (resN m n))
  | n + 1, .ref a => match m a with
    | some (.lst xs) => .rol (xs.map (resN m n))
    | some (.dic ks xs) => .dic ks (xs.map (resN m n))
    | none => .ref a
  | _, d => d
theorem reps_map {K : PySem.W.Frag} {G H : Hp} {f : D → D} (hf : ∀ {d : D} {v : V}, Rep K G v d → Rep K H v (f d)) : ∀ {vs : List V} {ds : List D}, Reps K G vs ds → Reps K H vs (ds.map f)
  | _, _, .nil => .nil
  | _, _, .cons r t => .cons (hf r) (reps_map hf t)
theorem rep_resN {K : PySem.W.Frag} {m : M} {H : Hp} (hm : MemOk K m H) : ∀ (n : Nat) {d : D} {v : V}, Rep K (hid m H) v d → Rep K H v (resN m n d)
  | 0, d, v, r => by
    have e : resN m 0 d = d := by cases d <;> rfl
    rw [e]; exact r.mono hid_ex
  | n + 1, d, v, r => by
    cases r with
    | non => exact .non
    | bl b => exact .bl b
    | int b => exact .int b
    | str b => exact .str b
    | ty b => exact .ty b
    | tup h1 h2 => exact .tup (hid_ex.t h1) (reps_map (rep_resN hm n) h2)
    | ptu h1 h0 h2 => exact .tup (.inl (.inr ⟨_, hid_ex _ _ h1⟩)) (reps_map (rep_resN hm n) h2)
    | lst h1 h2 => exact .rol (SqL.of (hid_ex _ _ h1)) (reps_map (rep_resN hm n) h2)
    | rol h1 h2 => exact .rol (hid_ex.l h1) (reps_map (rep_resN hm n) h2)
    | dic h1 h0 h2 => exact .dic (Ex.rd hid_ex h1) h0 (reps_map (rep_resN hm n) h2)
    | fdi h1 h0 h2 => exact .dic (.inr ⟨_, hid_ex _ _ h1⟩) h0 (reps_map (rep_resN hm n) h2)
    | exc h => exact .exc (hid_ex _ _ h)
    | ref a =>
      cases q : m a with
      | none => simp only [resN, q]; exact .ref a
      | some c =>
        cases c with
        | lst es =>
          simp only [resN, q]
          obtain ⟨vs, h1, h2⟩ := hm a _ q
          exact .rol (SqL.of h1) (reps_map (rep_resN hm n) h2)
        | dic ks es =>
          simp only [resN, q]
          obtain ⟨vs, h1, h0, h2⟩ := hm a _ q
          exact .dic (.inl h1) h0 (reps_map (rep_resN hm n) h2)
def rReprM (K : PySem.W.Frag) : List V → Hp → VK → Prop := fun xs H Q => ∃ v d, xs = [v] ∧ Rep K H v d ∧ ShM 4 d ∧ Q (.str (pyR d).shown) H
theorem call_reprM {X : Cx} (hg : X.A.guards = some []) (hu : X.A.units + 64 < cLine) : CallR X (.builtin "repr") (rReprM X.K) := by
  intro pins s σ H xs us Q I r h
  obtain ⟨v, d, rfl, hr, hs, q⟩ := h
  obtain ⟨u, rfl, ru⟩ := vals1 r
  have o := shm_okp 4 d hs
  have l4 : lenR 4 ≤ sizeLine := by decide
  exact (told_of I 4 hr ru hs).2 _ _ _ _ hg (by have := o.dp; omega) (Nat.le_trans o.ln l4) (fun _ _ e => e) fun h' t tk k => ⟨.str _, H, I.kept k, ⟨_, rfl⟩, q⟩
@[irreducible] def reprMK : RC2 := fun xs m Q => Box <| ∃ d, xs = [d] ∧ ShM 4 (resN m 4 d) ∧ Q (.str (pyR (resN m 4 d)).shown) m
theorem reprM_of {d e : D} {m : M} {Q : Kd} (h : resN m 4 d = e) (hs : ShM 4 e) (q : Q (.str (pyR e).shown) m) : reprMK [d] m Q := by unfold reprMK; subst h; exact ⟨⟨d, rfl, hs, q⟩⟩
theorem kc_reprM {K : PySem.W.Frag} : CvC K (rReprM K) reprMK := fun H m ds vs Q Q' hm r h k => by
  unfold reprMK at h
  obtain ⟨d, rfl, hs, q⟩ := h.out
  cases r with
  | cons r rs =>
    cases rs
    exact ⟨_, resN m 4 d, rfl, rep_resN hm 4 r, hs, k _ _ (.same hm (.str _) q)⟩
section
variable {X : Cx} {ω : Bx} {x : Str} {p pos : Pos} {e : Expr} {es : List Expr} {t : TA2}
/-- repr of data with lists and dicts -/
theorem reprMU {k : Nat} (hgd : X.A.guards = some []) (hr : Room k X.A) (hg : Gl X "repr") (hm : X.mg "repr" = none) (ha : PA2 X ω (e :: es) t) (he : starEach (e :: es) X.env = (false, eval e X.env) :: starEach es X.env := by rfl) (hpl : (backTo pos (starEach es X.env)).any (·.1) = false := by rfl) :
    PE2 X ω (.Call (.Name "repr" p) (e :: es) [] pos) (tCB2 reprMK t) :=
  q_callB (call_reprM hgd hr.units) kc_reprM hg hm PyProof.Rows.bootS_repr ha (by decide) (by decide) he hpl
end
/-! ### defs that ask repr themselves -/
section
variable {P : Program} {w : World} {K : PySem.W.Frag} {mg : Str → Option Value} {base : Heap} {x : Str} {st : Stmt} {f : Addr} {fd : FuncData} {N ps : List Str} {k : Nat}
abbrev BodyG (P : Program) (w : World) (K : PySem.W.Frag) (mg : Str → Option Value) (base : Heap) (N : List Str) (x : Str) (st : Stmt) (f : Addr) (k : Nat) (R : TS2 → Prop) : Prop :=
  ∀ (cdv : Value) (A : Around) (outer : List Env) (s : Shared) (H : Hp) (E : XK), A.guards = some [] → Room k (A.deeper (envOfC x (defScope st) s.heap.objs.size f cdv)) →
      ∃ t, PSs2 (cxOf CX0 P w K mg base N x (defScope st) f cdv A outer s H E).nox Bx.no (defBody st) t ∧ R t
theorem DefAt.okG {sp : Sp2} (A : DefAt K mg x st ps) (h : ∀ f fd, FunZ K x x st f fd → FnG P w K mg base k f fd ps (lift K sp)) : DefG P w K mg base k x sp := by
  obtain ⟨f, fd, F, hm, hb⟩ := A.ex
  exact ⟨f, fd, ps, h f fd F, hm, F.kp, hb⟩
theorem fnG1 {p : D → M → Kd → Prop} (F : FunZ K x x st f fd) (S : FnScope N ps (defScope st)) (hl : ps.length = 1) (body : BodyG P w K mg base N x st f k fun t => ∀ a m Q, p a m Q → t (Ew Q) (st0 N.length [a]) m) : FnG P w K mg base (k + 1) f fd ps (lift K (sp1 p)) := by
  refine fun_okG F S (fun ds m Q E h => ?_) fun cdv A outer s H E hgd hr => ?_
  · unfold sp1 at h
    split at h
    · exact hl.symm
    · exact h.elim
  · obtain ⟨t, h1, h2⟩ := body cdv A outer s H E hgd hr
    refine ⟨t, h1, fun ds m Q E2 h => ?_⟩
    unfold sp1 at h
    split at h
    · exact h2 _ _ _ h
    · exact h.elim
theorem fnG2 {p : D → D → M → Kd → Prop} (F : FunZ K x x st f fd) (S : FnScope N ps (defScope st)) (hl : ps.length = 2) (body : BodyG P w K mg base N x st f k fun t => ∀ a b m Q, p a b m Q → t (Ew Q) (st0 N.length [a, b]) m) : FnG P w K mg base (k + 1) f fd ps (lift K (sp2 p)) := by
  refine fun_okG F S (fun ds m Q E h => ?_) fun cdv A outer s H E hgd hr => ?_
  · unfold sp2 at h
    split at h
    · exact hl.symm
    · exact h.elim
  · obtain ⟨t, h1, h2⟩ := body cdv A outer s H E hgd hr
    refine ⟨t, h1, fun ds m Q E2 h => ?_⟩
    unfold sp2 at h
    split at h
    · exact h2 _ _ _ _ h
    · exact h.elim
theorem fnG3 {p : D → D → D → M → Kd → Prop} (F : FunZ K x x st f fd) (S : FnScope N ps (defScope st)) (hl : ps.length = 3) (body : BodyG P w K mg base N x st f k fun t => ∀ a b c m Q, p a b c m Q → t (Ew Q) (st0 N.length [a, b, c]) m) : FnG P w K mg base (k + 1) f fd ps (lift K (sp3 p)) := by
  refine fun_okG F S (fun ds m Q E h => ?_) fun cdv A outer s H E hgd hr => ?_
  · unfold sp3 at h
    split at h
    · exact hl.symm
    · exact h.elim
  · obtain ⟨t, h1, h2⟩ := body cdv A outer s H E hgd hr
    refine ⟨t, h1, fun ds m Q E2 h => ?_⟩
    unfold sp3 at h
    split at h
    · exact h2 _ _ _ _ _ h
    · exact h.elim
theorem fnG4 {p : D → D → D → D → M → Kd → Prop} (F : FunZ K x x st f fd) (S : FnScope N ps (defScope st)) (hl : ps.length = 4) (body : BodyG P w K mg base N x st f k fun t => ∀ a b c d m Q, p a b c d m Q → t (Ew Q) (st0 N.length [a, b, c, d]) m) : FnG P w K mg base (k + 1) f fd ps (lift K (sp4 p)) := by
  refine fun_okG F S (fun ds m Q E h => ?_) fun cdv A outer s H E hgd hr => ?_
  · unfold sp4 at h
    split at h
    · exact hl.symm
    · exact h.elim
  · obtain ⟨t, h1, h2⟩ := body cdv A outer s H E hgd hr
    refine ⟨t, h1, fun ds m Q E2 h => ?_⟩
    unfold sp4 at h
    split at h
    · exact h2 _ _ _ _ _ _ h
    · exact h.elim
theorem fnG5 {p : D → D → D → D → D → M → Kd → Prop} (F : FunZ K x x st f fd) (S : FnScope N ps (defScope st)) (hl : ps.length = 5) (body : BodyG P w K mg base N x st f k fun t => ∀ a b c d e m Q, p a b c d e m Q → t (Ew Q) (st0 N.length [a, b, c, d, e]) m) : FnG P w K mg base (k + 1) f fd ps (lift K (sp5 p)) := by
  refine fun_okG F S (fun ds m Q E h => ?_) fun cdv A outer s H E hgd hr => ?_
  · unfold sp5 at h
    split at h
    · exact hl.symm
    · exact h.elim
  · obtain ⟨t, h1, h2⟩ := body cdv A outer s H E hgd hr
    refine ⟨t, h1, fun ds m Q E2 h => ?_⟩
    unfold sp5 at h
    split at h
    · exact h2 _ _ _ _ _ _ _ h
    · exact h.elim
theorem fnG6 {p : D → D → D → D → D → D → M → Kd → Prop} (F : FunZ K x x st f fd) (S : FnScope N ps (defScope st)) (hl : ps.length = 6) (body : BodyG P w K mg base N x st f k fun t => ∀ a b c d e f m Q, p a b c d e f m Q → t (Ew Q) (st0 N.length [a, b, c, d, e, f]) m) : FnG P w K mg base (k + 1) f fd ps (lift K (sp6 p)) := by
  refine fun_okG F S (fun ds m Q E h => ?_) fun cdv A outer s H E hgd hr => ?_
  · unfold sp6 at h
    split at h
    · exact hl.symm
    · exact h.elim
  · obtain ⟨t, h1, h2⟩ := body cdv A outer s H E hgd hr
    refine ⟨t, h1, fun ds m Q E2 h => ?_⟩
    unfold sp6 at h
    split at h
    · exact h2 _ _ _ _ _ _ _ _ h
    · exact h.elim
end
end Z

/-! Z65: a, b, .. = a list. -/
namespace Z
open PySem PySem.Spec PyProof.Rows L2
section
variable {X : Cx} {ω : Bx} {pos : Pos}
def gLst2 (n : Nat) (t : TGs2) : TG2 := fun d g m Q => ∃ ds, lsD (res m d) = some ds ∧ ds.length = n ∧ t ds g m Q
theorem qg_lst {es : List Expr} {k : Nat} {t : TGs2} {n : Nat} (hc : X.calm = true) (h : PGs2 X ω es t)
    (hn : (assignEach es X.env).length = n := by rfl) (hst : (assignEach es X.env).findIdx? (·.1) = none := by rfl) : PG2 X ω (.Tuple es k pos) (gLst2 n t) :=
  (pg_lst hc pgs_sem hn hst).to2 fun σ H g m d v Q S hm r ⟨ds, e, hl, q⟩ => by
    obtain ⟨a, vs, rfl, h1, h2⟩ := lstOf r hm e
    exact ⟨a, vs, rfl, h1, h2.length.trans hl, h.sem S hm h2 q⟩
end
end Z

/-! Z66: dict(zip(xs, ys)) of lists and tuples in any mix. -/
namespace Z
open PySem PySem.Spec PyProof.Rows L2
section
variable {prog : Program} {w : World} {A : Around} {E : Value → Shared → Prop} {s : Shared} {z TI TO i1 i2 T : Addr} {fp1 fp2 : List Addr} {n1 n2 i : Nat} {P1 P2 : Nat → Value → Prop} {St1 St2 : Nat → Heap → Prop} {f : Bool} {oT : Obj}
theorem zh_next_item {Q : Value → Shared → Prop} (S : ZipSep2 z TI TO i1 i2 fp1 fp2) (D1 : Draws prog w A i1 fp1 n1 P1 St1) (D2 : Draws prog w A i2 fp2 n2 P2 St2)
    (hz : IsZipHeld s.heap z TI TO T f) (hT : s.heap.get? T = some oT) (hTI : IsTupOf2 s.heap TI (.ref i1) (.ref i2)) (st1 : St1 i s.heap) (st2 : St2 i s.heap) (hlt1 : i < n1) (hlt2 : i < n2)
    (hQ : ∀ x1 x2 h' tk, P1 i x1 → P2 i x2 → IsZipHeld h' z TI TO T true → St1 (i + 1) h' → St2 (i + 1) h' → IsTupOf2 h' s.heap.objs.size x1 x2 → h'.objs.size = s.heap.objs.size + 1 →
      (∀ c o, c ≠ z → c ≠ i1 → c ≠ i2 → s.heap.get? c = some o → h'.get? c = some o) → Q (.ref s.heap.objs.size) { s with heap := h', toks := tk }) :
    wpAny (model prog w) A (Builtin.«zip.__next__» ⟨[.ref z], []⟩) (fun fin s' => ∃ v, fin = .done (.ret v) ∧ Q v s') E s := by
  obtain ⟨hp, g, d, tk0, os⟩ := s
  show wpAny _ _ (field (.ref z) 2 >>= _) _ _ _
  refine wpAny_bind (wpAny_field hz rfl (x := .bool false) rfl ?_)
  show wpAny _ _ (field (.ref z) 3 >>= _) _ _ _
  refine wpAny_bind (wpAny_field hz rfl (x := .ref TI) rfl ?_)
  refine wpAny_bind (wpAny_seqItems hTI rfl ?_)
  show wpAny _ _ (Builtin.SmallTypes.ownedTupleIsFree (.ref z) >>= _) _ _ _
  refine wpAny_bind (wpAny_tupleHeld_zip hz hT fun g0 hz0 hs0 => ?_)
  replace hs0 : Heap.SameBut z hp g0 := hs0
  simp only [Bool.false_eq_true, if_false]
  refine wpAny_bind ?_
  rw [← Array.forIn_toList]
  simp only [List.forIn_cons, List.forIn_nil]
  refine wpAny_bind (wpAny_bind (wpAny_holding ?_))
  show wpAny _ _ (Builtin.SmallTypes.nextOf (.ref i1) >>= _) _ _ ⟨g0, g, d, tk0, os⟩
  refine wpAny_bind (D1.item i _ _ _ hlt1 (D1.over st1 hs0 S.zf1) fun x1 p1 tk1 hx1 sn1 hp1 => wpAny_pure ?_)
  replace hp1 : Heap.SameBut i1 g0 p1 := hp1
  refine wpAny_pure ?_
  refine wpAny_bind (wpAny_bind (wpAny_holding ?_))
  show wpAny _ _ (Builtin.SmallTypes.nextOf (.ref i2) >>= _) _ _ ⟨p1, g, d, tk1, os⟩
  refine wpAny_bind (D2.item i _ _ _ hlt2 (D2.over (D2.over st2 hs0 S.zf2) hp1 S.sep1_2) fun x2 p2 tk2 hx2 sn2 hp2 => wpAny_pure ?_)
  replace hp2 : Heap.SameBut i2 p1 p2 := hp2
  refine wpAny_pure (wpAny_pure ?_)
  show wpAny _ _ (newTuple [x1, x2] >>= _) _ _ _
  refine wpAny_bind (wpAny_newTuple ?_)
  have hsz : p2.objs.size = hp.objs.size := by rw [hp2.1, hp1.1, hs0.1]
  have hz₃ : IsZipHeld p2 z TI TO T true := hp2.extBut _ _ S.zi2 (hp1.extBut _ _ S.zi1 hz0)
  have hk : ∀ c o, c ≠ z → c ≠ i1 → c ≠ i2 → hp.get? c = some o → p2.get? c = some o := fun c o c1 c2 c3 e => hp2.extBut _ _ c3 (hp1.extBut _ _ c2 (hs0.extBut _ _ c1 e))
  have h1₃ : St1 (i + 1) p2 := D1.over sn1 hp2 S.sep2_1
  refine wpAny_pure ⟨_, rfl, ?_⟩
  show Q (.ref p2.objs.size) _
  have hp3 : IsTupOf2 (p2.push { cls := .type "tuple", data := .seq #[x1, x2] }) p2.objs.size x1 x2 := Heap.get?_push_size _ rfl
  have hz4 : (p2.push { cls := .type "tuple", data := .seq #[x1, x2] }).objs.size = p2.objs.size + 1 := Heap.size_push ..
  rw [hsz] at hp3 hz4 ⊢
  exact hQ x1 x2 _ tk2 hx1 hx2 (Heap.get?_push_of_some _ hz₃) (D1.frame _ _ _ h1₃ fun b hb o e => Heap.get?_push_of_some _ e) (D2.frame _ _ _ sn2 fun b hb o e => Heap.get?_push_of_some _ e) hp3 hz4 fun c o c1 c2 c3 e => Heap.get?_push_of_some _ (hk c o c1 c2 c3 e)
theorem zh_next_end {Q : Fin → Shared → Prop} (S : ZipSep2 z TI TO i1 i2 fp1 fp2) (D1 : Draws prog w A i1 fp1 n1 P1 St1) (D2 : Draws prog w A i2 fp2 n2 P2 St2)
    (hz : IsZipHeld s.heap z TI TO T f) (hT : s.heap.get? T = some oT) (hTI : IsTupOf2 s.heap TI (.ref i1) (.ref i2)) (st1 : St1 i s.heap) (st2 : St2 i s.heap) (hle1 : i ≤ n1) (hle2 : i ≤ n2) (hend : i = n1 ∨ i = n2)
    (hE : ∀ h' tk e, (∀ c o, c ≠ z → c ≠ i1 → c ≠ i2 → s.heap.get? c = some o → h'.get? c = some o) → (∃ o, h'.get? e = some o ∧ o.cls = .type "StopIteration") → E (.ref e) { s with heap := h', toks := tk }) :
    wpAny (model prog w) A (Builtin.«zip.__next__» ⟨[.ref z], []⟩) Q E s := by
  obtain ⟨hp, g, d, tk0, os⟩ := s
  show wpAny _ _ (field (.ref z) 2 >>= _) _ _ _
  refine wpAny_bind (wpAny_field hz rfl (x := .bool false) rfl ?_)
  show wpAny _ _ (field (.ref z) 3 >>= _) _ _ _
  refine wpAny_bind (wpAny_field hz rfl (x := .ref TI) rfl ?_)
  refine wpAny_bind (wpAny_seqItems hTI rfl ?_)
  show wpAny _ _ (Builtin.SmallTypes.ownedTupleIsFree (.ref z) >>= _) _ _ _
  refine wpAny_bind (wpAny_tupleHeld_zip hz hT fun g0 hz0 hs0 => ?_)
  replace hs0 : Heap.SameBut z hp g0 := hs0
  simp only [Bool.false_eq_true, if_false]
  refine wpAny_bind ?_
  rw [← Array.forIn_toList]
  simp only [List.forIn_cons, List.forIn_nil]
  refine wpAny_bind (wpAny_bind (wpAny_holding ?_))
  show wpAny _ _ (Builtin.SmallTypes.nextOf (.ref i1) >>= _) _ _ ⟨g0, g, d, tk0, os⟩
  by_cases hlt1 : i < n1
  · refine wpAny_bind (D1.item i _ _ _ hlt1 (D1.over st1 hs0 S.zf1) fun x1 p1 tk1 hx1 sn1 hp1 => wpAny_pure ?_)
    replace hp1 : Heap.SameBut i1 g0 p1 := hp1
    refine wpAny_pure ?_
    have hi2 : i = n2 := by omega
    refine wpAny_bind (wpAny_bind (wpAny_holding ?_))
    show wpAny _ _ (Builtin.SmallTypes.nextOf (.ref i2) >>= _) _ _ ⟨p1, g, d, tk1, os⟩
    refine wpAny_bind (D2.done ⟨p1, g, d, tk1, os⟩ _ _ (by rw [← hi2]; exact D2.over (D2.over st2 hs0 S.zf2) hp1 S.sep1_2) fun q e hq he => ?_)
    replace hq : Heap.ExtBut i2 p1 q := hq
    exact hE q tk1 e (fun c o cz c1 c2 x => hq _ _ c2 (hp1.extBut _ _ c1 (hs0.extBut _ _ cz x))) he
  · have hi1 : i = n1 := by omega
    refine wpAny_bind (D1.done ⟨g0, g, d, tk0, os⟩ _ _ (by rw [← hi1]; exact D1.over st1 hs0 S.zf1) fun q e hq he => ?_)
    replace hq : Heap.ExtBut i1 g0 q := hq
    exact hE q tk0 e (fun c o cz c1 c2 x => hq _ _ c1 (hs0.extBut _ _ cz x)) he
theorem zh_pyNext_item {Q : Option Value → Shared → Prop} (S : ZipSep2 z TI TO i1 i2 fp1 fp2) (D1 : Draws prog w A.in1 i1 fp1 n1 P1 St1) (D2 : Draws prog w A.in1 i2 fp2 n2 P2 St2)
    (hz : IsZipHeld s.heap z TI TO T f) (hT : s.heap.get? T = some oT) (hTI : IsTupOf2 s.heap TI (.ref i1) (.ref i2)) (st1 : St1 i s.heap) (st2 : St2 i s.heap) (hlt1 : i < n1) (hlt2 : i < n2)
    (hQ : ∀ x1 x2 h' tk, P1 i x1 → P2 i x2 → IsZipHeld h' z TI TO T true → St1 (i + 1) h' → St2 (i + 1) h' → IsTupOf2 h' s.heap.objs.size x1 x2 → h'.objs.size = s.heap.objs.size + 1 →
      (∀ c o, c ≠ z → c ≠ i1 → c ≠ i2 → s.heap.get? c = some o → h'.get? c = some o) → Q (some (.ref s.heap.objs.size)) { s with heap := h', toks := tk }) :
    wpAny (model prog w) A (pyNext (.ref z)) Q E s := by
  have hTy : s.TypeIs (.ref z) "zip" := ⟨_, hz, rfl⟩
  unfold pyNext
  exact wpAny_bind (wpAny_attempt (wpAny_callSpecial?_slot (name := Str.ofString "__next__") hTy F.slot_zip_next
    (wpAny_call_entry F.slot_zip_next hTy F.entry_zip_next
      (zh_next_item S D1 D2 hz hT hTI st1 st2 hlt1 hlt2 fun x1 x2 h' tk y1 y2 b1 d1 d2 b5 b6 b7 => wpAny_pure (hQ x1 x2 h' tk y1 y2 b1 d1 d2 b5 b6 b7)) (F.args_zip_next_1 _))))
theorem zh_pyNext_end {Q : Option Value → Shared → Prop} (S : ZipSep2 z TI TO i1 i2 fp1 fp2) (D1 : Draws prog w A.in1 i1 fp1 n1 P1 St1) (D2 : Draws prog w A.in1 i2 fp2 n2 P2 St2)
    (hz : IsZipHeld s.heap z TI TO T f) (hT : s.heap.get? T = some oT) (hTI : IsTupOf2 s.heap TI (.ref i1) (.ref i2)) (st1 : St1 i s.heap) (st2 : St2 i s.heap) (hle1 : i ≤ n1) (hle2 : i ≤ n2) (hend : i = n1 ∨ i = n2)
    (hQ : ∀ h' tk, (∀ c o, c ≠ z → c ≠ i1 → c ≠ i2 → s.heap.get? c = some o → h'.get? c = some o) → Q none { s with heap := h', toks := tk }) : wpAny (model prog w) A (pyNext (.ref z)) Q E s := by
  have hTy : s.TypeIs (.ref z) "zip" := ⟨_, hz, rfl⟩
  unfold pyNext
  refine wpAny_bind (wpAny_attempt (wpAny_callSpecial?_slot (name := Str.ofString "__next__") hTy F.slot_zip_next
    (wpAny_call_entry F.slot_zip_next hTy F.entry_zip_next (zh_next_end S D1 D2 hz hT hTI st1 st2 hle1 hle2 hend fun h' tk e hk he => ?_) (F.args_zip_next_1 _))))
  obtain ⟨o, ho, hc⟩ := he
  refine wpAny_bind (wpAny_isInstance (T := "StopIteration") (b := true) ⟨o, ho, hc⟩ isSubtype_stop ?_)
  exact wpAny_pure (hQ _ _ hk)
end
theorem IsIt.lt {b : Bool} {h : Heap} {it a : Addr} {i : Nat} (x : IsIt b h it a i) : ∃ o, h.get? it = some o := let ⟨o, ho, _⟩ := x.obj; ⟨o, ho⟩
theorem IsSq.ex {b : Bool} {h : Heap} {a : Addr} {items : Array Value} (x : IsSq b h a items) : ∃ o, h.get? a = some o := by
  cases b
  · obtain ⟨o, ho, _⟩ := x; exact ⟨o, ho⟩
  · obtain ⟨o, ho, _⟩ := x; exact ⟨o, ho⟩
theorem PairArg.zipM {prog : Program} {w : World} (b c : Bool) (z TI TO i1 i2 l1 l2 : Addr) (D : ZipSep2 z TI TO i1 i2 [i1, l1] [i2, l2]) (n1 : l1 ≠ i1) (n2 : l2 ≠ i2) (xs ys : Array Value) :
    PairArg prog w "zip" z [z, TI, TO, i1, i2, l1, l2] [z, TO, i1, i2] (min xs.size ys.size) (fun i k v => xs[i]? = some k ∧ ys[i]? = some v)
      (fun h => IsZip h z TI TO .none ∧ IsTupOf2 h TI (.ref i1) (.ref i2) ∧ (∃ a b, IsTupOf2 h TO a b) ∧ IsIt b h i1 l1 0 ∧ IsIt c h i2 l2 0 ∧ IsSq b h l1 xs ∧ IsSq c h l2 ys) where
  type := fun s ok => ⟨_, ok.1, rfl⟩
  notDict := by decide
  keep := fun h h' ok hk => by
    obtain ⟨hz, hTI, ⟨a, b, hTO⟩, h1, h2, hl1, hl2⟩ := ok
    exact ⟨hk _ _ hz, hk _ _ hTI, ⟨a, b, hk _ _ hTO⟩, h1.at fun o e => hk _ o e, h2.at fun o e => hk _ o e, hl1.at fun o e => hk _ o e, hl2.at fun o e => hk _ o e⟩
  there := fun h ok b hb => by
    obtain ⟨hz, hTI, ⟨a, c, hTO⟩, h1, h2, hl1, hl2⟩ := ok
    simp only [List.mem_cons, List.not_mem_nil, or_false] at hb
    rcases hb with rfl | rfl | rfl | rfl | rfl | rfl | rfl
    · exact ⟨_, hz⟩
    · exact ⟨_, hTI⟩
    · exact ⟨_, hTO⟩
    · exact h1.lt
    · exact h2.lt
    · exact hl1.ex
    · exact hl2.ex
  sub := fun b hb => by simp at hb ⊢; rcases hb with rfl | rfl | rfl | rfl <;> simp
  noKeys := fun A s Q E hA ok h => getAttrOr_miss_zip ok.1 rfl rfl rfl zip_no_keys (by decide +kernel) hA h
  iter := fun A s d Q E hA ok hd hdf h => by
    obtain ⟨hz, hTI, ⟨a, b0, hTO⟩, h1, h2, hl1, hl2⟩ := ok
    simp only [List.mem_cons, List.not_mem_nil, or_false, not_or] at hdf
    obtain ⟨dz, dTI, dTO, di1, di2, dl1, dl2⟩ := hdf
    have hh : A.in1.handled = none := hA
    have D1 := drwB (prog := prog) (w := w) (A := A.in1) b hh i1 l1 n1 xs
    have D2 := drwB (prog := prog) (w := w) (A := A.in1) c hh i2 l2 n2 ys
    refine wpAny_pyIter_zip hz (h z [z, TO, i1, i2] (fun i h => IsTupOf2 h TI (.ref i1) (.ref i2) ∧ (IsIt b h i1 l1 i ∧ IsSq b h l1 xs) ∧ (IsIt c h i2 l2 i ∧ IsSq c h l2 ys) ∧
      ((IsZip h z TI TO .none ∧ ∃ a b, IsTupOf2 h TO a b) ∨ ∃ T f oT, IsZipHeld h z TI TO T f ∧ h.get? T = some oT ∧ T ≠ z ∧ T ≠ i1 ∧ T ≠ i2 ∧ T ≠ d)) s.heap s.toks ?_
      ⟨hTI, ⟨h1, hl1⟩, ⟨h2, hl2⟩, .inl ⟨hz, a, b0, hTO⟩⟩ (fun _ _ e => e) fun b hb => .inl hb)
    exact {
      off := fun hm => by
        simp only [List.mem_cons, List.not_mem_nil, or_false] at hm
        rcases hm with e | e | e | e
        · exact dz e
        · exact dTO e
        · exact di1 e
        · exact di2 e
      frame := fun i h₁ h₂ st hk => by
        obtain ⟨hTI, ⟨h1, hl1⟩, ⟨h2, hl2⟩, hz⟩ := st
        refine ⟨hk _ _ (Ne.symm dTI) hTI, ⟨h1.at fun o e => hk _ o (Ne.symm di1) e, hl1.at fun o e => hk _ o (Ne.symm dl1) e⟩, ⟨h2.at fun o e => hk _ o (Ne.symm di2) e, hl2.at fun o e => hk _ o (Ne.symm dl2) e⟩, ?_⟩
        rcases hz with ⟨hz, a, b, hTO⟩ | ⟨T, f, oT, hz, hT, r1, r2, r3, r4⟩
        · exact .inl ⟨hk _ _ (Ne.symm dz) hz, a, b, hk _ _ (Ne.symm dTO) hTO⟩
        · exact .inr ⟨T, f, oT, hk _ _ (Ne.symm dz) hz, hk _ _ r4 hT, r1, r2, r3, r4⟩
      item := fun i s₁ Q₁ E₁ hi st hds hQ => by
        obtain ⟨hTI, st1, st2, hz⟩ := st
        have hix : i < xs.size := Nat.lt_of_lt_of_le hi (Nat.min_le_left ..)
        have hiy : i < ys.size := Nat.lt_of_lt_of_le hi (Nat.min_le_right ..)
        have lt : ∀ {c o}, s₁.heap.get? c = some o → s₁.heap.objs.size ≠ c := fun e => Nat.ne_of_gt (Heap.lt_size e)
        have m1 : s₁.heap.objs.size ≠ i1 := let ⟨_, e⟩ := st1.1.lt; lt e
        have m2 : s₁.heap.objs.size ≠ i2 := let ⟨_, e⟩ := st2.1.lt; lt e
        rcases hz with ⟨hz, a, b, hTO⟩ | ⟨T, f, oT, hz, hT, r1, r2, r3, r4⟩
        · refine wpAny_pyNext_zipD2_item D D1 D2 hz hTI hTO st1 st2 hix hiy fun x1 x2 h' tk y1 y2 b1 b2 d1 d2 b5 b6 hk => ?_
          exact hQ s₁.heap.objs.size _ _ h' tk ⟨y1, y2⟩ (.inl ⟨_, b5, rfl, _, rfl⟩)
            ⟨hk _ _ D.TIz D.TITO D.TIi1 D.TIi2 hTI, d1, d2, .inr ⟨s₁.heap.objs.size, false, _, b1, b5, lt hz, m1, m2, Nat.ne_of_gt hds⟩⟩
            fun c o hc e => hk c o (fun x => hc (by simp [x])) (fun x => hc (by simp [x])) (fun x => hc (by simp [x])) (fun x => hc (by simp [x])) e
        · refine zh_pyNext_item D D1 D2 hz hT hTI st1 st2 hix hiy fun x1 x2 h' tk y1 y2 b1 d1 d2 b5 b6 hk => ?_
          exact hQ s₁.heap.objs.size _ _ h' tk ⟨y1, y2⟩ (.inl ⟨_, b5, rfl, _, rfl⟩)
            ⟨hk _ _ D.TIz D.TIi1 D.TIi2 hTI, d1, d2, .inr ⟨T, true, oT, b1, hk _ _ r1 r2 r3 hT, r1, r2, r3, r4⟩⟩
            fun c o hc e => hk c o (fun x => hc (by simp [x])) (fun x => hc (by simp [x])) (fun x => hc (by simp [x])) e
      done := fun s₁ Q₁ E₁ st hQ => by
        obtain ⟨hTI, st1, st2, hz⟩ := st
        have X1 := stpB (prog := prog) (w := w) (A := A.in1) b hh i1 l1 xs (i := min xs.size ys.size)
        have X2 := stpB (prog := prog) (w := w) (A := A.in1) c hh i2 l2 ys (i := min xs.size ys.size)
        have hend : xs.size = min xs.size ys.size ∨ ys.size = min xs.size ys.size := by omega
        rcases hz with ⟨hz, a, b, hTO⟩ | ⟨T, f, oT, hz, hT, r1, r2, r3, r4⟩
        · exact wpAny_pyNext_zipD2_end D D1 D2 hz hTI hTO st1 st2 (by omega) (by omega) (by omega) fun h' tk hk => hQ h' tk fun c o hc e => hk c o (fun x => hc (by simp [x])) (fun x => hc (by simp [x])) (fun x => hc (by simp [x])) (fun x => hc (by simp [x])) e
        · exact zh_pyNext_end D D1 D2 hz hT hTI st1 st2 (by omega) (by omega) (by omega) fun h' tk hk => hQ h' tk fun c o hc e => hk c o (fun x => hc (by simp [x])) (fun x => hc (by simp [x])) (fun x => hc (by simp [x])) e }
theorem kv_zip {P : Program} {w : World} : ∀ {ks : List Key} {ys : List V} {us ws : List Value}, Vals (ks.map kV) us → Vals ys ws → ks.length = ys.length → ∃ prs : List (Key × Value), KV (ks.zip ys) prs ∧ prs.length = ks.length ∧
    ∀ (i : Nat) u v, us[i]? = some u → ws[i]? = some v → ∃ k, prs[i]? = some (k, v) ∧ (mixKind P w).is k u = true
  | [], [], us, ws, r1, _, _ => ⟨[], .nil, rfl, fun i u v h1 h2 => by
      have : us = [] := by cases r1; rfl
      subst this
      cases h1⟩
  | k :: ks, y :: ys, us, ws, r1, r2, hl => by
    cases r1 with
    | @cons _ u0 _ _ a1 t1 =>
      cases r2 with
      | @cons _ w0 _ _ a2 t2 =>
        obtain ⟨prs, h1, h2, h3⟩ := kv_zip (P := P) (w := w) t1 t2 (by simpa using hl)
        refine ⟨(k, w0) :: prs, .cons ⟨rfl, a2⟩ h1, by rw [List.length_cons, List.length_cons, h2], fun i u v e1 e2 => ?_⟩
        cases i with
        | zero =>
          have e1 := Option.some.inj e1
          have e2 := Option.some.inj e2
          subst e1 e2
          exact ⟨k, rfl, kV_is a1⟩
        | succ i => exact h3 i u v (by simpa using e1) (by simpa using e2)
  | [], _ :: _, _, _, _, _, hl => by simp at hl
  | _ :: _, [], _, _, _, _, hl => by simp at hl
def rDictZip (K : PySem.W.Frag) (vs : List V) (H : Hp) (Q : VK) : Prop := ∃ (p q : Addr) (ks : List Key) (ys : List V) (b c : Bool), vs = [.ref p, .ref q] ∧ SqB b K H p (ks.map kV) ∧ SqB c K H q ys ∧ ks.length = ys.length ∧ ks.length ≤ sizeLine ∧ ∀ l od, H l = none → Q (.ref l) (upd H l (.frz od (.dK (mergeK [] (ks.zip ys)))))
section
variable {X : Cx} {ω : Bx} {e e2 : Expr} {ta : TA} {p p2 q pos : Pos}
theorem pe_dictZip (hc : X.calm = true) (hg : Gl X "dict") (hm : X.mg "dict" = none) (hg2 : Gl X "zip") (hm2 : X.mg "zip" = none) (ha : PA X [e, e2] ta)
    (hs : starEach [e, e2] X.env = (false, eval e X.env) :: starEach [e2] X.env := by rfl) (hpl : (backTo q (starEach [e2] X.env)).any (·.1) = false := by rfl) :
    PE X (.Call (.Name "dict" p) [.Call (.Name "zip" p2) [e, e2] [] q] [] pos) (fun σ H Q => ta σ H fun vs H1 => rDictZip X.K vs H1 Q) := by
  refine ⟨fun pins s σ H Q I h => ?_⟩
  refine Call_ (ld_blt I hg hm bt_dict ?_)
  refine PyProof.Rows.callWith_type1 (PyProof.Rows.args_cons ?_ rfl) rfl rfl
  refine Call_ (ld_blt I hg2 hm2 PyProof.Rows.boot_zip (PyProof.Rows.callWith_type1 (thn (ha.run q pins s σ H _ I h) fun us s1 ⟨vs, H1, I1, r1, q1⟩ => ?_) hs hpl))
  obtain ⟨pa, qa, ks, ys, b, c, rfl, hqx, hqy, hkl, hkz, Q1⟩ := q1
  cases r1 with
  | cons r rr =>
    cases rr with
    | cons r' rr =>
      cases rr
      cases r
      cases r'
      obtain ⟨its, rv, k1⟩ := inv_sq I1 hqx
      obtain ⟨its2, rv2, k2⟩ := inv_sq I1 hqy
      have pl := k1.lt
      have ql := k2.lt
      refine zip_begins2 (begB b pa its.toArray) (begB c qa its2.toArray) k1 k2 fun h' hz hTI hTO g1 g2 hsz hk => ?_
      have I2 : Inv X pins σ H1 { s1 with heap := h' } := I1.kept (t' := s1.toks) hk
      have S := zip_sep2 (N := s1.heap.objs.size) (fp1 := [pa]) (fp2 := [qa]) (fun d hd => by rw [List.mem_singleton.mp hd]; exact pl) (fun d hd => by rw [List.mem_singleton.mp hd]; exact ql)
      have st1 : IsIt b h' s1.heap.objs.size pa 0 := by
        cases b
        · exact ⟨_, g1, rfl, rfl⟩
        · exact ⟨_, g1, rfl, rfl⟩
      have st2 : IsIt c h' (s1.heap.objs.size + 1) qa 0 := by
        cases c
        · exact ⟨_, g2, rfl, rfl⟩
        · exact ⟨_, g2, rfl, rfl⟩
      refine PyProof.Rows.args_nil ?_
      obtain ⟨prs, h1, h2, h3⟩ := kv_zip (P := X.prog) (w := X.w) rv rv2 hkl
      have e1 : its.toArray.size = ks.length := by have := rv.length; rw [List.length_map] at this; rw [List.size_toArray]; omega
      have e2' : its2.toArray.size = ks.length := by have := rv2.length; rw [List.size_toArray]; omega
      have emin : min its.toArray.size its2.toArray.size = ks.length := by rw [e1, e2', Nat.min_self]
      have P := PairArg.zipM (prog := X.prog) (w := X.w) b c (s1.heap.objs.size + 4) (s1.heap.objs.size + 2) (s1.heap.objs.size + 3) s1.heap.objs.size (s1.heap.objs.size + 1) pa qa S (Nat.ne_of_lt pl) (Nat.ne_of_lt (Nat.lt_succ_of_lt ql)) its.toArray its2.toArray
      refine PySem.call_dict_pairs (knd := mixKind X.prog X.w) (kvs := prs) P (I2.ok.hd hc) ⟨hz, hTI, ⟨_, _, hTO⟩, st1, st2, k1.at fun o e => hk _ o e, k2.at fun o e => hk _ o e⟩ ⟨by rw [h2, emin], fun i key v er => ?_⟩ (by rw [emin]; exact hkz) fun h2' tk hd' k => ?_
      · exact h3 i key v (by simpa using er.1) (by simpa using er.2)
      · have hm : (h'.objs.size == sysModules) = false := beq_eq_false_iff_ne.mpr (Nat.ne_of_gt I2.big)
        have hlen : (mergeK [] (ks.zip ys)).length ≤ sizeLine := by
          refine Nat.le_trans (length_mergeK (ks.zip ys) []) ?_
          rw [List.length_nil, Nat.zero_add, List.length_zip]
          exact Nat.le_trans (Nat.min_le_left _ _) hkz
        have I3 : Inv X pins σ (upd H1 h'.objs.size (.dK (mergeK [] (ks.zip ys)))) { s1 with heap := h2', toks := tk } :=
          I1.laid (t' := tk) (fun bb o e => k bb o (fun hb => by
            have : bb < s1.heap.objs.size := Heap.lt_size e
            simp only [List.mem_cons, List.not_mem_nil, or_false] at hb
            rcases hb with h9 | h9 | h9 | h9 <;> (rw [h9] at this; exact absurd this (Nat.not_lt.mpr (by first | exact Nat.le_add_right _ _ | exact Nat.le_refl _)))) (hk bb o e)) (by omega) (show ObjOk X.prog X.w _ _ _ (.dK (mergeK [] (ks.zip ys))) from ⟨hlen, hm, merged [] prs, KV.merge h1 .nil, hd'⟩)
        obtain ⟨od, I4⟩ := I3.lock upd_same (show Mut (some (.dK (mergeK [] (ks.zip ys)))) from trivial)
        rw [upd_upd'] at I4
        exact ⟨.ref h'.objs.size, _, I4, rfl, Q1 _ od (I1.hok.fresh (by omega))⟩
end
/-- dict(zip(a, b)) of keys and as many things: a dict that is never changed -/
@[irreducible] def dzipK (a b : D) (m : M) (Q : Kd) : Prop := Box <| ∃ (ks : List Key) (ds : List D), itsD (res m a) = some (ks.map keyV) ∧ itsD (res m b) = some ds ∧ ks.length = ds.length ∧ ks.length ≤ sizeLine ∧ Q (fdD (mgK [] (ks.zip ds))) m
theorem dzip_of {a b : D} {m : M} {Q : Kd} {ks : List Key} {ds : List D} (e1 : itsD (res m a) = some (ks.map keyV)) (e2 : itsD (res m b) = some ds) (hl : ks.length = ds.length) (hz : ks.length ≤ sizeLine) (q : Q (fdD (mgK [] (ks.zip ds))) m) : dzipK a b m Q := by unfold dzipK; exact ⟨⟨ks, ds, e1, e2, hl, hz, q⟩⟩
def tDictZip (t : TA2) : TE2 := fun g m Q => t g m fun ds m1 => match ds with | [a, b] => dzipK a b m1 Q | _ => False
theorem reps_keys {K : PySem.W.Frag} {G : Hp} : ∀ {ks : List Key} {vs : List V}, Reps K G vs (ks.map keyV) → vs = ks.map kV
  | [], [], _ => rfl
  | k :: ks, v :: vs, .cons r t => by
    rw [List.map_cons, reps_keys t]
    congr 1
    cases k <;> cases r <;> rfl
section
variable {X : Cx} {ω : Bx} {e e2 : Expr} {ta : TA2} {p p2 q pos : Pos}
theorem dictZipU (hc : X.calm = true) (hg : Gl X "dict") (hm : X.mg "dict" = none) (hg2 : Gl X "zip") (hm2 : X.mg "zip" = none) (ha : PA2 X ω [e, e2] ta)
    (hs : starEach [e, e2] X.env = (false, eval e X.env) :: starEach [e2] X.env := by rfl) (hpl : (backTo q (starEach [e2] X.env)).any (·.1) = false := by rfl) :
    PE2 X ω (.Call (.Name "dict" p) [.Call (.Name "zip" p2) [e, e2] [] q] [] pos) (tDictZip ta) :=
  (pe_dictZip hc hg hm hg2 hm2 pa_sem hs hpl).to2 fun σ H g m Q S hmm q => (ha.sem S hmm q).mono fun vs H1 ⟨ds, m1, s1, r1, q1⟩ => by
    dsimp only [tDictZip] at q1
    split at q1
    · rename_i a b
      obtain ⟨v1, v2, rfl, ra, rb⟩ := r1.two
      unfold dzipK at q1; replace q1 := q1.out
      obtain ⟨ks, ds, e1, e2, hl, hz, q1⟩ := q1
      obtain ⟨A, us, rfl, h1, h2⟩ := sqOf ra s1.mem e1
      obtain ⟨B, ws, rfl, h3, h4⟩ := sqOf rb s1.mem e2
      rw [reps_keys h2] at h1
      have hR : RP X.K (hid m1 H1) (ks.zip ws) (ks.zip ds) := by
        have e3 : (ks.zip ds).map (·.2) = ds := List.map_snd_zip (by omega)
        have e4 : (ks.zip ds).map (·.1) = ks := List.map_fst_zip (by omega)
        have := RP.of (K := X.K) (G := hid m1 H1) (l' := ks.zip ds) (vs := ws) (by rw [e3]; exact h4)
        rwa [e4] at this
      refine ⟨A, B, ks, ws, tbD2 a, tbD2 b, rfl, h1, h3, by rw [hl, h4.length], hz, fun l od hl0 => ?_⟩
      exact P2.go s1 (.new s1.mem hl0 (((hR.merge .nil).mono (Step.new s1.mem hl0).ex).repF (Step.new_at s1.mem hl0)) q1)
    · exact q1.elim
end
/-! ### an owned dict's display with pairs -/
def tDispM (trs : List (TE2 × TE2)) : TE2 := fun g m Q => ∀ p, m p = none → tPairs2 trs g (upM m p (.dic [] [])) fun ps m2 => ∃ m3 ks, m2 = upM m3 p (.dic [] []) ∧ m3 p = none ∧ keysD (ps.map (·.1)) = some ks ∧ ks.Nodup ∧ ks.length ≤ 15 ∧ Q (.ref p) (upM m3 p (.dic ks (ps.map (·.2))))
section
variable {X : Cx} {ω : Bx} {pos : Pos}
theorem q_dispM {keys : List (Option Expr)} {values : List Expr} {trs : List (TE2 × TE2)} (h : PPs2 X ω pos keys values trs) (hall : keys.all (·.isSome) = true := by rfl) (hl : keys.length = values.length := by rfl) (h0 : keys ≠ [] := by (intro z; cases z))
    (h15 : keys.length ≤ 15 := by decide) : PE2 X ω (.Dict keys values pos) (tDispM trs) := by
  obtain ⟨us, h1, h2⟩ := h.ex
  refine (pe_disp h1 hall hl h0 h15).to2 fun σ H g m Q S hm q => fun p hp => ?_
  have st0 : Step X.K m H (upM m p (.dic [] [])) (upd H p (.dK [])) := Step.newM (c := .dic [] []) hm hp ⟨[], upd_same, rfl, .nil⟩
  refine h2 (S.mono st0.ex) st0.mem (q p (hm.fresh hp)) fun ps m2 H2 ps' st ra rb ⟨m3, ks, e, hm3, hk, hnd, hle, q3⟩ => ?_
  subst e
  obtain ⟨vs0, hh, hl0, r0⟩ := st.mem p _ upM_same
  cases r0
  have e1 := keysD_rep ra hk
  have hlen : (ps'.map (·.2)).length = ks.length := by
    have := congrArg List.length e1
    simpa using this
  refine ⟨hh, ks.zip (ps'.map (·.2)), zip_of _ _ e1, by rw [List.length_zip, hlen]; omega, ?_⟩
  have em : mergeK [] (ks.zip (ps'.map (·.2))) = ks.zip (ps'.map (·.2)) := merge_nodup _ _ (by
    rw [List.nil_append, List.map_fst_zip (by omega)]
    exact hnd)
  rw [em]
  have st2 := Step.upM (c := .dic ks (ps.map (·.2))) (o := .dK (ks.zip (ps'.map (·.2)))) st.mem upM_same ⟨_, upd_same, by omega, rb⟩
  rw [upM_upM] at st2
  exact ⟨_, _, (st0.trans st).trans st2, .ref p, q3⟩
end
end Z



namespace W
open PySem PySem.Spec PyProof.Rows L2 Z

def topS (i : Nat) : Stmt := PySem.Challenge.pw_wishboard_k22_turned_once.main.body.getD i (.Pass ⟨0, 0, 0, 0⟩)

abbrev iWishError : Nat := 0
abbrev iNoNumber : Nat := 1
abbrev iNoTurn : Nat := 2
abbrev iNoTable : Nat := 3
/-! ### the mathematics -/
/-- a number, as data: a pair in lowest terms, under above 0 -/
def isNumD : D → Bool
  | .tup [.int a, .int b] => decide (0 < b) && decide (Int.gcd a b = 1)
  | _ => false
theorem isNumD_two {ds : List D} (h : isNumD (.tup ds) = true) : ∃ a b : Int, ds = [.int a, .int b] ∧ 0 < b ∧ Int.gcd a b = 1 := by
  unfold isNumD at h
  split at h
  · rename_i a b e
    rw [Bool.and_eq_true] at h
    cases e
    exact ⟨a, b, rfl, of_decide_eq_true h.1, of_decide_eq_true h.2⟩
  · cases h
theorem isNumD_len {ds : List D} (h : ds.length ≠ 2) : isNumD (.tup ds) = false := by
  cases e : isNumD (.tup ds) with
  | false => rfl
  | true =>
    obtain ⟨a, b, rfl, _⟩ := isNumD_two e
    exact absurd rfl h
theorem tyD_tup {m : M} {d : D} (h : tyD m d = some .tup) : ∃ ds, res m d = .tup ds := by
  unfold tyD at h
  split at h <;> first | exact ⟨_, by assumption⟩ | cases h
theorem tyD_int {m : M} {d : D} (h : tyD m d = some .int) : ∃ i, res m d = .int i := by
  unfold tyD at h
  split at h <;> first | exact ⟨_, by assumption⟩ | cases h
theorem res_int {m : M} {d : D} {i : Int} (h : res m d = .int i) : d = .int i := by
  cases d with
  | ref a =>
    unfold res at h
    cases q : m a with
    | none => simp only [q] at h; cases h
    | some c => cases c <;> (simp only [q] at h; cases h)
  | ptu _ => cases h
  | fdi _ _ => cases h
  | _ => exact h
theorem isNumD_not_tup {m : M} {d : D} {t : Ty} (e : tyD m d = some t) (h : t ≠ .tup) : isNumD (res m d) = false := by
  cases q : isNumD (res m d) with
  | false => rfl
  | true =>
    exfalso
    apply h
    unfold isNumD at q
    split at q
    · rename_i a b e'
      unfold tyD at e
      rw [e'] at e
      cases e
      rfl
    · cases q
theorem isNumD_ty {m : M} {d : D} (h : isNumD d = true) : tyD m d = some .tup := by
  unfold isNumD at h
  split at h
  · rfl
  · cases h

abbrev s_common : Stmt := topS 6

theorem sc_common : FnScope ["one", "other"] ["one", "other"] (defScope s_common) := ⟨rfl, rfl, rfl, by decide +kernel, rfl, by decide +kernel, by decide +kernel⟩

def sp_common : Sp2 := sp2 fun x y m Q => ∃ i j : Int, x = .int i ∧ y = .int j ∧ 0 ≤ i ∧ 0 ≤ j ∧ Q (.int (Int.gcd i j)) m

theorem fn_common {P : Program} {w : World} {K : PySem.W.Frag} {mg : Str → Option Value} {base : Heap} {f : Addr} {fd : FuncData} (F : FunZ K "common" "common" s_common f fd) : FnOk P w K mg base CX0 1 f fd ["one", "other"] (lift K sp_common) := by
  refine fn2 (N := ["one", "other"]) F sc_common rfl fun cdv A outer s H E hr => ⟨_, (qs_cons (whileS PassesOwn.never (tgtU (vU 1) q_int) (qs_one (qs_par (i := 0) (j := 1) rfl sc_common.nd rfl rfl (by decide) rfl rfl (qa_cons (vU 1) (qa_cons (modU (vU 0) (vU 1)) qa_nil)) (by rfl))))
    (qs_one (qs_ret (vU 0)))), ?_⟩
  rintro a b m Q ⟨i, j, rfl, rfl, hi, hj, q⟩
  refine ⟨fun n g m' => ∃ i' j' : Int, n = j'.toNat ∧ g = [some (.int i'), some (.int j')] ∧ m' = m ∧ 0 ≤ i' ∧ 0 ≤ j' ∧ Int.gcd i' j' = Int.gcd i j, ⟨_, i, j, rfl, rfl, rfl, hi, hj, rfl⟩, ?_⟩
  rintro n g m' ⟨i', j', rfl, rfl, rfl, hi', hj', e⟩
  refine br2 (fun hc => ?_) (fun hc => ?_)
  · have hc := of_decide_eq_true hc
    have h1 := Int.emod_lt_of_pos i' hc
    have h2 := Int.emod_nonneg i' (by omega : j' ≠ 0)
    refine modI hc ?_
    exact ⟨_, _, rfl, _, by omega, j', i' % j', rfl, rfl, rfl, by omega, h2, (gcd_step hi' hc).trans e⟩
  · have hc := of_decide_eq_false hc
    have e0 : j' = 0 := by omega
    subst e0
    rw [Int.gcd_zero_right] at e
    have : ((Int.gcd i j : Nat) : Int) = i' := by omega
    rw [this] at q
    exact q

abbrev s_number : Stmt := topS 7

theorem sc_number : FnScope ["over", "under", "part"] ["over", "under"] (defScope s_number) := ⟨rfl, rfl, rfl, by decide +kernel, rfl, by decide +kernel, by decide +kernel⟩

def sp_number : Sp2 := sp2 fun x y m Q => ∃ a b : Int, x = .int a ∧ y = .int b ∧ b ≠ 0 ∧ b.natAbs.log2 < 9000 ∧ Q (nD (mkP a b)) m

theorem fn_number {P : Program} {w : World} {K : PySem.W.Frag} {mg : Str → Option Value} {base : Heap} {f : Addr} {fd : FuncData} (F : FunZ K "number" "number" s_number f fd) (D_common : DefOk P w K mg base 1 "common" sp_common) (mg_abs : mg "abs" = none) : FnOk P w K mg base CX0 2 f fd ["over", "under"] (lift K sp_number) := by
  refine fn2 (N := ["over", "under", "part"]) F sc_number rfl fun cdv A outer s H E hr => ⟨_, (qs_cons (ifS (teqU hr (vU 1) q_int) (qs_one qs_never) qs_nil)
    (qs_cons (ifS (tltU (vU 1) q_int) (qs_one (qs_par (i := 0) (j := 1) rfl sc_number.nd rfl rfl (by decide) rfl rfl (qa_cons (negU (vU 0)) (qa_cons (negU (vU 1)) qa_nil)) (by rfl))) qs_nil)
    (qs_cons (qs_set (i := 2) sc_number.nd rfl (by first | exact Or.inl rfl | exact Or.inr rfl) (callU D_common hr (by rfl) (qa_cons (absU (by rfl) mg_abs (qa_cons (vU 0) qa_nil)) (qa_cons (vU 1) qa_nil))))
    (qs_one (qs_ret (q_tup (qa_cons (divU (vU 0) (vU 2)) (qa_cons (divU (vU 1) (vU 2)) qa_nil)))))))), ?_⟩
  rintro _ _ m Q ⟨a, b, rfl, rfl, hb, hl, q⟩
  refine eqI ?_
  refine brF (decide_eq_false hb) ?_
  refine br2 (fun h => ?_) (fun h => ?_)
  case' refine_1 =>
    have h := of_decide_eq_true h
    unfold mkP at q
    rw [if_pos h] at q
    obtain ⟨A, B, hA, hB⟩ : ∃ A B : Int, A = -a ∧ B = -b := ⟨_, _, rfl, rfl⟩
    refine ⟨.int A, .int B, by subst hA hB; rfl, ?_⟩
    rw [← hA, ← hB] at q
    have hb0 : 0 < B := by omega
    have hl : B.natAbs.log2 < 9000 := by rw [hB, Int.natAbs_neg]; exact hl
    refine ⟨if A < 0 then -A else A, B, by subst hA hB; rfl, by subst hA hB; rfl, by split <;> omega, by omega, ?_⟩
  case' refine_2 =>
    have h := of_decide_eq_false h
    unfold mkP at q
    rw [if_neg h] at q
    obtain ⟨A, B, hA, hB⟩ : ∃ A B : Int, A = a ∧ B = b := ⟨_, _, rfl, rfl⟩
    subst hA hB
    have hb0 : 0 < B := by omega
    refine ⟨if A < 0 then -A else A, B, rfl, rfl, by split <;> omega, by omega, ?_⟩
  all_goals
    have h0 := gcd_pos_r (a := A) hb0
    have h1 := lg_mono (gcd_le_r (a := A) hb0) hl
    obtain ⟨G, hG, e⟩ : ∃ G : Int, G = Int.gcd (if A < 0 then -A else A) B ∧ G = Int.gcd A B := ⟨_, rfl, by rw [gcd_abs]⟩
    rw [← hG]
    have hg : G.natAbs.log2 < 9000 := by rw [e]; exact h1
    have hi0 : 0 < G := by omega
    try subst hA hB
    refine divI hi0 hg ?_
    refine divI hi0 hg ?_
    unfold lowP at q
    rw [← e] at q
    exact q

abbrev s_plus : Stmt := topS 8

theorem sc_plus : FnScope ["one", "other"] ["one", "other"] (defScope s_plus) := ⟨rfl, rfl, rfl, by decide +kernel, rfl, by decide +kernel, by decide +kernel⟩

def sp_plus : Sp2 := sp2 fun x y m Q => ∃ p q : Fr, x = nD p ∧ y = nD q ∧ Bd 4000 p ∧ Bd 4000 q ∧ 0 < p.2 ∧ 0 < q.2 ∧ Q (nD (plusP p q)) m

theorem fn_plus {P : Program} {w : World} {K : PySem.W.Frag} {mg : Str → Option Value} {base : Heap} {f : Addr} {fd : FuncData} (F : FunZ K "plus" "plus" s_plus f fd) (D_number : DefOk P w K mg base 2 "number" sp_number) : FnOk P w K mg base CX0 3 f fd ["one", "other"] (lift K sp_plus) := by
  refine fn2 (N := ["one", "other"]) F sc_plus rfl fun cdv A outer s H E hr => ⟨_, (qs_one (qs_ret (callU D_number hr (by rfl) (qa_cons (addU (mulU (ixU (vU 0) q_int (fun _ _ => rfl)) (ixU (vU 1) q_int (fun _ _ => rfl))) (mulU (ixU (vU 1) q_int (fun _ _ => rfl)) (ixU (vU 0) q_int (fun _ _ => rfl)))) (qa_cons (mulU (ixU (vU 0) q_int (fun _ _ => rfl)) (ixU (vU 1) q_int (fun _ _ => rfl))) qa_nil))))), ?_⟩
  rintro _ _ m Q ⟨⟨a, b⟩, ⟨c, d⟩, rfl, rfl, ⟨ha, hb⟩, ⟨hc, hd⟩, hb0, hd0, q⟩
  refine ix_t rfl rfl ?_
  refine ix_t rfl rfl ?_
  refine mulI (cokN ha hd) ?_
  refine ix_t rfl rfl ?_
  refine ix_t rfl rfl ?_
  refine mulI (cokN hc hb) ?_
  refine ix_t rfl rfl ?_
  refine ix_t rfl rfl ?_
  refine mulI (cokN hb hd) ?_
  have h0 := pos_mul hb0 hd0
  refine ⟨_, _, rfl, rfl, by omega, lg9 (bdMul hb hd), ?_⟩
  rw [mkP_pos h0]
  exact q

abbrev s_times : Stmt := topS 9

theorem sc_times : FnScope ["one", "other"] ["one", "other"] (defScope s_times) := ⟨rfl, rfl, rfl, by decide +kernel, rfl, by decide +kernel, by decide +kernel⟩

def sp_times : Sp2 := sp2 fun x y m Q => ∃ p q : Fr, x = nD p ∧ y = nD q ∧ Bd 4000 p ∧ Bd 4000 q ∧ 0 < p.2 ∧ 0 < q.2 ∧ Q (nD (timesP p q)) m

theorem fn_times {P : Program} {w : World} {K : PySem.W.Frag} {mg : Str → Option Value} {base : Heap} {f : Addr} {fd : FuncData} (F : FunZ K "times" "times" s_times f fd) (D_number : DefOk P w K mg base 2 "number" sp_number) : FnOk P w K mg base CX0 3 f fd ["one", "other"] (lift K sp_times) := by
  refine fn2 (N := ["one", "other"]) F sc_times rfl fun cdv A outer s H E hr => ⟨_, (qs_one (qs_ret (callU D_number hr (by rfl) (qa_cons (mulU (ixU (vU 0) q_int (fun _ _ => rfl)) (ixU (vU 1) q_int (fun _ _ => rfl))) (qa_cons (mulU (ixU (vU 0) q_int (fun _ _ => rfl)) (ixU (vU 1) q_int (fun _ _ => rfl))) qa_nil))))), ?_⟩
  rintro _ _ m Q ⟨⟨a, b⟩, ⟨c, d⟩, rfl, rfl, ⟨ha, hb⟩, ⟨hc, hd⟩, hb0, hd0, q⟩
  refine ix_t rfl rfl ?_
  refine ix_t rfl rfl ?_
  refine mulI (cokN ha hc) ?_
  refine ix_t rfl rfl ?_
  refine ix_t rfl rfl ?_
  refine mulI (cokN hb hd) ?_
  have h0 := pos_mul hb0 hd0
  refine ⟨_, _, rfl, rfl, by omega, lg9 (bdMul hb hd), ?_⟩
  rw [mkP_pos h0]
  exact q

abbrev s_share : Stmt := topS 10

theorem sc_share : FnScope ["one", "other"] ["one", "other"] (defScope s_share) := ⟨rfl, rfl, rfl, by decide +kernel, rfl, by decide +kernel, by decide +kernel⟩

def sp_share : Sp2 := sp2 fun x y m Q => ∃ p q : Fr, x = nD p ∧ y = nD q ∧ Bd 4000 p ∧ Bd 4000 q ∧ p.2 ≠ 0 ∧ q.1 ≠ 0 ∧ Q (nD (shareP p q)) m

theorem fn_share {P : Program} {w : World} {K : PySem.W.Frag} {mg : Str → Option Value} {base : Heap} {f : Addr} {fd : FuncData} (F : FunZ K "share" "share" s_share f fd) (D_number : DefOk P w K mg base 2 "number" sp_number) : FnOk P w K mg base CX0 3 f fd ["one", "other"] (lift K sp_share) := by
  refine fn2 (N := ["one", "other"]) F sc_share rfl fun cdv A outer s H E hr => ⟨_, (qs_one (qs_ret (callU D_number hr (by rfl) (qa_cons (mulU (ixU (vU 0) q_int (fun _ _ => rfl)) (ixU (vU 1) q_int (fun _ _ => rfl))) (qa_cons (mulU (ixU (vU 0) q_int (fun _ _ => rfl)) (ixU (vU 1) q_int (fun _ _ => rfl))) qa_nil))))), ?_⟩
  rintro _ _ m Q ⟨⟨a, b⟩, ⟨c, d⟩, rfl, rfl, ⟨ha, hb⟩, ⟨hc, hd⟩, hb0, hc0, q⟩
  refine ix_t rfl rfl ?_
  refine ix_t rfl rfl ?_
  refine mulI (cokN ha hd) ?_
  refine ix_t rfl rfl ?_
  refine ix_t rfl rfl ?_
  refine mulI (cokN hb hc) ?_
  exact ⟨_, _, rfl, rfl, Int.mul_ne_zero hb0 hc0, lg9 (bdMul hb hc), q⟩

abbrev s_rows_added : Stmt := topS 12

theorem sc_rows_added : FnScope ["one", "other", "here", "there"] ["one", "other"] (defScope s_rows_added) := ⟨rfl, rfl, rfl, by decide +kernel, rfl, by decide +kernel, by decide +kernel⟩

theorem zipD_mapF {α β : Type} {f : α → D} {g : β → D} : ∀ {as : List α} {bs : List β}, zipD (as.map f) (bs.map g) = (as.zip bs).map fun p => .tup [f p.1, g p.2]
  | [], [] => rfl
  | [], _ :: _ => rfl
  | _ :: _, [] => rfl
  | a :: as, b :: bs => by
    show D.tup [f a, g b] :: zipD (as.map f) (bs.map g) = _
    rw [zipD_mapF]
    rfl

def sp_rows_added : Sp2 := sp2 fun x y m Q => ∃ as bs : List Rat, x = .tup (as.map nQ) ∧ y = .tup (bs.map nQ) ∧ as.length ≤ 1000 ∧ (∀ a ∈ as, Sz 4000 a) ∧ (∀ b ∈ bs, Sz 4000 b) ∧ Q (.tup (((as.zip bs).map fun p => p.1 + p.2).map nQ)) m

theorem fn_rows_added {P : Program} {w : World} {K : PySem.W.Frag} {mg : Str → Option Value} {base : Heap} {f : Addr} {fd : FuncData} (F : FunZ K "rows_added" "rows_added" s_rows_added f fd) (D_plus : DefOk P w K mg base 3 "plus" sp_plus) (mg_tuple : mg "tuple" = none) (mg_zip : mg "zip" = none) : FnOk P w K mg base CX0 4 f fd ["one", "other"] (lift K sp_rows_added) := by
  refine fn2 (N := ["one", "other", "here", "there"]) F sc_rows_added rfl fun cdv A outer s H E hr => ⟨_, (qs_one (qs_ret (tupleU (by rfl) mg_tuple (qa_cons (q_lc (own := [("here", 2), ("there", 3)]) rfl sc_rows_added.nd (zipU (by rfl) mg_zip (qa_cons (vU 0) (qa_cons (vU 1) qa_nil))) (blkOk_by (N := ["one", "other", "here", "there"]) (sc := defScope s_rows_added) (by decide +kernel)) (fun _ _ _ _ _ => (qgc_tup (n := 2) rfl (qgcs_cons (qgc_name (i := 2) sc_rows_added.nd rfl (by first | exact Or.inl rfl | exact Or.inr rfl) (by decide)) (qgcs_cons (qgc_name (i := 3) sc_rows_added.nd rfl (by first | exact Or.inl rfl | exact Or.inr rfl) (by decide)) qgcs_nil)))) (fun _ _ _ _ _ => qts_nil) (fun _ _ _ _ _ => (callU D_plus hr (by rfl) (qa_cons (vU 2) (qa_cons (vU 3) qa_nil))))) qa_nil)))), ?_⟩
  rintro _ _ m Q ⟨as, bs, rfl, rfl, hl, ha, hb, q⟩
  refine zipK_tup rfl rfl ?_
  refine lc_mapA (as.zip bs) _ zipD_mapF (fun pq => [some (.tup (as.map nQ)), some (.tup (bs.map nQ)), some (nQ pq.1), some (nQ pq.2)]) (fun pq => nQ (pq.1 + pq.2)) (by rw [List.length_zip]; exact Nat.le_trans (Nat.min_le_left _ _) (Nat.le_trans hl (szN 1000))) (fun _ _ => trivial) (fun a ha mm hm k hk => ⟨_, rfl, rfl, hk⟩) (fun a h mm hm k hk => ?_) ?_
  · have h1 := ha a.1 (List.of_mem_zip h).1
    have h2 := hb a.2 (List.of_mem_zip h).2
    refine ⟨fr a.1, fr a.2, rfl, rfl, h1, h2, (fr_lo _).1, (fr_lo _).1, ?_⟩
    rw [fr_plus]
    exact hk
  · rw [List.map_map] at q
    exact kTup_of rfl q

abbrev s_row_scaled : Stmt := topS 13

theorem sc_row_scaled : FnScope ["some", "row", "here"] ["some", "row"] (defScope s_row_scaled) := ⟨rfl, rfl, rfl, by decide +kernel, rfl, by decide +kernel, by decide +kernel⟩

def sp_row_scaled : Sp2 := sp2 fun x y m Q => ∃ (s : Rat) (as : List Rat), x = nQ s ∧ y = .tup (as.map nQ) ∧ as.length ≤ 1000 ∧ Sz 4000 s ∧ (∀ a ∈ as, Sz 4000 a) ∧ Q (.tup ((as.map fun a => s * a).map nQ)) m

theorem fn_row_scaled {P : Program} {w : World} {K : PySem.W.Frag} {mg : Str → Option Value} {base : Heap} {f : Addr} {fd : FuncData} (F : FunZ K "row_scaled" "row_scaled" s_row_scaled f fd) (D_times : DefOk P w K mg base 3 "times" sp_times) (mg_tuple : mg "tuple" = none) : FnOk P w K mg base CX0 4 f fd ["some", "row"] (lift K sp_row_scaled) := by
  refine fn2 (N := ["some", "row", "here"]) F sc_row_scaled rfl fun cdv A outer s H E hr => ⟨_, (qs_one (qs_ret (tupleU (by rfl) mg_tuple (qa_cons (q_lc (own := [("here", 2)]) rfl sc_row_scaled.nd (seqU (vU 1)) (blkOk_by (N := ["some", "row", "here"]) (sc := defScope s_row_scaled) (by decide +kernel)) (fun _ _ _ _ _ => (qgc_name (i := 2) sc_row_scaled.nd rfl (by first | exact Or.inl rfl | exact Or.inr rfl) (by decide))) (fun _ _ _ _ _ => qts_nil) (fun _ _ _ _ _ => (callU D_times hr (by rfl) (qa_cons (vU 0) (qa_cons (vU 2) qa_nil))))) qa_nil)))), ?_⟩
  rintro _ _ m Q ⟨s, as, rfl, rfl, hl, hs, ha, q⟩
  refine seqK_tup rfl ?_
  refine lc_mapA as nQ rfl (fun p => [some (nQ s), some (.tup (as.map nQ)), some (nQ p)]) (fun p => nQ (s * p)) (Nat.le_trans hl (szN 1000)) (fun _ _ => trivial) (fun a ha mm hm k hk => hk) (fun a h mm hm k hk => ?_) ?_
  · refine ⟨fr s, fr a, rfl, rfl, hs, ha a h, (fr_lo _).1, (fr_lo _).1, ?_⟩
    rw [fr_times]
    exact hk
  · rw [List.map_map] at q
    exact kTup_of rfl q

abbrev s_is_variable : Stmt := topS 15

theorem sc_is_variable : FnScope ["thing"] ["thing"] (defScope s_is_variable) := ⟨rfl, rfl, rfl, by decide +kernel, rfl, by decide +kernel, by decide +kernel⟩

/-! ### plain things -/
/-- what holds no objects, numbers and texts not too long -/
inductive Pln : D → Prop
  | non : Pln .non
  | bl (b : Bool) : Pln (.bl b)
  | int {i : Int} (h : i.natAbs < 2 ^ 4000) : Pln (.int i)
  | str {z : Str} (h : okT z = true) (hl : z.length ≤ 1000000) : Pln (.str z)
  | tup {ds : List D} (hl : ds.length ≤ 100000) (h : ∀ d ∈ ds, Pln d) : Pln (.tup ds)
  | ptu {ds : List D} (hl : ds.length ≤ 100000) (h : ∀ d ∈ ds, Pln d) : Pln (.ptu ds)
  | lst {ds : List D} (hl : ds.length ≤ 100000) (h : ∀ d ∈ ds, Pln d) : Pln (.lst ds)
  | rol {ds : List D} (hl : ds.length ≤ 100000) (h : ∀ d ∈ ds, Pln d) : Pln (.rol ds)
  | dic (ks : List Key) (vs : List D) : Pln (.dic ks vs)
  | fdi (ks : List Key) (vs : List D) : Pln (.fdi ks vs)
theorem fa_nil {P : D → Prop} : ∀ d ∈ ([] : List D), P d := fun _ h => nomatch h
theorem fa_cons {P : D → Prop} {x : D} {r : List D} (h : P x) (t : ∀ d ∈ r, P d) : ∀ d ∈ x :: r, P d := fun d hd => (List.mem_cons.mp hd).elim (fun e => by rw [e]; exact h) (t d)
theorem fa_app {P : D → Prop} {xs ys : List D} (h : ∀ d ∈ xs, P d) (t : ∀ d ∈ ys, P d) : ∀ d ∈ xs ++ ys, P d := fun d hd => (List.mem_append.mp hd).elim (h d) (t d)
def resP : D → D | .ptu ds => .tup ds | .fdi ks vs => .dic ks vs | x => x
def tyP : D → Ty | .non => .non | .bl _ => .bl | .int _ => .int | .str _ => .str | .tup _ => .tup | .ptu _ => .tup | .lst _ => .lst | .rol _ => .lst | .dic _ _ => .dic | .fdi _ _ => .dic | _ => .non
theorem Pln.ty {m : M} {x : D} (h : Pln x) : tyD m x = some (tyP x) := by cases h <;> rfl
theorem Pln.res {m : M} {x : D} (h : Pln x) : Z.res m x = resP x := by cases h <;> rfl
theorem Pln.sub {x : D} {ds : List D} (h : Pln x) (e : resP x = .tup ds) : ds.length ≤ 100000 ∧ ∀ d ∈ ds, Pln d := by
  cases h with
  | tup hl h => cases e; exact ⟨hl, h⟩
  | ptu hl h => cases e; exact ⟨hl, h⟩
  | _ => cases e
theorem tyP_tup {x : D} (h : tyP x = .tup) : ∃ ds, resP x = .tup ds := by cases x <;> first | exact ⟨_, rfl⟩ | cases h
theorem tyP_no {x : D} (h : tyP x ≠ .tup) : ∀ ds, resP x ≠ .tup ds := fun ds e => h (by cases x <;> first | rfl | cases e)
theorem pln_parts {m : M} {x : D} (h : Pln x) : ∀ ds, res m x = .tup ds → ∀ y ∈ ds, ∃ t, tyD m y = some t := fun ds e y hy => ⟨_, ((h.sub (by rw [← h.res (m := m)]; exact e)).2 y hy).ty⟩
theorem pln_lg {m : M} {x : D} (h : Pln x) : ∀ a b : Int, res m x = .tup [.int a, .int b] → b.natAbs.log2 < 9000 := fun a b e => by
  have := (h.sub (by rw [← h.res (m := m)]; exact e)).2 (.int b) (by simp)
  cases this with | int h => exact lg9 (k := 4000) h
theorem pln_is {m : M} {x : D} (h : Pln x) : isNumD (res m x) = isNumD (resP x) := by rw [h.res]
theorem two_of {α : Type} {ds : List α} (h : ds.length = 2) : ∃ a b, ds = [a, b] := by
  match ds, h with
  | [a, b], _ => exact ⟨a, b, rfl⟩
theorem numD_of {d : D} (h : isNumD d = true) : ∃ p : Fr, d = nD p ∧ Lo p := by
  unfold isNumD at h
  split at h
  · rename_i a b
    rw [Bool.and_eq_true] at h
    exact ⟨(a, b), rfl, of_decide_eq_true h.1, of_decide_eq_true h.2⟩
  · cases h
def isVarP : D → Bool | .int i => decide (0 ≤ i) | _ => false
theorem var_not {x : D} (h : tyP x ≠ .int) : isVarP x = false := by cases x <;> first | rfl | exact absurd rfl h
theorem intP {x : D} (h : tyP x = .int) : ∃ i, x = .int i := by cases x <;> first | exact ⟨_, rfl⟩ | cases h

def sp_is_variable : Sp2 := sp1 fun x m Q => Pln x ∧ Q (.bl (isVarP x)) m

theorem fn_is_variable {P : Program} {w : World} {K : PySem.W.Frag} {mg : Str → Option Value} {base : Heap} {f : Addr} {fd : FuncData} (F : FunZ K "is_variable" "is_variable" s_is_variable f fd) (mg_isinstance : mg "isinstance" = none) (mg_int : mg "int" = none) (mg_bool : mg "bool" = none) : FnOk P w K mg base CX0 1 f fd ["thing"] (lift K sp_is_variable) := by
  refine fn1 (N := ["thing"]) F sc_is_variable rfl fun cdv A outer s H E hr => ⟨_, (qs_one (qs_ret (andV (isiB .int (by decide) (by rfl) mg_isinstance (vU 0) (tyU (by rfl) mg_int bt_int)) (andV (notV (isiB .bl (by decide) (by rfl) mg_isinstance (vU 0) (tyU (by rfl) mg_bool bt_bool))) (q_one (geU (vU 0) q_int)))))), ?_⟩
  rintro x m Q ⟨hx, q⟩
  refine isiK_of (t := tyP x) hx.ty ?_
  by_cases ht : tyP x = .int
  · obtain ⟨i, rfl⟩ := intP ht
    refine brT rfl ?_
    refine isiK_of (t := .int) rfl ?_
    refine brT rfl ?_
    exact q
  · rw [var_not ht] at q
    refine br2 (fun h => ?_) (fun h => q)
    refine isiK_of (t := tyP x) hx.ty ?_
    have hb : tyP x = .bl := by cases hy : tyP x <;> rw [hy] at h ht <;> first | rfl | exact absurd rfl ht | exact absurd h (by decide)
    rw [hb]
    refine brF rfl ?_
    exact q

abbrev s_row_of : Stmt := topS 16

theorem sc_row_of : FnScope ["table", "variable"] ["table", "variable"] (defScope s_row_of) := ⟨rfl, rfl, rfl, by decide +kernel, rfl, by decide +kernel, by decide +kernel⟩

/-- a reckoning: rests and shares -/
def rkD (rs ss : List Rat) : D := .tup [.tup (rs.map nQ), .tup (ss.map nQ)]
def rkP (x : List Rat × List Rat) : D := rkD x.1 x.2
/-- a table as it is drawn -/
def grD (own free : List Int) (rows goals : List (List Rat × List Rat)) : D := .tup [.ptu (own.map .int), .ptu (free.map .int), .ptu (rows.map rkP), .ptu (goals.map rkP)]
/-- as many rests, as many shares, of so many bits -/
def RkN (n r f : Nat) (x : List Rat × List Rat) : Prop := x.1.length = r ∧ x.2.length = f ∧ (∀ a ∈ x.1, Sz n a) ∧ ∀ a ∈ x.2, Sz n a
abbrev RkOk := RkN 64
theorem in_intsB (i : Int) : ∀ ns : List Int, inD (.int i) (ns.map D.int) = decide (i ∈ ns)
  | [] => rfl
  | n :: r => by
    have ih := in_intsB i r
    show ((n == i) || inD (.int i) (r.map D.int)) = decide (i ∈ n :: r)
    rw [ih]
    by_cases h : n = i
    · subst h; simp
    · have h2 : (n == i) = false := by simpa using h
      rw [h2, Bool.false_or]
      exact decide_eq_decide.mpr ⟨fun k => List.mem_cons_of_mem _ k, fun k => (List.mem_cons.mp k).elim (fun e => absurd e.symm h) id⟩
theorem map_atR {α : Type} {f : α → D} {xs : List α} {w : Nat} (h : w < xs.length) : atI (xs.map f) (w : Int) = some (f xs[w]) := atI_nat (by rw [List.getElem?_map, List.getElem?_eq_getElem h] <;> rfl)
theorem flat_ints (ns : List Int) : (ns.map D.int).all flatD = true := List.all_eq_true.mpr fun d hd => by
  obtain ⟨i, _, rfl⟩ := List.mem_map.mp hd
  rfl
theorem in_ints {neg : Bool} {m : M} {Q : Kd} {y : D} {i : Int} {ns : List Int} (e : res m y = .tup (ns.map D.int)) (q : Q (.bl (if neg then !decide (i ∈ ns) else decide (i ∈ ns))) m) : oInU neg (.int i) y m Q := by
  unfold oInU
  refine ⟨?_⟩
  simp only [e]
  exact ⟨⟨rfl, flat_ints ns⟩, by rw [in_intsB]; exact q⟩
theorem mem_at {ns : List Int} {i : Int} (h : i ∈ ns) : ∃ j : Nat, ns[j]? = some i := List.getElem?_of_mem h
theorem nd_first {ns : List Int} {i : Int} {j : Nat} (hn : ns.Nodup) (h : ns[j]? = some i) : ∀ k, k < j → ns[k]? ≠ some i := fun k hk h2 => by
  obtain ⟨h3, e3⟩ := List.getElem?_eq_some_iff.mp h
  obtain ⟨h4, e4⟩ := List.getElem?_eq_some_iff.mp h2
  have := (List.getElem_inj hn).mp (e4.trans e3.symm)
  omega

def sp_row_of (Ce : Nat → Addr) : Sp2 := spX2 fun x y m Q E => ∃ (own : List Int) (F R G : D) (rows : List (List Rat × List Rat)), x = .tup [.ptu (own.map .int), F, R, G] ∧ res m R = .tup (rows.map rkP) ∧ Pln y ∧ own.Nodup ∧ (∀ i ∈ own, 0 ≤ i) ∧ rows.length = own.length ∧ (∀ (i : Int) (j : Nat) (p : List Rat × List Rat), y = .int i → own[j]? = some i → rows[j]? = some p → Q (rkP p) m) ∧ ((∀ i, y = .int i → i ∉ own) → E (.ref (Ce iNoTurn)) m)

theorem fn_row_of {P : Program} {w : World} {K : PySem.W.Frag} {mg : Str → Option Value} {base : Heap} {f : Addr} {fd : FuncData} (F : FunZ K "row_of" "row_of" s_row_of f fd){Ce : Nat → Addr} (D_is_variable : DefOk P w K mg base 1 "is_variable" sp_is_variable) (e_NoTurn : ErrAt K mg Ce 4 2 "NoTurn") : FnOk P w K mg base (L2.CX P w) 2 f fd ["table", "variable"] (lift K (sp_row_of Ce)) := by
  refine fnX2 (N := ["table", "variable"]) F sc_row_of rfl fun cdv A outer s H E kp E2 hr tk hp => ⟨_, (qs_cons (ifS (PW2.pt (orW (qt_not (testV (callU D_is_variable hr (by rfl) (qa_cons (vU 1) qa_nil)))) (qw_or1 (tnotInU (vU 1) (ixU (vU 0) q_int (fun _ _ => rfl)) (by with_unfolding_all rfl))))) (qs_one (raiseU rfl tk e_NoTurn.exc (by rfl))) qs_nil)
    (qs_one (qs_ret (ixU (ixU (vU 0) q_int (fun _ _ => rfl)) (m_indexP (ixU (vU 0) q_int (fun _ _ => rfl)) (vU 1)) (fun _ _ => rfl))))), ?_⟩
  rintro _ v m Q ⟨own, F, R, G, rows, rfl, eR, hv, hnd, hpos, hl, q, e⟩
  refine ⟨hv, ?_⟩
  by_cases hv1 : isVarP v = true
  rotate_left
  · rw [show isVarP v = false by simpa using hv1]
    refine brT rfl ?_
    refine brT rfl ?_
    refine e fun i hi h => hv1 ?_
    subst hi
    exact decide_eq_true (hpos i h)
  obtain ⟨i, rfl⟩ : ∃ i, v = .int i := by
    cases v with
    | int i => exact ⟨i, rfl⟩
    | _ => cases hv1
  rw [hv1]
  refine brF rfl ?_
  refine ix_t rfl (d := .ptu (own.map .int)) rfl ?_
  refine in_ints rfl ?_
  by_cases hi : i ∈ own
  rotate_left
  · rw [decide_eq_false hi]
    refine brT rfl ?_
    exact e fun k hk => by cases hk; exact hi
  rw [decide_eq_true hi]
  refine brF rfl ?_
  obtain ⟨j, hj⟩ := mem_at hi
  have hjl : j < rows.length := by rw [hl]; exact (List.getElem?_eq_some_iff.mp hj).1
  refine ix_t rfl (d := R) rfl ?_
  refine ix_t rfl (d := .ptu (own.map .int)) rfl ?_
  refine ⟨⟨_, rfl⟩, ?_⟩
  refine idxT_of rfl hj (nd_first hnd hj) ?_
  refine ix_t eR (map_atR hjl) ?_
  exact q i j _ rfl hj (List.getElem?_eq_getElem hjl)

abbrev s_solved_for : Stmt := topS 18

theorem sc_solved_for : FnScope ["reckoning", "place", "by", "others", "rest", "shares"] ["reckoning", "place"] (defScope s_solved_for) := ⟨rfl, rfl, rfl, by decide +kernel, rfl, by decide +kernel, by decide +kernel⟩

theorem cut_nat {α : Type} (xs : List α) (k : Nat) : Z.cutD xs none (some (k : Int)) = xs.take k := cut_hi xs k
theorem set_cut {α : Type} {xs : List α} {j : Nat} {y : α} (h : j < xs.length) : xs.take j ++ [y] ++ xs.drop (j + 1) = xs.set j y := by
  rw [List.set_eq_take_append_cons_drop, if_pos h, List.append_assoc]
  rfl
theorem mk_one (i : Int) (a : Rat) (h : (i : Rat) = a) : mkP i 1 = fr a := by
  rw [fr_mk (by decide), ← h]
  congr 1
  grind
theorem mk_n1 : mkP (-1) 1 = fr (-1) := mk_one _ _ (by decide +kernel)
theorem mk_1 : mkP 1 1 = fr 1 := mk_one _ _ (by decide +kernel)
theorem mk_0 : mkP 0 1 = fr 0 := mk_one _ _ (by decide +kernel)
theorem fr_ne {a : Rat} (h : a ≠ 0) : (fr a).1 ≠ 0 := fun e => h (Rat.num_eq_zero.mp e)
theorem q_at {as : List Rat} {j : Nat} {a : Rat} (h : as[j]? = some a) : atI (as.map nQ) (j : Int) = some (nQ a) := atI_nat (by rw [List.getElem?_map, h] <;> rfl)
/-- an own variable solved for the free one at a place -/
def solP (j : Nat) (a : Rat) (y : List Rat × List Rat) : List Rat × List Rat := (y.1.map fun x => -1 / a * x, (y.2.map fun x => -1 / a * x).set j (1 / a))
theorem RkN.sol {n r f j : Nat} {a : Rat} {y : List Rat × List Rat} (h : RkN n r f y) (ha : Sz n a) (h0 : a ≠ 0) : RkN (2 * n + 1) r f (solP j a y) := by
  have hb : Sz (n + 1) (-1 / a) := (Sz.share (n := 1) (k := n) (Sz.neg1 (by decide)) ha h0).mono (by omega)
  have hm : ∀ xs : List Rat, (∀ x ∈ xs, Sz n x) → ∀ z ∈ xs.map fun x => -1 / a * x, Sz (2 * n + 1) z := fun xs hx z hz => by
    obtain ⟨x, h1, rfl⟩ := List.mem_map.mp hz
    exact (hb.times (hx x h1)).mono (by omega)
  refine ⟨by show (List.map _ _).length = _; rw [List.length_map]; exact h.1, by show (List.set _ _ _).length = _; rw [List.length_set, List.length_map]; exact h.2.1, hm _ h.2.2.1, fun z hz => ?_⟩
  rcases List.mem_or_eq_of_mem_set hz with h1 | rfl
  · exact hm _ h.2.2.2 z h1
  · exact (Sz.share (n := 1) (k := n) (Sz.one (by decide)) ha h0).mono (by omega)

def sp_solved_for : Sp2 := sp2 fun x y m Q => ∃ (p : List Rat × List Rat) (j n r f : Nat) (a : Rat), x = rkP p ∧ y = .int j ∧ p.2[j]? = some a ∧ a ≠ 0 ∧ RkN n r f p ∧ n ≤ 1000 ∧ r ≤ 900 ∧ f ≤ 900 ∧ Q (rkP (solP j a p)) m

theorem fn_solved_for {P : Program} {w : World} {K : PySem.W.Frag} {mg : Str → Option Value} {base : Heap} {f : Addr} {fd : FuncData} (F : FunZ K "solved_for" "solved_for" s_solved_for f fd) (D_share : DefOk P w K mg base 3 "share" sp_share) (D_row_scaled : DefOk P w K mg base 4 "row_scaled" sp_row_scaled) (D_number : DefOk P w K mg base 2 "number" sp_number) (E_number1 : DefDf P w K mg base 2 "number" sp_number [.int 1]) : FnOk P w K mg base CX0 5 f fd ["reckoning", "place"] (lift K sp_solved_for) := by
  refine fn2 (N := ["reckoning", "place", "by", "others", "rest", "shares"]) F sc_solved_for rfl fun cdv A outer s H E hr => ⟨_, (qs_cons (qs_asg (vU 0) (qg_tup (n := 2) rfl (qgs_cons (qg_name (i := 4) sc_solved_for.nd rfl (by first | exact Or.inl rfl | exact Or.inr rfl)) (qgs_cons (qg_name (i := 5) sc_solved_for.nd rfl (by first | exact Or.inl rfl | exact Or.inr rfl)) qgs_nil))))
    (qs_cons (qs_set (i := 2) sc_solved_for.nd rfl (by first | exact Or.inl rfl | exact Or.inr rfl) (callU D_share hr (by rfl) (qa_cons (callDU E_number1 hr (by rfl) (qa_cons (negU q_int) qa_nil)) (qa_cons (ixU (vU 5) (vU 1) (fun _ _ => rfl)) qa_nil))))
    (qs_cons (qs_set (i := 3) sc_solved_for.nd rfl (by first | exact Or.inl rfl | exact Or.inr rfl) (callU D_row_scaled hr (by rfl) (qa_cons (vU 2) (qa_cons (vU 5) qa_nil))))
    (qs_one (qs_ret (q_tup (qa_cons (callU D_row_scaled hr (by rfl) (qa_cons (vU 2) (qa_cons (vU 4) qa_nil))) (qa_cons (addTU (addTU (slU (vU 3) qo_none (poU (vU 1))) (q_tup (qa_cons (callU D_share hr (by rfl) (qa_cons (callDU E_number1 hr (by rfl) (qa_cons q_int qa_nil)) (qa_cons (ixU (vU 5) (vU 1) (fun _ _ => rfl)) qa_nil))) qa_nil))) (slU (vU 3) (poU (addU (vU 1) q_int)) qo_none)) qa_nil)))))))), ?_⟩
  rintro _ _ m Q ⟨p, j, n, r, f, a, rfl, rfl, hj, ha, hp, hn, hr, hf, q⟩
  refine ⟨_, rfl, rfl, ?_⟩
  have hjl : j < p.2.length := (List.getElem?_eq_some_iff.mp hj).1
  have hz : Sz n a := hp.2.2.2 a (List.mem_of_getElem? hj)
  have hb : Sz (n + 1) (-1 / a) := (Sz.share (n := 1) (k := n) (Sz.neg1 (by decide)) hz ha).mono (by omega)
  have hb4 : Sz 4000 (-1 / a) := hb.mono (by omega)
  refine ⟨-1, 1, rfl, rfl, by decide, by decide, ?_⟩
  rw [mk_n1]
  refine ix_t rfl (q_at hj) ?_
  refine ⟨fr (-1), fr a, rfl, rfl, Sz.neg1 (by decide), hz.mono (by omega), Int.ne_of_gt (fr_lo _).1, fr_ne ha, ?_⟩
  rw [fr_share ha]
  have hm : ∀ xs : List Rat, (∀ x ∈ xs, Sz n x) → ∀ x ∈ xs, Sz 4000 x := fun xs h x hx => (h x hx).mono (by omega)
  refine ⟨-1 / a, p.2, rfl, rfl, by have := hp.2.1; omega, hb4, hm _ hp.2.2.2, ?_⟩
  refine ⟨-1 / a, p.1, rfl, rfl, by have := hp.1; omega, hb4, hm _ hp.2.2.1, ?_⟩
  refine sl_t rfl ?_
  refine ⟨1, 1, rfl, rfl, by decide, by decide, ?_⟩
  rw [mk_1]
  refine ix_t rfl (q_at hj) ?_
  refine ⟨fr 1, fr a, rfl, rfl, Sz.one (by decide), hz.mono (by omega), Int.ne_of_gt (fr_lo _).1, fr_ne ha, ?_⟩
  rw [fr_share ha, cut_nat]
  have hfl := hp.2.1
  refine addT_of rfl rfl (by rw [List.length_take, List.length_map, List.length_map]; exact Nat.le_trans (by show _ + 1 ≤ 1000; omega) (szN 1000)) ?_
  refine sl_t rfl ?_
  rw [show (j : Int) + 1 = ((j + 1 : Nat) : Int) from rfl, cut_lo]
  refine addT_of rfl rfl (by rw [List.length_append, List.length_take, List.length_drop, List.length_map, List.length_map]; exact Nat.le_trans (by show _ + 1 + _ ≤ 2000; omega) (szN 2000)) ?_
  have e := set_cut (xs := (p.2.map fun x => -1 / a * x).map nQ) (j := j) (y := nQ (1 / a)) (by rw [List.length_map, List.length_map]; exact hjl)
  refine (fun {R : Kd} (h : R (rkP (solP j a p)) m) => (?_ : R (.tup [.tup ((p.1.map fun x => -1 / a * x).map nQ), .tup (((p.2.map fun x => -1 / a * x).map nQ).take j ++ [nQ (1 / a)] ++ ((p.2.map fun x => -1 / a * x).map nQ).drop (j + 1))]) m)) q
  rw [e, ← List.map_set]
  exact h

abbrev s_put_for : Stmt := topS 19

theorem sc_put_for : FnScope ["reckoning", "place", "other", "by", "others", "rest", "shares"] ["reckoning", "place", "other"] (defScope s_put_for) := ⟨rfl, rfl, rfl, by decide +kernel, rfl, by decide +kernel, by decide +kernel⟩

def addR (as bs : List Rat) : List Rat := (as.zip bs).map fun p => p.1 + p.2
def scR (a : Rat) (as : List Rat) : List Rat := as.map fun x => a * x
/-- a reckoning in which another one stands for the free variable at a place -/
def putP (j : Nat) (a : Rat) (o y : List Rat × List Rat) : List Rat × List Rat := (addR y.1 (scR a o.1), addR (y.2.set j 0) (scR a o.2))
theorem scR_sz {n k : Nat} {a : Rat} {as : List Rat} (ha : Sz n a) (h : ∀ x ∈ as, Sz k x) : ∀ z ∈ scR a as, Sz (n + k) z := fun z hz => by
  obtain ⟨x, h1, rfl⟩ := List.mem_map.mp hz
  exact ha.times (h x h1)
theorem addR_sz {n k : Nat} {as bs : List Rat} (ha : ∀ x ∈ as, Sz n x) (hb : ∀ x ∈ bs, Sz k x) : ∀ z ∈ addR as bs, Sz (n + k + 1) z := fun z hz => by
  obtain ⟨x, h1, rfl⟩ := List.mem_map.mp hz
  exact (ha _ (List.of_mem_zip h1).1).plus (hb _ (List.of_mem_zip h1).2)
theorem addR_len {as bs : List Rat} (h : as.length = bs.length) : (addR as bs).length = as.length := by
  unfold addR
  rw [List.length_map, List.length_zip]
  omega
theorem set_sz {n j : Nat} {as : List Rat} (hn : 0 < n) (h : ∀ x ∈ as, Sz n x) : ∀ x ∈ as.set j 0, Sz n x := fun x hx => by
  rcases List.mem_or_eq_of_mem_set hx with h1 | rfl
  · exact h x h1
  · exact Sz.zero hn
theorem RkN.put {n k r f j : Nat} {a : Rat} {o y : List Rat × List Rat} (hn : 0 < n) (h : RkN n r f y) (ho : RkN k r f o) (ha : Sz n a) : RkN (2 * n + k + 1) r f (putP j a o y) := by
  have e : ∀ N, N = n + (n + k) + 1 → N = 2 * n + k + 1 := fun N h => by omega
  have e := (e _ rfl).symm
  refine ⟨?_, ?_, ?_, ?_⟩
  · show (addR _ _).length = _
    rw [addR_len (by unfold scR; rw [List.length_map, h.1, ho.1])]
    exact h.1
  · show (addR _ _).length = _
    rw [addR_len (by unfold scR; rw [List.length_map, List.length_set, h.2.1, ho.2.1]), List.length_set]
    exact h.2.1
  · rw [e]
    exact addR_sz h.2.2.1 (scR_sz ha ho.2.2.1)
  · rw [e]
    exact addR_sz (set_sz hn h.2.2.2) (scR_sz ha ho.2.2.2)

def sp_put_for : Sp2 := sp3 fun x y z m Q => ∃ (p o : List Rat × List Rat) (j n k r f : Nat) (a : Rat), x = rkP p ∧ y = .int j ∧ z = rkP o ∧ p.2[j]? = some a ∧ RkN n r f p ∧ RkN k r f o ∧ 0 < n ∧ n + k ≤ 3900 ∧ r ≤ 900 ∧ f ≤ 900 ∧ Q (rkP (putP j a o p)) m

theorem fn_put_for {P : Program} {w : World} {K : PySem.W.Frag} {mg : Str → Option Value} {base : Heap} {f : Addr} {fd : FuncData} (F : FunZ K "put_for" "put_for" s_put_for f fd) (D_rows_added : DefOk P w K mg base 4 "rows_added" sp_rows_added) (D_row_scaled : DefOk P w K mg base 4 "row_scaled" sp_row_scaled) (D_number : DefOk P w K mg base 2 "number" sp_number) (E_number1 : DefDf P w K mg base 2 "number" sp_number [.int 1]) : FnOk P w K mg base CX0 5 f fd ["reckoning", "place", "other"] (lift K sp_put_for) := by
  refine fn3 (N := ["reckoning", "place", "other", "by", "others", "rest", "shares"]) F sc_put_for rfl fun cdv A outer s H E hr => ⟨_, (qs_cons (qs_asg (vU 0) (qg_tup (n := 2) rfl (qgs_cons (qg_name (i := 5) sc_put_for.nd rfl (by first | exact Or.inl rfl | exact Or.inr rfl)) (qgs_cons (qg_name (i := 6) sc_put_for.nd rfl (by first | exact Or.inl rfl | exact Or.inr rfl)) qgs_nil))))
    (qs_cons (qs_set (i := 3) sc_put_for.nd rfl (by first | exact Or.inl rfl | exact Or.inr rfl) (ixU (vU 6) (vU 1) (fun _ _ => rfl)))
    (qs_cons (qs_set (i := 4) sc_put_for.nd rfl (by first | exact Or.inl rfl | exact Or.inr rfl) (addTU (addTU (slU (vU 6) qo_none (poU (vU 1))) (q_tup (qa_cons (callDU E_number1 hr (by rfl) (qa_cons q_int qa_nil)) qa_nil))) (slU (vU 6) (poU (addU (vU 1) q_int)) qo_none)))
    (qs_one (qs_ret (q_tup (qa_cons (callU D_rows_added hr (by rfl) (qa_cons (vU 5) (qa_cons (callU D_row_scaled hr (by rfl) (qa_cons (vU 3) (qa_cons (ixU (vU 2) q_int (fun _ _ => rfl)) qa_nil))) qa_nil))) (qa_cons (callU D_rows_added hr (by rfl) (qa_cons (vU 4) (qa_cons (callU D_row_scaled hr (by rfl) (qa_cons (vU 3) (qa_cons (ixU (vU 2) q_int (fun _ _ => rfl)) qa_nil))) qa_nil))) qa_nil)))))))), ?_⟩
  rintro _ _ _ m Q ⟨p, o, j, n, k, r, f, a, rfl, rfl, rfl, hj, hp, ho, hn, hk, hr, hf, q⟩
  refine ⟨_, rfl, rfl, ?_⟩
  have hjl : j < p.2.length := (List.getElem?_eq_some_iff.mp hj).1
  have hz : Sz n a := hp.2.2.2 a (List.mem_of_getElem? hj)
  have hm : ∀ (i : Nat) (xs : List Rat), i ≤ 3900 → (∀ x ∈ xs, Sz i x) → ∀ x ∈ xs, Sz 4000 x := fun i xs hi h x hx => (h x hx).mono (by omega)
  have hp1 := hp.1
  have hp2 := hp.2.1
  have ho1 := ho.1
  have ho2 := ho.2.1
  refine ix_t rfl (q_at hj) ?_
  refine sl_t rfl ?_
  rw [cut_nat]
  refine ⟨0, 1, rfl, rfl, by decide, by decide, ?_⟩
  rw [mk_0]
  refine addT_of rfl rfl (by rw [List.length_take, List.length_map]; exact Nat.le_trans (by show _ + 1 ≤ 1000; omega) (szN 1000)) ?_
  refine sl_t rfl ?_
  rw [show (j : Int) + 1 = ((j + 1 : Nat) : Int) from rfl, cut_lo]
  refine addT_of rfl rfl (by rw [List.length_append, List.length_take, List.length_drop, List.length_map]; exact Nat.le_trans (by show _ + 1 + _ ≤ 2000; omega) (szN 2000)) ?_
  have e := set_cut (xs := p.2.map nQ) (j := j) (y := nD (fr 0)) (by rw [List.length_map]; exact hjl)
  have e2 : (p.2.map nQ).set j (nD (fr 0)) = (p.2.set j 0).map nQ := List.map_set.symm
  rw [e, e2]
  refine ix_t rfl (d := .tup (o.1.map nQ)) rfl ?_
  refine ⟨a, o.1, rfl, rfl, by omega, hz.mono (by omega), hm k _ (by omega) ho.2.2.1, ?_⟩
  refine ⟨p.1, scR a o.1, rfl, rfl, by omega, hm n _ (by omega) hp.2.2.1, hm (n + k) _ (by omega) (scR_sz hz ho.2.2.1), ?_⟩
  refine ix_t rfl (d := .tup (o.2.map nQ)) rfl ?_
  refine ⟨a, o.2, rfl, rfl, by omega, hz.mono (by omega), hm k _ (by omega) ho.2.2.2, ?_⟩
  refine ⟨p.2.set j 0, scR a o.2, rfl, rfl, by rw [List.length_set]; omega, hm n _ (by omega) (set_sz hn hp.2.2.2), hm (n + k) _ (by omega) (scR_sz hz ho.2.2.2), ?_⟩
  exact q

abbrev s_in_order : Stmt := topS 20

theorem sc_in_order : FnScope ["reckonings", "turn", "rest", "shares", "at"] ["reckonings", "turn"] (defScope s_in_order) := ⟨rfl, rfl, rfl, by decide +kernel, rfl, by decide +kernel, by decide +kernel⟩

def sp_in_order : Sp2 := sp2 fun x y m Q => ∃ (ys : List (List Rat × List Rat)) (ts : List Nat) (f : Nat), x = .lst (ys.map rkP) ∧ y = .lst (ts.map fun (t : Nat) => D.int t) ∧ ys.length ≤ 900 ∧ ts.length ≤ 900 ∧ (∀ y ∈ ys, y.2.length = f) ∧ (∀ t ∈ ts, t < f) ∧ Q (.tup ((ys.map fun y => (y.1, ts.map fun t => y.2.getD t 0)).map rkP)) m

theorem fn_in_order {P : Program} {w : World} {K : PySem.W.Frag} {mg : Str → Option Value} {base : Heap} {f : Addr} {fd : FuncData} (F : FunZ K "in_order" "in_order" s_in_order f fd) (mg_tuple : mg "tuple" = none) : FnOk P w K mg base CX0 1 f fd ["reckonings", "turn"] (lift K sp_in_order) := by
  refine fn2 (N := ["reckonings", "turn", "rest", "shares", "at"]) F sc_in_order rfl fun cdv A outer s H E hr => ⟨_, (qs_one (qs_ret (tupleU (by rfl) mg_tuple (qa_cons (q_lc (own := [("rest", 2), ("shares", 3)]) rfl sc_in_order.nd (seqU (vU 0)) (blkOk_by (N := ["reckonings", "turn", "rest", "shares", "at"]) (sc := defScope s_in_order) (by decide +kernel)) (fun _ _ _ _ _ => (qgc_tup (n := 2) rfl (qgcs_cons (qgc_name (i := 2) sc_in_order.nd rfl (by first | exact Or.inl rfl | exact Or.inr rfl) (by decide)) (qgcs_cons (qgc_name (i := 3) sc_in_order.nd rfl (by first | exact Or.inl rfl | exact Or.inr rfl) (by decide)) qgcs_nil)))) (fun _ _ _ _ _ => qts_nil) (fun _ _ _ _ _ => (q_tup (qa_cons (vU 2) (qa_cons (tupleU (by rfl) mg_tuple (qa_cons (q_lc (own := [("at", 4)]) rfl sc_in_order.nd (seqU (vU 1)) (blkOk_by (by rfl)) (fun _ _ _ _ _ => (qgc_name (i := 4) sc_in_order.nd rfl (by first | exact Or.inl rfl | exact Or.inr rfl) (by decide))) (fun _ _ _ _ _ => qts_nil) (fun _ _ _ _ _ => (ixU (vU 3) (vU 4) (fun _ _ => rfl)))) qa_nil)) qa_nil))))) qa_nil)))), ?_⟩
  rintro _ _ m Q ⟨ys, ts, f, rfl, rfl, hyl, htl, hy, ht, q⟩
  refine seqK_lst rfl ?_
  refine lc_mapA ys rkP rfl (fun y => [some (.lst (ys.map rkP)), some (.lst (ts.map fun (t : Nat) => D.int t)), some (.tup (y.1.map nQ)), some (.tup (y.2.map nQ)), none]) (fun y => rkP (y.1, ts.map fun t => y.2.getD t 0)) (Nat.le_trans hyl (szN 900)) (fun _ _ => rfl) (fun y _ mm _ k hk => ⟨_, rfl, rfl, hk⟩) (fun y hy' mm _ k hk => ?_) ?_
  · refine seqK_lst rfl ?_
    refine lc_mapA ts (fun (t : Nat) => D.int t) rfl (fun t => [some (.lst (ys.map rkP)), some (.lst (ts.map fun (t : Nat) => D.int t)), some (.tup (y.1.map nQ)), some (.tup (y.2.map nQ)), some (.int (t : Nat))]) (fun t => nQ (y.2.getD t 0)) (Nat.le_trans htl (szN 900)) (fun _ _ => rfl) (fun t _ mm _ k hk => hk) (fun t ht' mm _ k hk => ?_) ?_
    · have hl : t < y.2.length := by rw [hy y hy']; exact ht t ht'
      refine ix_t rfl (q_at (a := y.2.getD t 0) (by rw [List.getD_eq_getElem?_getD, List.getElem?_eq_getElem hl] <;> rfl)) ?_
      exact hk
    · refine kTup_of rfl ?_
      have e : ts.map (fun t => nQ (y.2.getD t 0)) = (ts.map fun t => y.2.getD t 0).map nQ := by rw [List.map_map]; rfl
      rw [e]
      exact hk
  · refine kTup_of rfl ?_
    rw [List.map_map] at q
    exact q

abbrev s_turned : Stmt := topS 21

theorem sc_turned : FnScope ["table", "own", "free", "reckoning", "place", "other", "rows", "goals", "owns", "later", "turn", "goal", "one", "row"] ["table", "own", "free"] (defScope s_turned) := ⟨rfl, rfl, rfl, by decide +kernel, rfl, by decide +kernel, by decide +kernel⟩

/-- a table -/
structure TbOk (N r : Nat) (own free : List Int) (rows goals : List (List Rat × List Rat)) : Prop where
  nd : (own ++ free).Nodup
  ps : ∀ i ∈ own ++ free, 0 ≤ i ∧ i < 10 ^ 14
  inc : free.Pairwise (· ≤ ·)
  lr : rows.length = own.length
  lo : own.length ≤ 64
  lf : free.length ≤ 64
  lg : goals.length ≤ 64
  hr : r ≤ 10
  rk : ∀ x ∈ rows ++ goals, RkN N r free.length x
/-- a table as it is told -/
def tabD (own free : List Int) (R G : D) : D := .tup [.ptu (own.map .int), .ptu (free.map .int), R, G]
def putQ (j : Nat) (o y : List Rat × List Rat) : List Rat × List Rat := putP j (y.2.getD j 0) o y
def swI (i z k : Int) : Int := if k = i then z else k
def reQ (ts : List Nat) (y : List Rat × List Rat) : List Rat × List Rat := (y.1, ts.map fun t => y.2.getD t 0)
def tsI (lt fs : List Int) : List Nat := fs.map fun z => lt.idxOf z
def rowsT (own : List Int) (rows : List (List Rat × List Rat)) (i : Int) (j : Nat) (o : List Rat × List Rat) : List (List Rat × List Rat) := (own.zip rows).map fun p => if p.1 = i then o else putQ j o p.2
/-- a table turned -/
def turD (own free : List Int) (rows goals : List (List Rat × List Rat)) (i z : Int) (j : Nat) (o : List Rat × List Rat) (fs : List Int) : D :=
  tabD (own.map (swI i z)) fs (.tup (((rowsT own rows i j o).map (reQ (tsI (free.set j i) fs))).map rkP)) (.tup (((goals.map (putQ j o)).map (reQ (tsI (free.set j i) fs))).map rkP))
theorem RkN.mono {N K r f : Nat} {y : List Rat × List Rat} (h : RkN N r f y) (hk : N ≤ K) : RkN K r f y := ⟨h.1, h.2.1, fun a ha => (h.2.2.1 a ha).mono hk, fun a ha => (h.2.2.2 a ha).mono hk⟩
theorem putQ_rk {N r f j : Nat} {o y : List Rat × List Rat} (hN : 0 < N) (hj : j < f) (ho : RkN (2 * N + 1) r f o) (hy : RkN N r f y) : RkN (4 * N + 2) r f (putQ j o y) := by
  have ha : Sz N (y.2.getD j 0) := by
    rw [List.getD_eq_getElem?_getD, List.getElem?_eq_getElem (by rw [hy.2.1]; exact hj)]
    exact hy.2.2.2 _ (List.getElem_mem _)
  exact (RkN.put hN hy ho ha).mono (by omega)
theorem rowsT_rk {N r f j : Nat} {o : List Rat × List Rat} {own : List Int} {rows : List (List Rat × List Rat)} {i : Int} (hN : 0 < N) (hj : j < f) (ho : RkN (2 * N + 1) r f o) (h : ∀ y ∈ rows, RkN N r f y) : ∀ y ∈ rowsT own rows i j o, RkN (4 * N + 2) r f y := fun y hy => by
  obtain ⟨p, hp, rfl⟩ := List.mem_map.mp hy
  show RkN _ r f (if p.1 = i then o else putQ j o p.2)
  split
  · exact ho.mono (by omega)
  · exact putQ_rk hN hj ho (h _ (List.of_mem_zip hp).2)
theorem goalsT_rk {N r f j : Nat} {o : List Rat × List Rat} {goals : List (List Rat × List Rat)} (hN : 0 < N) (hj : j < f) (ho : RkN (2 * N + 1) r f o) (h : ∀ y ∈ goals, RkN N r f y) : ∀ y ∈ goals.map (putQ j o), RkN (4 * N + 2) r f y := fun y hy => by
  obtain ⟨p, hp, rfl⟩ := List.mem_map.mp hy
  exact putQ_rk hN hj ho (h p hp)
theorem ts_lt {lt fs : List Int} (hp : fs.Perm lt) : ∀ t ∈ tsI lt fs, t < lt.length := fun t ht => by
  obtain ⟨z, hz, rfl⟩ := List.mem_map.mp ht
  exact List.idxOf_lt_length_of_mem (hp.mem_iff.mp hz)
theorem srt_one {ms fs lt : List Int} (h1 : ms.Perm lt) (h2 : fs.Perm lt) (s1 : ms.Pairwise (· ≤ ·)) (s2 : fs.Pairwise (· ≤ ·)) : ms = fs := List.Perm.eq_of_pairwise (fun a b _ _ => Int.le_antisymm) s1 s2 (h1.trans h2.symm)
theorem idx_at {ns : List Int} {i : Int} (h : i ∈ ns) : ns[ns.idxOf i]? = some i := by
  have := List.idxOf_lt_length_of_mem h
  rw [List.getElem?_eq_getElem this, List.getElem_idxOf]
theorem idx_first : ∀ {ns : List Int} {i : Int} (k : Nat), k < ns.idxOf i → ns[k]? ≠ some i
  | [], i, k, hk => by simp
  | n :: r, i, k, hk => by
    by_cases h : n = i
    · subst h; simp at hk
    · have hb : (n == i) = false := by simpa using h
      rw [List.idxOf_cons, hb] at hk
      have hk : k < r.idxOf i + 1 := hk
      cases k with
      | zero => intro e; exact h (Option.some.inj e)
      | succ k => exact idx_first k (by omega)

def sp_turned (Ce : Nat → Addr) : Sp2 := spX3 fun x u v m Q E => ∃ (own free : List Int) (R G : D) (rows goals : List (List Rat × List Rat)) (N r : Nat), x = tabD own free R G ∧ (∀ mm, res mm R = .tup (rows.map rkP)) ∧ (∀ mm, res mm G = .tup (goals.map rkP)) ∧ TbOk N r own free rows goals ∧ 0 < N ∧ N ≤ 900 ∧ Pln u ∧ Pln v ∧ (∀ (i z : Int) (w j : Nat) (y : List Rat × List Rat) (a : Rat), u = .int i → v = .int z → own[w]? = some i → free[j]? = some z → rows[w]? = some y → y.2[j]? = some a → a ≠ 0 → ∀ fs : List Int, fs.Perm (free.set j i) → fs.Pairwise (· ≤ ·) → Q (turD own free rows goals i z j (solP j a y) fs) m) ∧ ((∀ (i z : Int) (w j : Nat) (y : List Rat × List Rat) (a : Rat), u = .int i → v = .int z → own[w]? = some i → free[j]? = some z → rows[w]? = some y → y.2[j]? = some a → a = 0) → E (.ref (Ce iNoTurn)) m)

theorem fn_turned {P : Program} {w : World} {K : PySem.W.Frag} {mg : Str → Option Value} {base : Heap} {f : Addr} {fd : FuncData} (F : FunZ K "turned" "turned" s_turned f fd){Ce : Nat → Addr} (D_row_of : DefOkX P w K mg base 2 "row_of" (sp_row_of Ce)) (D_solved_for : DefOk P w K mg base 5 "solved_for" sp_solved_for) (D_number : DefOk P w K mg base 2 "number" sp_number) (D_put_for : DefOk P w K mg base 5 "put_for" sp_put_for) (D_in_order : DefOk P w K mg base 1 "in_order" sp_in_order) (D_is_variable : DefOk P w K mg base 1 "is_variable" sp_is_variable) (mg_tuple : mg "tuple" = none) (mg_zip : mg "zip" = none) (mg_sorted : mg "sorted" = none) (E_number1 : DefDf P w K mg base 2 "number" sp_number [.int 1]) (e_NoTurn : ErrAt K mg Ce 4 2 "NoTurn") : FnOk P w K mg base (L2.CX P w) 6 f fd ["table", "own", "free"] (lift K (sp_turned Ce)) := by
  refine fnX3 (N := ["table", "own", "free", "reckoning", "place", "other", "rows", "goals", "owns", "later", "turn", "goal", "one", "row"]) F sc_turned rfl fun cdv A outer s H E kp E2 hr tk hp => ⟨_, (qs_cons (qs_set (i := 3) sc_turned.nd rfl (by first | exact Or.inl rfl | exact Or.inr rfl) (callX tk D_row_of hr (by rfl) (qa_cons (vU 0) (qa_cons (vU 1) qa_nil))))
    (qs_cons (ifS (PW2.pt (orW (qt_not (testV (callU D_is_variable hr (by rfl) (qa_cons (vU 2) qa_nil)))) (qw_or1 (tnotInU (vU 2) (ixU (vU 0) q_int (fun _ _ => rfl)) (by with_unfolding_all rfl))))) (qs_one (raiseU rfl tk e_NoTurn.exc (by rfl))) qs_nil)
    (qs_cons (qs_set (i := 4) sc_turned.nd rfl (by first | exact Or.inl rfl | exact Or.inr rfl) (m_indexP (ixU (vU 0) q_int (fun _ _ => rfl)) (vU 2)))
    (qs_cons (ifS (teqU hr (ixU (ixU (vU 3) q_int (fun _ _ => rfl)) (vU 4) (fun _ _ => rfl)) (callDU E_number1 hr (by rfl) (qa_cons q_int qa_nil))) (qs_one (raiseU rfl tk e_NoTurn.exc (by rfl))) qs_nil)
    (qs_cons (qs_set (i := 5) sc_turned.nd rfl (by first | exact Or.inl rfl | exact Or.inr rfl) (callU D_solved_for hr (by rfl) (qa_cons (vU 3) (qa_cons (vU 4) qa_nil))))
    (qs_cons (setLc (i := 6) (own := [("one", 12), ("row", 13)]) rfl sc_turned.nd rfl rfl (sw_true rfl rfl rfl (by decide +kernel)) (zipU (by rfl) mg_zip (qa_cons (ixU (vU 0) q_int (fun _ _ => rfl)) (qa_cons (ixU (vU 0) q_int (fun _ _ => rfl)) qa_nil))) (blkOk_by (N := ["table", "own", "free", "reckoning", "place", "other", "rows", "goals", "owns", "later", "turn", "goal", "one", "row"]) (sc := defScope s_turned) (by decide +kernel)) (fun _ _ _ _ _ => (qgc_tup (n := 2) rfl (qgcs_cons (qgc_name (i := 12) sc_turned.nd rfl (by first | exact Or.inl rfl | exact Or.inr rfl) (by decide)) (qgcs_cons (qgc_name (i := 13) sc_turned.nd rfl (by first | exact Or.inl rfl | exact Or.inr rfl) (by decide)) qgcs_nil)))) (fun _ _ _ _ _ => qts_nil) (fun _ _ _ _ _ => (ifE (teqU hr (vU 12) (vU 1)) (vU 5) (callU D_put_for hr (by rfl) (qa_cons (vU 13) (qa_cons (vU 4) (qa_cons (vU 5) qa_nil)))))))
    (qs_cons (setLc (i := 7) (own := [("goal", 11)]) rfl sc_turned.nd rfl rfl (sw_true rfl rfl rfl (by decide +kernel)) (seqU (ixU (vU 0) q_int (fun _ _ => rfl))) (blkOk_by (N := ["table", "own", "free", "reckoning", "place", "other", "rows", "goals", "owns", "later", "turn", "goal", "one", "row"]) (sc := defScope s_turned) (by decide +kernel)) (fun _ _ _ _ _ => (qgc_name (i := 11) sc_turned.nd rfl (by first | exact Or.inl rfl | exact Or.inr rfl) (by decide))) (fun _ _ _ _ _ => qts_nil) (fun _ _ _ _ _ => (callU D_put_for hr (by rfl) (qa_cons (vU 11) (qa_cons (vU 4) (qa_cons (vU 5) qa_nil))))))
    (qs_cons (qs_set (i := 8) sc_turned.nd rfl (by first | exact Or.inl rfl | exact Or.inr rfl) (tuplePU (by rfl) mg_tuple (qa_cons (q_lc (own := [("one", 12)]) rfl sc_turned.nd (seqU (ixU (vU 0) q_int (fun _ _ => rfl))) (blkOk_by (N := ["table", "own", "free", "reckoning", "place", "other", "rows", "goals", "owns", "later", "turn", "goal", "one", "row"]) (sc := defScope s_turned) (by decide +kernel)) (fun _ _ _ _ _ => (qgc_name (i := 12) sc_turned.nd rfl (by first | exact Or.inl rfl | exact Or.inr rfl) (by decide))) (fun _ _ _ _ _ => qts_nil) (fun _ _ _ _ _ => (ifE (teqU hr (vU 12) (vU 1)) (vU 2) (vU 12)))) qa_nil)))
    (qs_cons (qs_set (i := 9) sc_turned.nd rfl (by first | exact Or.inl rfl | exact Or.inr rfl) (addPU (addPU (slPU (ixU (vU 0) q_int (fun _ _ => rfl)) qo_none (poU (vU 4))) (tupPU (qa_cons (vU 1) qa_nil))) (slPU (ixU (vU 0) q_int (fun _ _ => rfl)) (poU (addU (vU 4) q_int)) qo_none)))
    (qs_cons (setLc (i := 10) (own := [("one", 12)]) rfl sc_turned.nd rfl rfl (sw_true rfl rfl rfl (by decide +kernel)) (seqU (sortedIU (by rfl) mg_sorted (qa_cons (vU 9) qa_nil))) (blkOk_by (N := ["table", "own", "free", "reckoning", "place", "other", "rows", "goals", "owns", "later", "turn", "goal", "one", "row"]) (sc := defScope s_turned) (by decide +kernel)) (fun _ _ _ _ _ => (qgc_name (i := 12) sc_turned.nd rfl (by first | exact Or.inl rfl | exact Or.inr rfl) (by decide))) (fun _ _ _ _ _ => qts_nil) (fun _ _ _ _ _ => (m_indexP (vU 9) (vU 12))))
    (qs_one (qs_ret (q_tup (qa_cons (vU 8) (qa_cons (tuplePU (by rfl) mg_tuple (qa_cons (sortedIU (by rfl) mg_sorted (qa_cons (vU 9) qa_nil)) qa_nil)) (qa_cons (callU D_in_order hr (by rfl) (qa_cons (vU 6) (qa_cons (vU 10) qa_nil))) (qa_cons (callU D_in_order hr (by rfl) (qa_cons (vU 7) (qa_cons (vU 10) qa_nil))) qa_nil))))))))))))))))), ?_⟩
  rintro _ u v m Q ⟨own, free, R, G, rows, goals, N, r, rfl, eR, eG, T, hN, hN2, hu, hv, q, e⟩
  have hlo := T.lo
  have hlf := T.lf
  have hlg := T.lg
  have hlr := T.lr
  have hhr := T.hr
  have hndo := (List.nodup_append.mp T.nd).1
  have hndf := (List.nodup_append.mp T.nd).2.1
  have hpo : ∀ i ∈ own, 0 ≤ i := fun i hi => (T.ps i (List.mem_append_left _ hi)).1
  have hpf : ∀ i ∈ free, 0 ≤ i := fun i hi => (T.ps i (List.mem_append_right _ hi)).1
  refine ⟨own, _, R, G, rows, rfl, eR _, hu, hndo, hpo, hlr, fun i w y hi hw hy => ?_, fun h => ?_⟩
  rotate_left
  · refine e fun i z w j y a hi _ hw _ _ _ => ?_
    exact absurd (List.mem_of_getElem? hw) (h i hi)
  subst hi
  have hyk : RkN N r free.length y := T.rk y (List.mem_append_left _ (List.mem_of_getElem? hy))
  refine ⟨hv, ?_⟩
  by_cases hv1 : isVarP v = true
  rotate_left
  · rw [show isVarP v = false by simpa using hv1]
    refine brT rfl ?_
    refine brT rfl ?_
    refine e fun i z w j y a _ hz _ hj _ _ => absurd ?_ hv1
    subst hz
    exact decide_eq_true (hpf z (List.mem_of_getElem? hj))
  obtain ⟨z, rfl⟩ : ∃ i, v = .int i := by
    cases v with
    | int i => exact ⟨i, rfl⟩
    | _ => cases hv1
  rw [hv1]
  refine brF rfl ?_
  refine ix_t rfl (d := .ptu (free.map .int)) rfl ?_
  refine in_ints rfl ?_
  by_cases hz : z ∈ free
  rotate_left
  · rw [decide_eq_false hz]
    refine brT rfl ?_
    exact e fun i k w j y a _ hk _ hj _ _ => by cases hk; exact absurd (List.mem_of_getElem? hj) hz
  rw [decide_eq_true hz]
  refine brF rfl ?_
  obtain ⟨j, hj⟩ := mem_at hz
  have hjl : j < free.length := (List.getElem?_eq_some_iff.mp hj).1
  refine ix_t rfl (d := .ptu (free.map .int)) rfl ?_
  refine ⟨⟨_, rfl⟩, ?_⟩
  refine idxT_of rfl hj (nd_first hndf hj) ?_
  obtain ⟨a, ha⟩ : ∃ a, y.2[j]? = some a := ⟨_, List.getElem?_eq_getElem (by rw [hyk.2.1]; exact hjl)⟩
  refine ix_t rfl (d := .tup (y.2.map nQ)) rfl ?_
  refine ix_t rfl (q_at ha) ?_
  refine ⟨0, 1, rfl, rfl, by decide, by decide, ?_⟩
  rw [mk_0]
  refine eq_pl (v := nQ a) (w := nQ 0) rfl rfl rfl rfl rfl rfl (fun h => brT rfl ?_) (fun h => brF rfl ?_)
  · refine e fun i k w2 j2 y2 a2 hi hk hw2 hj2 hy2 ha2 => ?_
    cases hi
    cases hk
    have e1 : w2 = w := by
      have h1 := (List.getElem?_eq_some_iff.mp hw)
      have h2 := (List.getElem?_eq_some_iff.mp hw2)
      exact (List.getElem_inj hndo).mp (h2.2.trans h1.2.symm)
    have e2 : j2 = j := by
      have h1 := (List.getElem?_eq_some_iff.mp hj)
      have h2 := (List.getElem?_eq_some_iff.mp hj2)
      exact (List.getElem_inj hndf).mp (h2.2.trans h1.2.symm)
    subst e1 e2
    rw [hy] at hy2
    cases hy2
    rw [ha] at ha2
    cases ha2
    exact nQ_inj h
  have ha0 : a ≠ 0 := fun h2 => h (by rw [h2])
  refine ⟨y, j, N, r, free.length, a, rfl, rfl, ha, ha0, hyk, by omega, by omega, by omega, ?_⟩
  have hok : RkN (2 * N + 1) r free.length (solP j a y) := hyk.sol (hyk.2.2.2 a (List.mem_of_getElem? ha)) ha0
  have hq := q i z w j y a rfl rfl hw hj hy ha ha0
  clear q e
  generalize solP j a y = o at hok hq ⊢
  have put : ∀ (p : List Rat × List Rat), p ∈ rows ++ goals → p.2[j]? = some (p.2.getD j 0) ∧ RkN N r free.length p := fun p hp => by
    have h := T.rk p hp
    exact ⟨by rw [List.getD_eq_getElem?_getD, List.getElem?_eq_getElem (by rw [h.2.1]; exact hjl)] <;> rfl, h⟩
  refine ix_t rfl (d := .ptu (own.map .int)) rfl ?_
  refine ix_t rfl (d := R) rfl ?_
  refine zipK_tup rfl (eR _) ?_
  refine lc_mapA (own.zip rows) _ zipD_mapF (fun p => [some (tabD own free R G), some (.int i), some (.int z), some (rkP y), some (.int j), some (rkP o), none, none, none, none, none, none, some (.int p.1), some (rkP p.2)]) (fun p => rkP (if p.1 = i then o else putQ j o p.2)) (by rw [List.length_zip]; exact Nat.le_trans (by omega : _ ≤ 64) (szN 64)) (fun _ _ => trivial) (fun p hp mm hm k hk => ⟨_, rfl, rfl, hk⟩) (fun p hp mm hm k hk => ?_) ?_
  · refine eqI ?_
    refine br2 (fun h => ?_) (fun h => ?_)
    · rw [if_pos (of_decide_eq_true h)] at hk
      exact hk
    · rw [if_neg (of_decide_eq_false h)] at hk
      have hp2 := put p.2 (List.mem_append_left _ (List.of_mem_zip hp).2)
      exact ⟨p.2, o, j, N, 2 * N + 1, r, free.length, _, rfl, rfl, rfl, hp2.1, hp2.2, hok, hN, by omega, by omega, by omega, hk⟩
  have e1 : (own.zip rows).map (fun p => rkP (if p.1 = i then o else putQ j o p.2)) = (rowsT own rows i j o).map rkP := by unfold rowsT; rw [List.map_map]; rfl
  rw [e1]
  refine ix_t rfl (d := G) rfl ?_
  refine seqK_tup (eG _) ?_
  refine lc_mapA goals rkP rfl (fun p => [some (tabD own free R G), some (.int i), some (.int z), some (rkP y), some (.int j), some (rkP o), some (.lst ((rowsT own rows i j o).map rkP)), none, none, none, none, some (rkP p), none, none]) (fun p => rkP (putQ j o p)) (Nat.le_trans hlg (szN 64)) (fun _ _ => trivial) (fun p hp mm hm k hk => hk) (fun p hp mm hm k hk => ?_) ?_
  · have hp2 := put p (List.mem_append_right _ hp)
    exact ⟨p, o, j, N, 2 * N + 1, r, free.length, _, rfl, rfl, rfl, hp2.1, hp2.2, hok, hN, by omega, by omega, by omega, hk⟩
  have e2 : goals.map (fun p => rkP (putQ j o p)) = (goals.map (putQ j o)).map rkP := by rw [List.map_map]; rfl
  rw [e2]
  refine ix_t rfl (d := .ptu (own.map .int)) rfl ?_
  refine seqK_tup rfl ?_
  refine lc_mapA own D.int rfl (fun k => [some (tabD own free R G), some (.int i), some (.int z), some (rkP y), some (.int j), some (rkP o), some (.lst ((rowsT own rows i j o).map rkP)), some (.lst ((goals.map (putQ j o)).map rkP)), none, none, none, none, some (.int k), none]) (fun k => .int (swI i z k)) (Nat.le_trans hlo (szN 64)) (fun _ _ => trivial) (fun p hp mm hm k hk => hk) (fun p hp mm hm k hk => ?_) ?_
  · refine eqI ?_
    unfold swI at hk
    refine br2 (fun h => ?_) (fun h => ?_)
    · rw [if_pos (of_decide_eq_true h)] at hk
      exact hk
    · rw [if_neg (of_decide_eq_false h)] at hk
      exact hk
  have e3 : own.map (fun k => D.int (swI i z k)) = (own.map (swI i z)).map .int := by rw [List.map_map]; rfl
  rw [e3]
  refine ptu_of rfl ?_
  refine ix_t rfl (d := .ptu (free.map .int)) rfl ?_
  refine slP_of ?_
  rw [cut_nat]
  refine catP_of (by rw [List.length_take, List.length_map]; exact Nat.le_trans (by show _ + 1 ≤ 128; omega) (szN 128)) ?_
  refine ix_t rfl (d := .ptu (free.map .int)) rfl ?_
  refine slP_of ?_
  rw [show (j : Int) + 1 = ((j + 1 : Nat) : Int) from rfl, cut_lo]
  refine catP_of (by rw [List.length_append, List.length_take, List.length_drop, List.length_map]; exact Nat.le_trans (by show _ + 1 + _ ≤ 256; omega) (szN 256)) ?_
  have e4 := set_cut (xs := free.map D.int) (j := j) (y := .int i) (by rw [List.length_map]; exact hjl)
  rw [e4, ← List.map_set]
  have hsl : (free.set j i).length = free.length := List.length_set
  refine sortI_of (free.set j i) rfl fun fs hp hinc => ?_
  have hfl : fs.length = free.length := by rw [hp.length_eq, hsl]
  have hqf := hq fs hp hinc
  refine seqK_lst rfl ?_
  refine lc_mapA fs D.int rfl (fun k => [some (tabD own free R G), some (.int i), some (.int z), some (rkP y), some (.int j), some (rkP o), some (.lst ((rowsT own rows i j o).map rkP)), some (.lst ((goals.map (putQ j o)).map rkP)), some (.ptu ((own.map (swI i z)).map .int)), some (.ptu ((free.set j i).map .int)), none, none, some (.int k), none]) (fun k => .int ((free.set j i).idxOf k : Nat)) (Nat.le_trans (by omega) (szN 64)) (fun _ _ => rfl) (fun p hp mm hm k hk => hk) (fun k hk mm hm kk hkk => ?_) ?_
  · refine ⟨⟨_, rfl⟩, ?_⟩
    exact idxT_of rfl (idx_at (hp.mem_iff.mp hk)) idx_first hkk
  have e5 : fs.map (fun k => D.int ((free.set j i).idxOf k : Nat)) = (tsI (free.set j i) fs).map fun (t : Nat) => D.int t := by unfold tsI; rw [List.map_map]; rfl
  rw [e5]
  have htl : (tsI (free.set j i) fs).length = free.length := by unfold tsI; rw [List.length_map, hfl]
  have htm : ∀ t ∈ tsI (free.set j i) fs, t < free.length := by rw [← hsl]; exact ts_lt hp
  refine sortI_of (free.set j i) rfl fun fs2 hp2 hinc2 => ?_
  rw [srt_one hp2 hp hinc2 hinc]
  refine ptu_of rfl ?_
  refine ⟨rowsT own rows i j o, tsI (free.set j i) fs, free.length, rfl, rfl, by unfold rowsT; rw [List.length_map, List.length_zip]; omega, by omega, fun y hy => (rowsT_rk hN hjl hok (fun y hy => T.rk y (List.mem_append_left _ hy)) y hy).2.1, htm, ?_⟩
  refine ⟨goals.map (putQ j o), tsI (free.set j i) fs, free.length, rfl, rfl, by rw [List.length_map]; omega, by omega, fun y hy => (goalsT_rk hN hjl hok (fun y hy => T.rk y (List.mem_append_right _ hy)) y hy).2.1, htm, ?_⟩
  exact hqf

abbrev s__law_begun : Stmt := topS 23

theorem sc__law_begun : FnScope ["_law_script", "_law_k", "_law_cell", "_law_digits"] ["_law_script", "_law_k"] (defScope s__law_begun) := ⟨rfl, rfl, rfl, by decide +kernel, rfl, by decide +kernel, by decide +kernel⟩

def sp__law_begun : Sp2 := sp2 fun s k m Q => ∃ (ns : List Int) (j : Nat), s = .rol (ns.map .int) ∧ k = .int j ∧ ns.length ≤ 63 ∧ ∀ p m', m p = none → StB p m m' → Q (.ref p) m'

theorem fn__law_begun {P : Program} {w : World} {K : PySem.W.Frag} {mg : Str → Option Value} {base : Heap} {f : Addr} {fd : FuncData} (F : FunZ K "_law_begun" "_law_begun" s__law_begun f fd) (mg_len : mg "len" = none) (mg_abs : mg "abs" = none) : FnOk P w K mg base CX0 1 f fd ["_law_script", "_law_k"] (lift K sp__law_begun) := by
  refine fn2 (N := ["_law_script", "_law_k", "_law_cell", "_law_digits"]) F sc__law_begun rfl fun cdv A outer s H E hr => ⟨_, (qs_cons (qs_set (i := 2) sc__law_begun.nd rfl (by first | exact Or.inl rfl | exact Or.inr rfl) (addU (mulU q_int (vU 1)) q_int))
    (qs_cons (ifS (tgtU (lenU (by rfl) mg_len (qa_cons (vU 0) qa_nil)) q_int) (qs_one (qs_set (i := 2) sc__law_begun.nd rfl (by first | exact Or.inl rfl | exact Or.inr rfl) (addU (absU (by rfl) mg_abs (qa_cons (ixU (vU 0) (modU (vU 1) (lenU (by rfl) mg_len (qa_cons (vU 0) qa_nil))) (fun _ _ => rfl)) qa_nil)) (mulU (divU (vU 1) (lenU (by rfl) mg_len (qa_cons (vU 0) qa_nil))) q_int)))) qs_nil)
    (qs_cons (qs_set (i := 3) sc__law_begun.nd rfl (by first | exact Or.inl rfl | exact Or.inr rfl) q_int)
    (qs_cons (ifS (tgeU (vU 2) (powU q_int q_int)) (qs_one (qs_set (i := 3) sc__law_begun.nd rfl (by first | exact Or.inl rfl | exact Or.inr rfl) (vU 2))) qs_nil)
    (qs_one (qs_ret (q_lstM (qa_cons (vU 3) (qa_cons (addU (addU (modU (vU 2) q_int) (mulU q_int (vU 1))) q_int) qa_nil))))))))), ?_⟩
  rintro _ _ m Q ⟨ns, j, rfl, rfl, hn, q⟩
  refine mulI (cokL (by decide)) ?_
  refine kLen_rol rfl ?_
  rw [List.length_map]
  have fin : ∀ c : Int, 0 ≤ c → ∀ p, m p = none → ∀ dg : Int, 0 ≤ dg → Q (.ref p) (upM m p (.lst [.int dg, .int (c % 2147483647 + 7919 * (j : Int) + 11)])) := fun c hc p hp dg hd =>
    q p _ hp ⟨_, ⟨_, _, rfl, hd, by have := Int.emod_nonneg c (by decide : (2147483647 : Int) ≠ 0); omega⟩, rfl⟩
  refine br2 (fun h => ?_) (fun h => ?_)
  case' refine_1 =>
    have h : (0 : Int) < ns.length := of_decide_eq_true h
    refine kLen_rol rfl ?_
    rw [List.length_map]
    refine modI h ?_
    have h1 := Int.emod_nonneg (j : Int) (by omega : (ns.length : Int) ≠ 0)
    have h2 := Int.emod_lt_of_pos (j : Int) h
    obtain ⟨i, hi⟩ := Int.eq_ofNat_of_zero_le h1
    have hil : i < ns.length := by omega
    rw [hi]
    refine ix_n (i := i) (d := .int ns[i]) (ds := ns.map .int) rfl (by rw [List.getElem?_map, List.getElem?_eq_getElem hil] <;> rfl) ?_
    refine kLen_rol rfl ?_
    rw [List.length_map]
    refine divI h (lg9 (k := 64) (by omega)) ?_
    refine mulI (cokR (by decide)) ?_
    have hq : 0 ≤ (j : Int) / (ns.length : Int) := Int.ediv_nonneg (by omega) (by omega)
    obtain ⟨c, hc, hc0⟩ : ∃ c : Int, c = (if ns[i] < 0 then -ns[i] else ns[i]) + (j : Int) / (ns.length : Int) * 104729 ∧ 0 ≤ c := ⟨_, rfl, by split <;> omega⟩
    refine (fun {R : Kd} (h : R (.int c) m) => show oAddU (.int (if ns[i] < 0 then -ns[i] else ns[i])) (.int ((j : Int) / (ns.length : Int) * 104729)) m R from by rw [hc] at h; exact h) ?_
  case' refine_2 =>
    obtain ⟨c, hc, hc0⟩ : ∃ c : Int, c = 7919 * (j : Int) + 11 ∧ 0 ≤ c := ⟨_, rfl, by omega⟩
    rw [← hc]
  all_goals
    refine powI (by decide) (by decide) (by decide) ?_
    refine br2 (fun h1 => ?_) (fun h1 => ?_)
    · refine modI (by decide) ?_
      refine mulI (cokL (by decide)) ?_
      exact fun p hp => fin c hc0 p hp c hc0
    · refine modI (by decide) ?_
      refine mulI (cokL (by decide)) ?_
      exact fun p hp => fin c hc0 p hp 0 (by decide)

abbrev s__law_next : Stmt := topS 24

theorem sc__law_next : FnScope ["_law_state", "_law_size", "_law_mixed", "_law_digit"] ["_law_state", "_law_size"] (defScope s__law_next) := ⟨rfl, rfl, rfl, by decide +kernel, rfl, by decide +kernel, by decide +kernel⟩

def sp__law_next : Sp2 := sp2 fun s n m Q => ∃ (p : Addr) (k : Int), s = .ref p ∧ n = .int k ∧ StB p m m ∧ 0 < k ∧ k.natAbs.log2 < 9000 ∧ ∀ (r : Int) m', 0 ≤ r → r < k → StB p m m' → Q (.int r) m'

theorem fn__law_next {P : Program} {w : World} {K : PySem.W.Frag} {mg : Str → Option Value} {base : Heap} {f : Addr} {fd : FuncData} (F : FunZ K "_law_next" "_law_next" s__law_next f fd) : FnOk P w K mg base CX0 1 f fd ["_law_state", "_law_size"] (lift K sp__law_next) := by
  refine fn2 (N := ["_law_state", "_law_size", "_law_mixed", "_law_digit"]) F sc__law_next rfl fun cdv A outer s H E hr => ⟨_, (qs_cons (ifS (tgtU (ixU (vU 0) q_int (fun _ _ => rfl)) q_int) (qs_cons (qs_set (i := 3) sc__law_next.nd rfl (by first | exact Or.inl rfl | exact Or.inr rfl) (modU (ixU (vU 0) q_int (fun _ _ => rfl)) (vU 1)))
    (qs_cons (qs_asg (divU (ixU (vU 0) q_int (fun _ _ => rfl)) (vU 1)) (qg_subL (vU 0) q_int))
    (qs_one (qs_ret (vU 3))))) qs_nil)
    (qs_cons (qs_asg (modU (addU (mulU (ixU (vU 0) q_int (fun _ _ => rfl)) q_int) q_int) q_int) (qg_subL (vU 0) q_int))
    (qs_cons (qs_set (i := 2) sc__law_next.nd rfl (by first | exact Or.inl rfl | exact Or.inr rfl) (modU (mulU (ixU (vU 0) q_int (fun _ _ => rfl)) (ixU (vU 0) q_int (fun _ _ => rfl))) q_int))
    (qs_one (qs_ret (modU (divU (modU (addU (mulU (vU 2) (vU 2)) (mulU q_int (vU 2))) q_int) q_int) (vU 1))))))), ?_⟩
  rintro _ _ m Q ⟨p, k, rfl, rfl, hs, h0, hl, q⟩
  obtain ⟨_, ⟨a, b, rfl, ha, hb⟩, e⟩ := hs.at
  refine ix_l (res_at e) (d := .int a) rfl ?_
  refine br2 (fun h => ?_) (fun h => ?_)
  · refine ix_l (res_at e) (d := .int a) rfl ?_
    refine modI h0 ?_
    refine ix_l (res_at e) (d := .int a) rfl ?_
    refine divI h0 hl ?_
    refine ⟨p, _, 0, 0, rfl, rfl, e, rfl, ?_⟩
    exact q _ _ (Int.emod_nonneg _ (by omega)) (Int.emod_lt_of_pos _ h0) ⟨_, ⟨_, _, rfl, Int.ediv_nonneg ha (by omega), hb⟩, rfl⟩
  · refine ix_l (res_at e) (d := .int b) rfl ?_
    refine mulI (cokR (by decide)) ?_
    refine modI (by decide) ?_
    refine ⟨p, _, 1, 1, rfl, rfl, e, rfl, ?_⟩
    have h1 := Int.emod_nonneg (b * 48271 + 11) (by decide : (2147483647 : Int) ≠ 0)
    have h2 := Int.emod_lt_of_pos (b * 48271 + 11) (by decide : (0 : Int) < 2147483647)
    refine ix_l (res_at upM_same) (d := .int ((b * 48271 + 11) % 2147483647)) rfl ?_
    refine ix_l (res_at upM_same) (d := .int ((b * 48271 + 11) % 2147483647)) rfl ?_
    refine mulI (cokL ⟨by omega, by omega⟩) ?_
    refine modI (by decide) ?_
    generalize (b * 48271 + 11) % 2147483647 = z at *
    have h3 := Int.emod_nonneg (z * z) (by decide : (2147483629 : Int) ≠ 0)
    have h4 := Int.emod_lt_of_pos (z * z) (by decide : (0 : Int) < 2147483629)
    refine mulI (cokL ⟨by omega, by omega⟩) ?_
    refine mulI (cokL (by decide)) ?_
    refine modI (by decide) ?_
    refine divI (by decide) (by decide) ?_
    refine modI h0 ?_
    exact q _ _ (Int.emod_nonneg _ (by omega)) (Int.emod_lt_of_pos _ h0) ⟨_, ⟨a, z, rfl, ha, h1⟩, rfl⟩

abbrev s__law_pick : Stmt := topS 25

theorem sc__law_pick : FnScope ["_law_state", "_law_some_here"] ["_law_state", "_law_some_here"] (defScope s__law_pick) := ⟨rfl, rfl, rfl, by decide +kernel, rfl, by decide +kernel, by decide +kernel⟩

theorem ls_move {p : Addr} {m m' : M} {x : D} {ds : List D} (h : lsD (res m x) = some ds) (hx : x ≠ .ref p) (hs : StB p m m') : lsD (res m' x) = some ds := by
  cases x with
  | ref a =>
    have ha : a ≠ p := fun e => hx (by rw [e])
    have e : m' a = m a := hs.ne ha
    simp only [res, e] at h ⊢
    exact h
  | _ => exact h
theorem pick_of {ds : List D} {w : Int} (h0 : 0 ≤ w) (h1 : w < ds.length) : ∃ d, atI ds w = some d ∧ d ∈ ds := by
  obtain ⟨n, rfl⟩ := Int.eq_ofNat_of_zero_le h0
  have hn : n < ds.length := by omega
  exact ⟨ds[n], atI_nat (List.getElem?_eq_getElem hn), List.getElem_mem hn⟩
theorem lg64 {k : Nat} (h : k < 2 ^ 64) : k.log2 < 9000 := lg9 (k := 64) h
theorem ix_its {x : D} {m : M} {Q : Kd} {ds : List D} {i : Int} {d : D} (e : lsD (res m x) = some ds) (h : atI ds i = some d) (q : Q d m) : oIxU x (.int i) m Q := by
  unfold oIxU
  refine ⟨?_⟩
  cases hr : res m x <;> rw [hr] at e <;> first | (cases e; exact ⟨d, h, q⟩) | cases e
theorem kLen_ls {x : D} {m : M} {Q : Kd} {ds : List D} (e : lsD (res m x) = some ds) (q : Q (.int ds.length) m) : kLen [x] m Q := by
  unfold kLen
  refine ⟨?_⟩
  cases hr : res m x <;> rw [hr] at e <;> first | (cases e; simp only [hr]; exact q) | cases e

def sp__law_pick : Sp2 := sp2 fun s x m Q => ∃ (p : Addr) (ds : List D), s = .ref p ∧ StB p m m ∧ lsD (res m x) = some ds ∧ x ≠ .ref p ∧ 0 < ds.length ∧ ds.length ≤ 1000 ∧ ∀ d m', d ∈ ds → StB p m m' → Q d m'

theorem fn__law_pick {P : Program} {w : World} {K : PySem.W.Frag} {mg : Str → Option Value} {base : Heap} {f : Addr} {fd : FuncData} (F : FunZ K "_law_pick" "_law_pick" s__law_pick f fd) (D__law_next : DefOk P w K mg base 1 "_law_next" sp__law_next) (mg_len : mg "len" = none) : FnOk P w K mg base CX0 2 f fd ["_law_state", "_law_some_here"] (lift K sp__law_pick) := by
  refine fn2 (N := ["_law_state", "_law_some_here"]) F sc__law_pick rfl fun cdv A outer s H E hr => ⟨_, (qs_one (qs_ret (ixU (vU 1) (callU D__law_next hr (by rfl) (qa_cons (vU 0) (qa_cons (lenU (by rfl) mg_len (qa_cons (vU 1) qa_nil)) qa_nil))) (fun _ _ => rfl)))), ?_⟩
  rintro _ x m Q ⟨p, ds, rfl, hs, hx, hne, h0, hl, q⟩
  refine kLen_ls hx ?_
  refine ⟨p, _, rfl, rfl, hs, by omega, lg64 (by omega), fun w m1 h1 h2 hs1 => ?_⟩
  obtain ⟨d, hd, hm⟩ := pick_of h1 h2
  exact ix_its (ls_move hx hne hs1) hd (q d m1 hm hs1)

abbrev s__law_frac : Stmt := topS 26

theorem sc__law_frac : FnScope ["_law_over", "_law_under", "_law_big", "_law_small"] ["_law_over", "_law_under"] (defScope s__law_frac) := ⟨rfl, rfl, rfl, by decide +kernel, rfl, by decide +kernel, by decide +kernel⟩

def sp__law_frac : Sp2 := sp2 fun x y m Q => ∃ a b : Int, x = .int a ∧ y = .int b ∧ 0 < b ∧ b.natAbs.log2 < 9000 ∧ Q (nQ ((a : Rat) / b)) m

theorem fn__law_frac {P : Program} {w : World} {K : PySem.W.Frag} {mg : Str → Option Value} {base : Heap} {f : Addr} {fd : FuncData} (F : FunZ K "_law_frac" "_law_frac" s__law_frac f fd) (mg_abs : mg "abs" = none) : FnOk P w K mg base CX0 1 f fd ["_law_over", "_law_under"] (lift K sp__law_frac) := by
  refine fn2 (N := ["_law_over", "_law_under", "_law_big", "_law_small"]) F sc__law_frac rfl fun cdv A outer s H E hr => ⟨_, (qs_cons (qs_par (i := 2) (j := 3) rfl sc__law_frac.nd rfl rfl (by decide) rfl rfl (qa_cons (absU (by rfl) mg_abs (qa_cons (vU 0) qa_nil)) (qa_cons (vU 1) qa_nil)) (by rfl))
    (qs_cons (whileS PassesOwn.never (tgtU (vU 3) q_int) (qs_one (qs_par (i := 2) (j := 3) rfl sc__law_frac.nd rfl rfl (by decide) rfl rfl (qa_cons (vU 3) (qa_cons (modU (vU 2) (vU 3)) qa_nil)) (by rfl))))
    (qs_one (qs_ret (q_tup (qa_cons (divU (vU 0) (vU 2)) (qa_cons (divU (vU 1) (vU 2)) qa_nil))))))), ?_⟩
  rintro _ _ m Q ⟨a, b, rfl, rfl, hb0, hl, q⟩
  have q : Q (nD (lowP a b)) m := by rw [fr_low hb0]; exact q
  refine ⟨.int (if a < 0 then -a else a), .int b, rfl, ?_⟩
  refine ⟨fun n g m' => ∃ i j : Int, n = j.toNat ∧ g = [some (.int a), some (.int b), some (.int i), some (.int j)] ∧ m' = m ∧ 0 ≤ i ∧ 0 ≤ j ∧ Int.gcd i j = Int.gcd a b, ⟨_, _, b, rfl, rfl, rfl, by split <;> omega, by omega, gcd_abs⟩, ?_⟩
  rintro n g m' ⟨i, j, rfl, rfl, rfl, hi, hj, e⟩
  refine br2 (fun hc => ?_) (fun hc => ?_)
  · have hc := of_decide_eq_true hc
    have h1 := Int.emod_lt_of_pos i hc
    have h2 := Int.emod_nonneg i (by omega : j ≠ 0)
    refine modI hc ?_
    exact ⟨_, _, rfl, _, by omega, j, i % j, rfl, rfl, rfl, by omega, h2, (gcd_step hi hc).trans e⟩
  · have hc := of_decide_eq_false hc
    have e0 : j = 0 := by omega
    subst e0
    rw [Int.gcd_zero_right] at e
    have ei : ((Int.gcd a b : Nat) : Int) = i := by omega
    have h0 := gcd_pos_r (a := a) hb0
    have h1 := lg_mono (gcd_le_r (a := a) hb0) hl
    have hg : i.natAbs.log2 < 9000 := by rw [e]; exact h1
    have hi0 : 0 < i := by omega
    refine divI hi0 hg ?_
    refine divI hi0 hg ?_
    unfold lowP at q
    rw [ei] at q
    exact q

abbrev s__law_some : Stmt := topS 27

theorem sc__law_some : FnScope ["_law_state", "_law_way"] ["_law_state"] (defScope s__law_some) := ⟨rfl, rfl, rfl, by decide +kernel, rfl, by decide +kernel, by decide +kernel⟩

theorem sz_div {a b : Int} {n : Nat} (h0 : 0 < b) (h1 : a.natAbs < 2 ^ n) (h2 : b.natAbs < 2 ^ n) : Sz n ((a : Rat) / b) := by
  unfold Sz
  rw [← fr_low h0]
  exact lowP_bd ⟨h1, h2⟩
theorem sz_int {a : Int} {n : Nat} (hn : 0 < n) (h1 : a.natAbs < 2 ^ n) : Sz n (a : Rat) := by
  unfold Sz
  rw [fr_int]
  exact ⟨h1, Nat.one_lt_two_pow (by omega)⟩

def sp__law_some : Sp2 := sp1 fun s m Q => ∃ p, s = .ref p ∧ StB p m m ∧ ∀ (a : Rat) m', Sz 64 a → StB p m m' → Q (nQ a) m'

theorem fn__law_some {P : Program} {w : World} {K : PySem.W.Frag} {mg : Str → Option Value} {base : Heap} {f : Addr} {fd : FuncData} (F : FunZ K "_law_some" "_law_some" s__law_some f fd) (D__law_next : DefOk P w K mg base 1 "_law_next" sp__law_next) (D__law_frac : DefOk P w K mg base 1 "_law_frac" sp__law_frac) : FnOk P w K mg base CX0 2 f fd ["_law_state"] (lift K sp__law_some) := by
  refine fn1 (N := ["_law_state", "_law_way"]) F sc__law_some rfl fun cdv A outer s H E hr => ⟨_, (qs_cons (qs_set (i := 1) sc__law_some.nd rfl (by first | exact Or.inl rfl | exact Or.inr rfl) (callU D__law_next hr (by rfl) (qa_cons (vU 0) (qa_cons q_int qa_nil))))
    (qs_cons (ifS (tltU (vU 1) q_int) (qs_one (qs_ret (q_tup (qa_cons q_int (qa_cons q_int qa_nil))))) qs_nil)
    (qs_cons (ifS (teqU hr (vU 1) q_int) (qs_one (qs_ret (callU D__law_frac hr (by rfl) (qa_cons (subU (callU D__law_next hr (by rfl) (qa_cons (vU 0) (qa_cons (addU (mulU q_int (powU q_int q_int)) q_int) qa_nil))) (powU q_int q_int)) (qa_cons (addU q_int (callU D__law_next hr (by rfl) (qa_cons (vU 0) (qa_cons (powU q_int q_int) qa_nil)))) qa_nil))))) qs_nil)
    (qs_cons (ifS (tltU (vU 1) q_int) (qs_one (qs_ret (q_tup (qa_cons (subU (callU D__law_next hr (by rfl) (qa_cons (vU 0) (qa_cons q_int qa_nil))) q_int) (qa_cons q_int qa_nil))))) qs_nil)
    (qs_one (qs_ret (callU D__law_frac hr (by rfl) (qa_cons (subU (callU D__law_next hr (by rfl) (qa_cons (vU 0) (qa_cons q_int qa_nil))) q_int) (qa_cons (addU q_int (callU D__law_next hr (by rfl) (qa_cons (vU 0) (qa_cons q_int qa_nil)))) qa_nil))))))))), ?_⟩
  rintro _ m Q ⟨p, rfl, hs, q⟩
  refine ⟨p, 9, rfl, rfl, hs, by decide, by decide, fun w m1 hw1 hw2 hs1 => ?_⟩
  refine br2 (fun h => ?_) (fun h => ?_)
  · have := q 0 m1 (Sz.zero (by decide)) hs1
    unfold nQ at this
    rw [fr_zero] at this
    exact this
  refine eqI ?_
  refine br2 (fun h => ?_) (fun h => ?_)
  · refine powI (by decide) (by decide) (by decide) ?_
    refine mulI (cokL (by decide)) ?_
    refine ⟨p, 2 * 10 ^ 18 + 1, rfl, rfl, hs1.self, by decide, lg64 (by decide), fun a m2 ha1 ha2 hs2 => ?_⟩
    refine powI (by decide) (by decide) (by decide) ?_
    refine powI (by decide) (by decide) (by decide) ?_
    refine ⟨p, 10 ^ 9, rfl, rfl, hs2.self, by decide, lg64 (by decide), fun b m3 hb1 hb2 hs3 => ?_⟩
    refine ⟨a - 10 ^ 18, 1 + b, rfl, rfl, by omega, lg64 (by omega), ?_⟩
    exact q _ _ (sz_div (by omega) (by omega) (by omega)) ((hs1.trans hs2).trans hs3)
  refine br2 (fun h => ?_) (fun h => ?_)
  · refine ⟨p, 19, rfl, rfl, hs1.self, by decide, by decide, fun a m2 ha1 ha2 hs2 => ?_⟩
    have := q ((a - 9 : Int) : Rat) m2 (sz_int (by decide) (by omega)) (hs1.trans hs2)
    unfold nQ at this
    rw [fr_int] at this
    exact this
  · refine ⟨p, 41, rfl, rfl, hs1.self, by decide, by decide, fun a m2 ha1 ha2 hs2 => ?_⟩
    refine ⟨p, 6, rfl, rfl, hs2.self, by decide, by decide, fun b m3 hb1 hb2 hs3 => ?_⟩
    refine ⟨a - 20, 1 + b, rfl, rfl, by omega, lg64 (by omega), ?_⟩
    exact q _ _ (sz_div (by omega) (by omega) (by omega)) ((hs1.trans hs2).trans hs3)

abbrev s__law_variables : Stmt := topS 28

theorem sc__law_variables : FnScope ["_law_state", "_law_many", "_law_found", "_law_one", "_law_k"] ["_law_state", "_law_many"] (defScope s__law_variables) := ⟨rfl, rfl, rfl, by decide +kernel, rfl, by decide +kernel, by decide +kernel⟩

theorem ins_perm (ns : List Int) (j : Nat) (o : Int) : (ns.take j ++ [o] ++ ns.drop j).Perm (o :: ns) := by
  have h : (ns.take j ++ o :: ns.drop j).Perm (o :: (ns.take j ++ ns.drop j)) := List.perm_middle
  rw [List.take_append_drop] at h
  rw [List.append_assoc]
  exact h

def sp__law_variables : Sp2 := sp2 fun s k m Q => ∃ (p : Addr) (n : Nat), s = .ref p ∧ k = .int n ∧ n ≤ 20 ∧ StB p m m ∧ ∀ (ns : List Int) m', ns.length = n → ns.Nodup → (∀ i ∈ ns, 0 ≤ i ∧ i < 10 ^ 14) → StB p m m' → Q (.lst (ns.map .int)) m'

theorem fn__law_variables {P : Program} {w : World} {K : PySem.W.Frag} {mg : Str → Option Value} {base : Heap} {f : Addr} {fd : FuncData} (F : FunZ K "_law_variables" "_law_variables" s__law_variables f fd) (D__law_next : DefOk P w K mg base 1 "_law_next" sp__law_next) (mg_range : mg "range" = none) : FnOk P w K mg base CX0 2 f fd ["_law_state", "_law_many"] (lift K sp__law_variables) := by
  refine fn2 (N := ["_law_state", "_law_many", "_law_found", "_law_one", "_law_k"]) F sc__law_variables rfl fun cdv A outer s H E hr => ⟨_, (qs_cons (qs_set (i := 2) sc__law_variables.nd rfl (by first | exact Or.inl rfl | exact Or.inr rfl) (q_lstM qa_nil))
    (qs_cons (qs_set (i := 3) sc__law_variables.nd rfl (by first | exact Or.inl rfl | exact Or.inr rfl) (callU D__law_next hr (by rfl) (qa_cons (vU 0) (qa_cons q_int qa_nil))))
    (qs_cons (qs_for PassesOwn.never rfl (rngU (by rfl) mg_range (qa_cons (vU 1) qa_nil)) (qg_name (i := 4) sc__law_variables.nd rfl (by first | exact Or.inl rfl | exact Or.inr rfl)) (qs_cons (qs_expr (m_insert2M (vU 2) (callU D__law_next hr (by rfl) (qa_cons (vU 0) (qa_cons (addU (vU 4) q_int) qa_nil))) (vU 3)))
    (qs_one (qs_set (i := 3) sc__law_variables.nd rfl (by first | exact Or.inl rfl | exact Or.inr rfl) (addU (addU (vU 3) q_int) (ixU (q_lst (qa_cons q_int (qa_cons q_int (qa_cons (callU D__law_next hr (by rfl) (qa_cons (vU 0) (qa_cons q_int qa_nil))) (qa_cons (callU D__law_next hr (by rfl) (qa_cons (vU 0) (qa_cons (powU q_int q_int) qa_nil))) qa_nil))))) (callU D__law_next hr (by rfl) (qa_cons (vU 0) (qa_cons q_int qa_nil))) (fun _ _ => rfl)))))))
    (qs_one (qs_ret (q_drop (valU (vU 2)))))))), ?_⟩
  rintro _ _ m Q ⟨p, n, rfl, rfl, hn, hs, q⟩
  intro l hl0
  obtain ⟨hs1, hne⟩ := hs.start (c := .lst []) hl0
  refine ⟨p, 2, rfl, rfl, hs1.self, by decide, by decide, fun w m1 hw1 hw2 hs2 => ?_⟩
  refine ⟨⟨by omega, by omega⟩, fun i g m' => ∃ (ns : List Int) (o : Int) (x : Option D), g = [some (.ref p), some (.int n), some (.ref l), some (.int o), x] ∧ ns.length = i ∧ ns.Nodup ∧ (∀ z ∈ ns, 0 ≤ z ∧ z < o) ∧ 0 ≤ o ∧ o ≤ 1 + i * 10 ^ 12 ∧ StB p (upM m l (.lst (ns.map .int))) m', ⟨[], w, _, rfl, rfl, List.nodup_nil, fun _ h => (nomatch h), hw1, by omega, hs2⟩, ?_⟩
  rintro i g m' ⟨ns, o, x, rfl, hzl, hnd, hz, ho, ho2, hst⟩
  refine ⟨trivial, fun d hd => ?_, fun he => ?_⟩
  · obtain ⟨hi, rfl⟩ := rng0_of hd
    refine ⟨⟨_, congrArg lsD (res_at (hst.own hne))⟩, ?_⟩
    refine ⟨p, (i : Int) + 1, rfl, rfl, hst.self, by omega, lg64 (by omega), fun j m2 hj1 hj2 hs3 => ?_⟩
    have hst3 := hst.trans hs3
    refine ⟨l, _, rfl, hst3.own hne, by rw [List.length_map]; exact Nat.lt_of_le_of_lt (by omega) (szN 101), hj1, by omega, ?_⟩
    have hst4 := hst3.grow hne (c' := .lst ((ns.take j.toNat ++ [o] ++ ns.drop j.toNat).map .int))
    have hm4 : (ns.map D.int).take j.toNat ++ [.int o] ++ (ns.map D.int).drop j.toNat = (ns.take j.toNat ++ [o] ++ ns.drop j.toNat).map .int := by simp
    rw [hm4]
    refine ⟨p, 5, rfl, rfl, hst4.self, by decide, by decide, fun a m3 ha1 ha2 hs5 => ?_⟩
    refine powI (by decide) (by decide) (by decide) ?_
    refine ⟨p, 10 ^ 12, rfl, rfl, (hst4.trans hs5).self, by decide, by decide, fun b m4 hb1 hb2 hs6 => ?_⟩
    refine ⟨p, 4, rfl, rfl, ((hst4.trans hs5).trans hs6).self, by decide, by decide, fun c m5 hc1 hc2 hs7 => ?_⟩
    have hst8 := ((hst4.trans hs5).trans hs6).trans hs7
    obtain ⟨e, he, he1, he2⟩ : ∃ e : Int, atI [D.int 0, .int 0, .int a, .int b] c = some (.int e) ∧ 0 ≤ e ∧ e < 10 ^ 12 := by
      have : c = 0 ∨ c = 1 ∨ c = 2 ∨ c = 3 := by omega
      rcases this with rfl | rfl | rfl | rfl
      · exact ⟨0, rfl, by decide, by decide⟩
      · exact ⟨0, rfl, by decide, by decide⟩
      · exact ⟨a, rfl, ha1, by omega⟩
      · exact ⟨b, rfl, hb1, by omega⟩
    refine ix_l rfl he ?_
    have hperm := ins_perm ns j.toNat o
    have hmem := fun z => hperm.mem_iff (a := z)
    have h7 : ((i + 1 : Nat) : Int) * 10 ^ 12 = (i : Int) * 10 ^ 12 + 10 ^ 12 := by omega
    refine ⟨_, _, _, rfl, by rw [hperm.length_eq, List.length_cons, hzl], hperm.nodup_iff.mpr (List.nodup_cons.mpr ⟨fun h => ?_, hnd⟩), fun z h => ?_, by omega, by omega, hst8⟩
    · have := hz o h; omega
    · rcases List.mem_cons.mp ((hmem z).mp h) with h | h
      · omega
      · have := hz z h; omega
  · rw [rngD_len] at he
    refine ⟨l, _, rfl, hst.own hne, ?_⟩
    refine ⟨dropM m' l, Sub.refl, q ns _ (by omega) hnd (fun z h => ?_) (hst.give hl0 hne)⟩
    have := hz z h
    have h9 : (i : Int) * 10 ^ 12 ≤ 20 * 10 ^ 12 := Int.mul_le_mul_of_nonneg_right (by omega) (by decide)
    omega

abbrev s__law_reckoning : Stmt := topS 29

theorem sc__law_reckoning : FnScope ["_law_state", "_law_many", "_law_long", "_law_rest", "_law_k"] ["_law_state", "_law_many", "_law_long"] (defScope s__law_reckoning) := ⟨rfl, rfl, rfl, by decide +kernel, rfl, by decide +kernel, by decide +kernel⟩

theorem all_of {α : Type} {f : α → D} {P : α → Prop} : ∀ ys : List D, (∀ y ∈ ys, ∃ a, y = f a ∧ P a) → ∃ as : List α, ys = as.map f ∧ ∀ a ∈ as, P a
  | [], _ => ⟨[], rfl, fun _ h => (nomatch h)⟩
  | y :: r, h => by
    obtain ⟨a, rfl, ha⟩ := h y List.mem_cons_self
    obtain ⟨as, rfl, has⟩ := all_of r fun z hz => h z (List.mem_cons_of_mem _ hz)
    exact ⟨a :: as, rfl, fun z hz => (List.mem_cons.mp hz).elim (fun e => by rw [e]; exact ha) (has z)⟩
/-- what is told item by item of a comprehension, as a list of things -/
theorem got_of {α : Type} {f : α → D} {P : α → Prop} {ds ys : List D} (h : ∀ (j : Nat) (y : D), ys[j]? = some y → ∃ d, ds[j]? = some d ∧ ∃ a, y = f a ∧ P a) : ∃ as : List α, ys = as.map f ∧ ∀ a ∈ as, P a :=
  all_of ys fun y hy => by
    obtain ⟨i, hi⟩ := List.getElem?_of_mem hy
    obtain ⟨_, _, a⟩ := h i y hi
    exact a


def sp__law_reckoning : Sp2 := sp3 fun s n r m Q => ∃ (p : Addr) (i j : Nat), s = .ref p ∧ n = .int i ∧ r = .int j ∧ i ≤ 100 ∧ j ≤ 100 ∧ StB p m m ∧ ∀ (rs ss : List Rat) m', rs.length = j → ss.length = i → (∀ a ∈ rs, Sz 64 a) → (∀ a ∈ ss, Sz 64 a) → StB p m m' → Q (rkD rs ss) m'

theorem fn__law_reckoning {P : Program} {w : World} {K : PySem.W.Frag} {mg : Str → Option Value} {base : Heap} {f : Addr} {fd : FuncData} (F : FunZ K "_law_reckoning" "_law_reckoning" s__law_reckoning f fd) (D__law_some : DefOk P w K mg base 2 "_law_some" sp__law_some) (mg_tuple : mg "tuple" = none) (mg_range : mg "range" = none) : FnOk P w K mg base CX0 3 f fd ["_law_state", "_law_many", "_law_long"] (lift K sp__law_reckoning) := by
  refine fn3 (N := ["_law_state", "_law_many", "_law_long", "_law_rest", "_law_k"]) F sc__law_reckoning rfl fun cdv A outer s H E hr => ⟨_, (qs_cons (qs_set (i := 3) sc__law_reckoning.nd rfl (by first | exact Or.inl rfl | exact Or.inr rfl) (tupleU (by rfl) mg_tuple (qa_cons (q_lc (own := [("_law_k", 4)]) rfl sc__law_reckoning.nd (rngU (by rfl) mg_range (qa_cons (vU 2) qa_nil)) (blkOk_by (N := ["_law_state", "_law_many", "_law_long", "_law_rest", "_law_k"]) (sc := defScope s__law_reckoning) (by decide +kernel)) (fun _ _ _ _ _ => (qgc_name (i := 4) sc__law_reckoning.nd rfl (by first | exact Or.inl rfl | exact Or.inr rfl) (by decide))) (fun _ _ _ _ _ => qts_nil) (fun _ _ _ _ _ => (callU D__law_some hr (by rfl) (qa_cons (vU 0) qa_nil)))) qa_nil)))
    (qs_one (qs_ret (q_tup (qa_cons (vU 3) (qa_cons (tupleU (by rfl) mg_tuple (qa_cons (q_lc (own := [("_law_k", 4)]) rfl sc__law_reckoning.nd (rngU (by rfl) mg_range (qa_cons (vU 1) qa_nil)) (blkOk_by (N := ["_law_state", "_law_many", "_law_long", "_law_rest", "_law_k"]) (sc := defScope s__law_reckoning) (by decide +kernel)) (fun _ _ _ _ _ => (qgc_name (i := 4) sc__law_reckoning.nd rfl (by first | exact Or.inl rfl | exact Or.inr rfl) (by decide))) (fun _ _ _ _ _ => qts_nil) (fun _ _ _ _ _ => (callU D__law_some hr (by rfl) (qa_cons (vU 0) qa_nil)))) qa_nil)) qa_nil)))))), ?_⟩
  rintro _ _ _ m Q ⟨p, n, r, rfl, rfl, rfl, hn, hr, hs, q⟩
  refine ⟨⟨by omega, by omega⟩, ?_⟩
  refine lc_sbR (p := p) (fun _ y => ∃ a, y = nQ a ∧ Sz 64 a) hs (by rw [rngD_len]; exact Nat.le_trans (by omega) (szN 100)) (fun _ => trivial) (fun d hd mm hmm kk hkk => ?_) fun ys m2 hyl hy hs2 => ?_
  · exact ⟨p, rfl, hmm, fun a m3 ha hs3 => hkk _ _ ⟨a, rfl, ha⟩ hs3⟩
  obtain ⟨rs, rfl, hrs⟩ := got_of hy
  rw [List.length_map, rngD_len] at hyl
  refine kTup_of rfl ?_
  refine ⟨⟨by omega, by omega⟩, ?_⟩
  refine lc_sbR (p := p) (fun _ y => ∃ a, y = nQ a ∧ Sz 64 a) hs2.self (by rw [rngD_len]; exact Nat.le_trans (by omega) (szN 100)) (fun _ => trivial) (fun d hd mm hmm kk hkk => ?_) fun zs m3 hzl hz hs3 => ?_
  · exact ⟨p, rfl, hmm, fun a m3 ha hs3 => hkk _ _ ⟨a, rfl, ha⟩ hs3⟩
  obtain ⟨ss, rfl, hss⟩ := got_of hz
  rw [List.length_map, rngD_len] at hzl
  refine kTup_of rfl ?_
  exact q rs ss _ (by omega) (by omega) hrs hss (hs2.trans hs3)

abbrev s__law_grid : Stmt := topS 30

theorem sc__law_grid : FnScope ["_law_state", "_law_most", "_law_owns", "_law_frees", "_law_names", "_law_long", "_law_rows", "_law_goals", "_law_k"] ["_law_state", "_law_most"] (defScope s__law_grid) := ⟨rfl, rfl, rfl, by decide +kernel, rfl, by decide +kernel, by decide +kernel⟩

structure GrOk (n r : Nat) (own free : List Int) (rows goals : List (List Rat × List Rat)) : Prop where
  nd : (own ++ free).Nodup
  ps : ∀ i ∈ own ++ free, 0 ≤ i ∧ i < 10 ^ 14
  inc : free.Pairwise (· ≤ ·)
  lr : rows.length = own.length
  lo : own.length ≤ n
  lf : free.length ≤ n
  lg : goals.length ≤ 3
  r2 : r = 1 ∨ r = 2
  rk : ∀ x ∈ rows ++ goals, RkOk r free.length x

def sp__law_grid : Sp2 := sp2 fun s k m Q => ∃ (p : Addr) (n : Nat), s = .ref p ∧ k = .int n ∧ n ≤ 6 ∧ StB p m m ∧ ∀ r own free rows goals m', GrOk n r own free rows goals → StB p m m' → Q (grD own free rows goals) m'

theorem fn__law_grid {P : Program} {w : World} {K : PySem.W.Frag} {mg : Str → Option Value} {base : Heap} {f : Addr} {fd : FuncData} (F : FunZ K "_law_grid" "_law_grid" s__law_grid f fd) (D__law_next : DefOk P w K mg base 1 "_law_next" sp__law_next) (D__law_variables : DefOk P w K mg base 2 "_law_variables" sp__law_variables) (D__law_reckoning : DefOk P w K mg base 3 "_law_reckoning" sp__law_reckoning) (mg_tuple : mg "tuple" = none) (mg_range : mg "range" = none) (mg_sorted : mg "sorted" = none) : FnOk P w K mg base CX0 4 f fd ["_law_state", "_law_most"] (lift K sp__law_grid) := by
  refine fn2 (N := ["_law_state", "_law_most", "_law_owns", "_law_frees", "_law_names", "_law_long", "_law_rows", "_law_goals", "_law_k"]) F sc__law_grid rfl fun cdv A outer s H E hr => ⟨_, (qs_cons (qs_set (i := 2) sc__law_grid.nd rfl (by first | exact Or.inl rfl | exact Or.inr rfl) (callU D__law_next hr (by rfl) (qa_cons (vU 0) (qa_cons (addU (vU 1) q_int) qa_nil))))
    (qs_cons (qs_set (i := 3) sc__law_grid.nd rfl (by first | exact Or.inl rfl | exact Or.inr rfl) (callU D__law_next hr (by rfl) (qa_cons (vU 0) (qa_cons (addU (vU 1) q_int) qa_nil))))
    (qs_cons (qs_set (i := 4) sc__law_grid.nd rfl (by first | exact Or.inl rfl | exact Or.inr rfl) (callU D__law_variables hr (by rfl) (qa_cons (vU 0) (qa_cons (addU (vU 2) (vU 3)) qa_nil))))
    (qs_cons (qs_set (i := 5) sc__law_grid.nd rfl (by first | exact Or.inl rfl | exact Or.inr rfl) (addU q_int (callU D__law_next hr (by rfl) (qa_cons (vU 0) (qa_cons q_int qa_nil)))))
    (qs_cons (setLc (i := 6) (own := [("_law_k", 8)]) rfl sc__law_grid.nd rfl rfl (sw_true rfl rfl rfl (by decide +kernel)) (rngU (by rfl) mg_range (qa_cons (vU 2) qa_nil)) (blkOk_by (N := ["_law_state", "_law_most", "_law_owns", "_law_frees", "_law_names", "_law_long", "_law_rows", "_law_goals", "_law_k"]) (sc := defScope s__law_grid) (by decide +kernel)) (fun _ _ _ _ _ => (qgc_name (i := 8) sc__law_grid.nd rfl (by first | exact Or.inl rfl | exact Or.inr rfl) (by decide))) (fun _ _ _ _ _ => qts_nil) (fun _ _ _ _ _ => (callU D__law_reckoning hr (by rfl) (qa_cons (vU 0) (qa_cons (vU 3) (qa_cons (vU 5) qa_nil))))))
    (qs_cons (setLc (i := 7) (own := [("_law_k", 8)]) rfl sc__law_grid.nd rfl rfl (sw_true rfl rfl rfl (by decide +kernel)) (rngU (by rfl) mg_range (qa_cons (callU D__law_next hr (by rfl) (qa_cons (vU 0) (qa_cons q_int qa_nil))) qa_nil)) (blkOk_by (N := ["_law_state", "_law_most", "_law_owns", "_law_frees", "_law_names", "_law_long", "_law_rows", "_law_goals", "_law_k"]) (sc := defScope s__law_grid) (by decide +kernel)) (fun _ _ _ _ _ => (qgc_name (i := 8) sc__law_grid.nd rfl (by first | exact Or.inl rfl | exact Or.inr rfl) (by decide))) (fun _ _ _ _ _ => qts_nil) (fun _ _ _ _ _ => (callU D__law_reckoning hr (by rfl) (qa_cons (vU 0) (qa_cons (vU 3) (qa_cons (vU 5) qa_nil))))))
    (qs_one (qs_ret (q_tup (qa_cons (tuplePU (by rfl) mg_tuple (qa_cons (slU (vU 4) qo_none (poU (vU 2))) qa_nil)) (qa_cons (tuplePU (by rfl) mg_tuple (qa_cons (sortedIU (by rfl) mg_sorted (qa_cons (slU (vU 4) (poU (vU 2)) qo_none) qa_nil)) qa_nil)) (qa_cons (tuplePU (by rfl) mg_tuple (qa_cons (vU 6) qa_nil)) (qa_cons (tuplePU (by rfl) mg_tuple (qa_cons (vU 7) qa_nil)) qa_nil))))))))))))), ?_⟩
  rintro _ _ m Q ⟨p, n, rfl, rfl, hn, hs, q⟩
  refine ⟨p, (n : Int) + 1, rfl, rfl, hs, by omega, lg64 (by omega), fun o m1 ho1 ho2 hs1 => ?_⟩
  refine ⟨p, (n : Int) + 1, rfl, rfl, hs1.self, by omega, lg64 (by omega), fun f m2 hf1 hf2 hs2 => ?_⟩
  obtain ⟨o, rfl⟩ := Int.eq_ofNat_of_zero_le ho1
  obtain ⟨f, rfl⟩ := Int.eq_ofNat_of_zero_le hf1
  have hs2 := hs1.trans hs2
  refine ⟨p, o + f, rfl, rfl, by omega, hs2.self, fun ns m3 hnl hnd hnp hs3 => ?_⟩
  have hs3 := hs2.trans hs3
  refine ⟨p, 2, rfl, rfl, hs3.self, by decide, by decide, fun w m4 hw1 hw2 hs4 => ?_⟩
  obtain ⟨w, rfl⟩ := Int.eq_ofNat_of_zero_le hw1
  have hs4 := hs3.trans hs4
  refine ⟨⟨by omega, by omega⟩, ?_⟩
  refine lc_sbR (p := p) (fun _ y => ∃ x : List Rat × List Rat, y = rkP x ∧ RkOk (1 + w) f x) hs4.self (by rw [rngD_len]; exact Nat.le_trans (by omega) (szN 100)) (fun _ => trivial) (fun d hd mm hmm kk hkk => ?_) fun ys m5 hyl hy hs5 => ?_
  · exact ⟨p, f, 1 + w, rfl, rfl, rfl, by omega, by omega, hmm, fun rs ss m3 h1 h2 h3 h4 hs3 => hkk _ _ ⟨(rs, ss), rfl, h1, h2, h3, h4⟩ hs3⟩
  obtain ⟨rows, rfl, hrows⟩ := got_of hy
  rw [List.length_map, rngD_len] at hyl
  have hs5 := hs4.trans hs5
  refine ⟨p, 4, rfl, rfl, hs5.self, by decide, by decide, fun g m6 hg1 hg2 hs6 => ?_⟩
  have hs6 := hs5.trans hs6
  refine ⟨⟨by omega, by omega⟩, ?_⟩
  refine lc_sbR (p := p) (fun _ y => ∃ x : List Rat × List Rat, y = rkP x ∧ RkOk (1 + w) f x) hs6.self (by rw [rngD_len]; exact Nat.le_trans (by omega) (szN 100)) (fun _ => trivial) (fun d hd mm hmm kk hkk => ?_) fun zs m7 hzl hz hs7 => ?_
  · exact ⟨p, f, 1 + w, rfl, rfl, rfl, by omega, by omega, hmm, fun rs ss m3 h1 h2 h3 h4 hs3 => hkk _ _ ⟨(rs, ss), rfl, h1, h2, h3, h4⟩ hs3⟩
  obtain ⟨goals, rfl, hgoals⟩ := got_of hz
  rw [List.length_map, rngD_len] at hzl
  have hs7 := hs6.trans hs7
  refine sl_l rfl ?_
  rw [cut_hi]
  refine ptu_of rfl ?_
  refine sl_l rfl ?_
  rw [cut_lo]
  refine sortI_of (ns.drop o) (by rw [List.map_drop] <;> rfl) fun fs hp hinc => ?_
  refine ptu_of rfl ?_
  refine ptu_of rfl ?_
  refine ptu_of rfl ?_
  have hp2 : (ns.take o ++ fs).Perm ns := by
    have h := hp.append_left (ns.take o)
    rw [List.take_append_drop] at h
    exact h
  have hto : (ns.take o).length = o := by rw [List.length_take]; omega
  have hfl : fs.length = f := by rw [hp.length_eq, List.length_drop]; omega
  have k := q (1 + w) (ns.take o) fs rows goals m7 ⟨hp2.nodup_iff.mpr hnd, fun i hi => hnp i (hp2.mem_iff.mp hi), hinc, by omega, by omega, by omega, by omega, by omega, fun x hx => by
    rw [hfl]
    exact (List.mem_append.mp hx).elim (hrows x) (hgoals x)⟩ hs7
  unfold grD at k
  rw [List.map_take] at k
  exact k

abbrev s__law_product : Stmt := topS 31

theorem sc__law_product : FnScope ["_law_one", "_law_other"] ["_law_one", "_law_other"] (defScope s__law_product) := ⟨rfl, rfl, rfl, by decide +kernel, rfl, by decide +kernel, by decide +kernel⟩

def sp__law_product : Sp2 := sp2 fun x y m Q => ∃ a b : Rat, x = nQ a ∧ y = nQ b ∧ Sz 4000 a ∧ Sz 4000 b ∧ Q (nQ (a * b)) m

theorem fn__law_product {P : Program} {w : World} {K : PySem.W.Frag} {mg : Str → Option Value} {base : Heap} {f : Addr} {fd : FuncData} (F : FunZ K "_law_product" "_law_product" s__law_product f fd) (D__law_frac : DefOk P w K mg base 1 "_law_frac" sp__law_frac) : FnOk P w K mg base CX0 2 f fd ["_law_one", "_law_other"] (lift K sp__law_product) := by
  refine fn2 (N := ["_law_one", "_law_other"]) F sc__law_product rfl fun cdv A outer s H E hr => ⟨_, (qs_one (qs_ret (callU D__law_frac hr (by rfl) (qa_cons (mulU (ixU (vU 0) q_int (fun _ _ => rfl)) (ixU (vU 1) q_int (fun _ _ => rfl))) (qa_cons (mulU (ixU (vU 0) q_int (fun _ _ => rfl)) (ixU (vU 1) q_int (fun _ _ => rfl))) qa_nil))))), ?_⟩
  rintro _ _ m Q ⟨a, b, rfl, rfl, ⟨ha1, ha2⟩, ⟨hb1, hb2⟩, q⟩
  have h0 := pos_mul (fr_lo a).1 (fr_lo b).1
  have e : nQ ((((fr a).1 * (fr b).1 : Int) : Rat) / (((fr a).2 * (fr b).2 : Int) : Rat)) = nQ (a * b) := by
    unfold nQ
    rw [← fr_low h0, ← fr_times]
    rfl
  refine ix_t rfl (d := .int (fr a).1) rfl ?_
  refine ix_t rfl (d := .int (fr b).1) rfl ?_
  refine mulI (cokN ha1 hb1) ?_
  refine ix_t rfl (d := .int (fr a).2) rfl ?_
  refine ix_t rfl (d := .int (fr b).2) rfl ?_
  refine mulI (cokN ha2 hb2) ?_
  refine ⟨_, _, rfl, rfl, h0, lg9 (bdMul ha2 hb2), ?_⟩
  rw [e]
  exact q

abbrev s__law_sum : Stmt := topS 32

theorem sc__law_sum : FnScope ["_law_one", "_law_other"] ["_law_one", "_law_other"] (defScope s__law_sum) := ⟨rfl, rfl, rfl, by decide +kernel, rfl, by decide +kernel, by decide +kernel⟩

def sp__law_sum : Sp2 := sp2 fun x y m Q => ∃ a b : Rat, x = nQ a ∧ y = nQ b ∧ Sz 4000 a ∧ Sz 4000 b ∧ Q (nQ (a + b)) m

theorem fn__law_sum {P : Program} {w : World} {K : PySem.W.Frag} {mg : Str → Option Value} {base : Heap} {f : Addr} {fd : FuncData} (F : FunZ K "_law_sum" "_law_sum" s__law_sum f fd) (D__law_frac : DefOk P w K mg base 1 "_law_frac" sp__law_frac) : FnOk P w K mg base CX0 2 f fd ["_law_one", "_law_other"] (lift K sp__law_sum) := by
  refine fn2 (N := ["_law_one", "_law_other"]) F sc__law_sum rfl fun cdv A outer s H E hr => ⟨_, (qs_one (qs_ret (callU D__law_frac hr (by rfl) (qa_cons (addU (mulU (ixU (vU 0) q_int (fun _ _ => rfl)) (ixU (vU 1) q_int (fun _ _ => rfl))) (mulU (ixU (vU 1) q_int (fun _ _ => rfl)) (ixU (vU 0) q_int (fun _ _ => rfl)))) (qa_cons (mulU (ixU (vU 0) q_int (fun _ _ => rfl)) (ixU (vU 1) q_int (fun _ _ => rfl))) qa_nil))))), ?_⟩
  rintro _ _ m Q ⟨a, b, rfl, rfl, ⟨ha1, ha2⟩, ⟨hb1, hb2⟩, q⟩
  have h0 := pos_mul (fr_lo a).1 (fr_lo b).1
  have e : nQ ((((fr a).1 * (fr b).2 + (fr b).1 * (fr a).2 : Int) : Rat) / (((fr a).2 * (fr b).2 : Int) : Rat)) = nQ (a + b) := by
    unfold nQ
    rw [← fr_low h0, ← fr_plus]
    rfl
  refine ix_t rfl (d := .int (fr a).1) rfl ?_
  refine ix_t rfl (d := .int (fr b).2) rfl ?_
  refine mulI (cokN ha1 hb2) ?_
  refine ix_t rfl (d := .int (fr b).1) rfl ?_
  refine ix_t rfl (d := .int (fr a).2) rfl ?_
  refine mulI (cokN hb1 ha2) ?_
  refine ix_t rfl (d := .int (fr a).2) rfl ?_
  refine ix_t rfl (d := .int (fr b).2) rfl ?_
  refine mulI (cokN ha2 hb2) ?_
  refine ⟨_, _, rfl, rfl, h0, lg9 (bdMul ha2 hb2), ?_⟩
  rw [e]
  exact q

abbrev s__law_inverse : Stmt := topS 33

theorem sc__law_inverse : FnScope ["_law_one"] ["_law_one"] (defScope s__law_inverse) := ⟨rfl, rfl, rfl, by decide +kernel, rfl, by decide +kernel, by decide +kernel⟩

def invP (p : Fr) : Fr := if 0 < p.1 then (p.2, p.1) else (-p.2, -p.1)
theorem inv_fr {a : Rat} (h : a ≠ 0) : invP (fr a) = fr (1 / a) := by
  have h1 := fr_lo a
  have h2 := fr_ne h
  have h3 : qF (fr a) = a := qF_fr a
  refine qF_inj ?_ (fr_lo _) ?_
  · unfold invP
    split
    · exact ⟨by show 0 < (fr a).1; omega, by show Int.gcd (fr a).2 (fr a).1 = 1; rw [Int.gcd_comm]; exact h1.2⟩
    · exact ⟨by show 0 < -(fr a).1; omega, by show Int.gcd (-(fr a).2) (-(fr a).1) = 1; rw [Int.neg_gcd, Int.gcd_neg, Int.gcd_comm]; exact h1.2⟩
  · rw [qF_fr]
    unfold qF at h3
    unfold invP
    have e1 : (((fr a).1 : Int) : Rat) ≠ 0 := by simpa using h2
    have e2 : (((fr a).2 : Int) : Rat) ≠ 0 := by simpa using Int.ne_of_gt h1.1
    split
    · show (((fr a).2 : Int) : Rat) / (((fr a).1 : Int) : Rat) = 1 / a
      grind
    · show ((-(fr a).2 : Int) : Rat) / ((-(fr a).1 : Int) : Rat) = 1 / a
      rw [Rat.intCast_neg, Rat.intCast_neg]
      grind
theorem neg_fr (a : Rat) : D.tup [.int (-(fr a).1), .int (fr a).2] = nQ (-a) := rfl

def sp__law_inverse : Sp2 := sp1 fun x m Q => ∃ a : Rat, x = nQ a ∧ a ≠ 0 ∧ Q (nQ (1 / a)) m

theorem fn__law_inverse {P : Program} {w : World} {K : PySem.W.Frag} {mg : Str → Option Value} {base : Heap} {f : Addr} {fd : FuncData} (F : FunZ K "_law_inverse" "_law_inverse" s__law_inverse f fd) : FnOk P w K mg base CX0 1 f fd ["_law_one"] (lift K sp__law_inverse) := by
  refine fn1 (N := ["_law_one"]) F sc__law_inverse rfl fun cdv A outer s H E hr => ⟨_, (qs_one (qs_ret (ifE (tgtU (ixU (vU 0) q_int (fun _ _ => rfl)) q_int) (q_tup (qa_cons (ixU (vU 0) q_int (fun _ _ => rfl)) (qa_cons (ixU (vU 0) q_int (fun _ _ => rfl)) qa_nil))) (q_tup (qa_cons (negU (ixU (vU 0) q_int (fun _ _ => rfl))) (qa_cons (negU (ixU (vU 0) q_int (fun _ _ => rfl))) qa_nil)))))), ?_⟩
  rintro _ m Q ⟨a, rfl, h, q⟩
  have q : Q (nD (invP (fr a))) m := by rw [inv_fr h]; exact q
  unfold invP at q
  refine ix_t rfl (d := .int (fr a).1) rfl ?_
  refine br2 (fun h => ?_) (fun h => ?_)
  · rw [if_pos (of_decide_eq_true h)] at q
    refine ix_t rfl (d := .int (fr a).2) rfl ?_
    refine ix_t rfl (d := .int (fr a).1) rfl ?_
    exact q
  · rw [if_neg (of_decide_eq_false h)] at q
    refine ix_t rfl (d := .int (fr a).2) rfl ?_
    refine ix_t rfl (d := .int (fr a).1) rfl ?_
    exact q

abbrev s__law_solved : Stmt := topS 34

theorem sc__law_solved : FnScope ["_law_rest", "_law_shares", "_law_own", "_law_free", "_law_by", "_law_found", "_law_variable", "_law_one"] ["_law_rest", "_law_shares", "_law_own", "_law_free"] (defScope s__law_solved) := ⟨rfl, rfl, rfl, by decide +kernel, rfl, by decide +kernel, by decide +kernel⟩

theorem dropM_up {m : M} {l : Addr} {c : C} (h : m l = none) : dropM (upM m l c) l = m := by
  funext a
  unfold dropM upM
  by_cases e : a = l
  · subst e; rw [if_pos rfl, h]
  · rw [if_neg e, if_neg e]
theorem gtK_none {l : List (Key × D)} {k : Key} (h : k ∉ l.map (·.1)) : gtK l k = none := by
  cases e : gtK l k with
  | none => rfl
  | some d => exact absurd (gtK_key.mp (by rw [e]; rfl)) h
theorem gtK_mapc {F : Int → D} : ∀ {os : List Int} {v : Int}, v ∈ os → gtK (os.map fun v => ((Sum.inl v : Key), F v)) (.inl v) = some (F v)
  | o :: os, v, h => by
    by_cases e : o = v
    · subst e
      exact gtK_pos rfl
    · rw [List.map_cons, gtK_neg fun k => e (Sum.inl.inj k)]
      exact gtK_mapc ((List.mem_cons.mp h).resolve_left fun k => e k.symm)
/-- a table of numbers by variables, never changed -/
def dK (ks : List Int) (g : Int → Rat) : D := fdD (ks.map fun v => ((Sum.inl v : Key), nQ (g v)))
theorem dK_keys {ks : List Int} {g : Int → Rat} : (ks.map fun v => ((Sum.inl v : Key), nQ (g v))).map (fun p => keyV p.1) = ks.map D.int := by rw [List.map_map]; rfl
/-- shares of a variable solved -/
def solG (i z : Int) (g : Int → Rat) (v : Int) : Rat := if v = i then 1 / g z else -1 / g z * g v
theorem upM_again {m : M} {l : Addr} {c c' : C} : upM (upM m l c) l c' = upM m l c' := by
  funext a
  unfold upM
  split <;> rfl
theorem neg_inv {a : Rat} (h : a ≠ 0) : 1 / -a = -1 / a := by grind

def sp__law_solved : Sp2 := sp4 fun r s o y m Q => ∃ (rs : List Rat) (ks : List Int) (g : Int → Rat) (i z : Int), r = .tup (rs.map nQ) ∧ s = dK ks g ∧ o = .int i ∧ y = .int z ∧ z ∈ ks ∧ i ∉ ks ∧ ks.Nodup ∧ ks.length ≤ 20 ∧ rs.length ≤ 20 ∧ g z ≠ 0 ∧ (∀ v, Sz 64 (g v)) ∧ (∀ a ∈ rs, Sz 64 a) ∧ Q (.tup [.tup ((rs.map fun x => -1 / g z * x).map nQ), dK (i :: ks.filter fun v => decide (v ≠ z)) (solG i z g)]) m

theorem fn__law_solved {P : Program} {w : World} {K : PySem.W.Frag} {mg : Str → Option Value} {base : Heap} {f : Addr} {fd : FuncData} (F : FunZ K "_law_solved" "_law_solved" s__law_solved f fd) (D__law_inverse : DefOk P w K mg base 1 "_law_inverse" sp__law_inverse) (D__law_product : DefOk P w K mg base 2 "_law_product" sp__law_product) (mg_tuple : mg "tuple" = none) : FnOk P w K mg base CX0 3 f fd ["_law_rest", "_law_shares", "_law_own", "_law_free"] (lift K sp__law_solved) := by
  refine fn4 (N := ["_law_rest", "_law_shares", "_law_own", "_law_free", "_law_by", "_law_found", "_law_variable", "_law_one"]) F sc__law_solved rfl fun cdv A outer s H E hr => ⟨_, (qs_cons (qs_set (i := 4) sc__law_solved.nd rfl (by first | exact Or.inl rfl | exact Or.inr rfl) (callU D__law_inverse hr (by rfl) (qa_cons (q_tup (qa_cons (negU (ixU (ixDU hr (vU 1) (vU 3) (fun _ _ => rfl)) q_int (fun _ _ => rfl))) (qa_cons (ixU (ixDU hr (vU 1) (vU 3) (fun _ _ => rfl)) q_int (fun _ _ => rfl)) qa_nil))) qa_nil)))
    (qs_cons (qs_set (i := 5) sc__law_solved.nd rfl (by first | exact Or.inl rfl | exact Or.inr rfl) (q_dispM (qps_cons (vU 2) (callU D__law_inverse hr (by rfl) (qa_cons (ixDU hr (vU 1) (vU 3) (fun _ _ => rfl)) qa_nil)) qps_nil)))
    (qs_cons (qs_for PassesOwn.never rfl (dkeysU (vU 1)) (qg_name (i := 6) sc__law_solved.nd rfl (by first | exact Or.inl rfl | exact Or.inr rfl)) (qs_one (ifS (tneU hr (vU 6) (vU 3)) (qs_one (qs_asg (callU D__law_product hr (by rfl) (qa_cons (vU 4) (qa_cons (ixDU hr (vU 1) (vU 6) (fun _ _ => rfl)) qa_nil))) (qg_subD hr (vU 5) (vU 6)))) qs_nil)))
    (qs_lockD (i := 5) (qs_one (qs_ret (q_drop (q_tup (qa_cons (tupleU (by rfl) mg_tuple (qa_cons (q_lc (own := [("_law_one", 7)]) rfl sc__law_solved.nd (seqU (vU 0)) (blkOk_by (N := ["_law_rest", "_law_shares", "_law_own", "_law_free", "_law_by", "_law_found", "_law_variable", "_law_one"]) (sc := defScope s__law_solved) (by decide +kernel)) (fun _ _ _ _ _ => (qgc_name (i := 7) sc__law_solved.nd rfl (by first | exact Or.inl rfl | exact Or.inr rfl) (by decide))) (fun _ _ _ _ _ => qts_nil) (fun _ _ _ _ _ => (callU D__law_product hr (by rfl) (qa_cons (vU 4) (qa_cons (vU 7) qa_nil))))) qa_nil)) (qa_cons (vU 5) qa_nil)))))))))), ?_⟩
  rintro _ _ _ _ m Q ⟨rs, ks, g, i, z, rfl, rfl, rfl, rfl, hz, hi, hn, hkl, hrl, h0, hg, hrs, q⟩
  have gz : ∀ v ∈ ks, gtK (ks.map fun v => ((Sum.inl v : Key), nQ (g v))) (.inl v) = some (nQ (g v)) := fun v hv => gtK_mapc (F := fun v => nQ (g v)) hv
  refine ix_d res_fd (k := .inl z) rfl (gz z hz) ?_
  refine ix_t rfl (d := .int (fr (g z)).1) rfl ?_
  refine ix_d res_fd (k := .inl z) rfl (gz z hz) ?_
  refine ix_t rfl (d := .int (fr (g z)).2) rfl ?_
  refine ⟨-g z, rfl, fun e => h0 (by grind), ?_⟩
  rw [neg_inv h0]
  refine fun p hp => ?_
  refine ix_d res_fd (k := .inl z) rfl (gz z hz) ?_
  refine ⟨g z, rfl, h0, ?_⟩
  refine ⟨m, [.inl i], rfl, hp, rfl, by simp, by show 1 ≤ 15; decide, ?_⟩
  have hb : Sz 66 (-1 / g z) := (Sz.share (n := 1) (k := 64) (Sz.neg1 (by decide)) (hg z) h0).mono (by decide)
  refine keysK_of ?_
  rw [dK_keys]
  refine ⟨fun n g' m' => ∃ x6 : Option D, m' = upM m p (tbC ((i :: (ks.take n).filter fun v => decide (v ≠ z)).map fun v => ((Sum.inl v : Key), nQ (solG i z g v)))) ∧ g' = [some (.tup (rs.map nQ)), some (dK ks g), some (.int i), some (.int z), some (nQ (-1 / g z)), some (.ref p), x6, none], ⟨_, by
    rw [List.take_zero]
    show _ = upM m p (C.dic [.inl i] [nQ (solG i z g i)])
    unfold solG
    rw [if_pos rfl]
    rfl, rfl⟩, ?_⟩
  rintro n g' m' ⟨x6, rfl, rfl⟩
  refine ⟨trivial, fun d hd => ?_, fun hnn => ?_⟩
  · rw [List.getElem?_map] at hd
    cases hv : ks[n]? with
    | none => rw [hv] at hd; cases hd
    | some v =>
    rw [hv] at hd
    obtain rfl : D.int v = d := Option.some.inj hd
    obtain ⟨hnl, ev⟩ := List.getElem?_eq_some_iff.mp hv
    have hvk := List.mem_of_getElem? hv
    have htk : ks.take (n + 1) = ks.take n ++ [v] := by rw [List.take_succ_eq_append_getElem hnl, ev]
    have hvi : v ≠ i := fun e => hi (e ▸ hvk)
    refine neI ?_
    by_cases hvz : v = z
    · rw [decide_eq_true hvz]
      refine brF rfl ?_
      refine ⟨_, ?_, rfl⟩
      rw [htk, List.filter_append, List.filter_cons, if_neg (by simpa using hvz), List.filter_nil, List.append_nil]
    · rw [decide_eq_false hvz]
      refine brT rfl ?_
      refine ix_d res_fd (k := .inl v) rfl (gz v hvk) ?_
      refine ⟨-1 / g z, g v, rfl, rfl, hb.mono (by decide), (hg v).mono (by decide), ?_⟩
      refine ⟨p, _, .inl v, rfl, rfl, upM_same, Nat.lt_of_lt_of_le (by rw [List.length_map, List.length_cons]; have := List.length_filter_le (fun v => decide (v ≠ z)) (ks.take n); rw [List.length_take] at this; omega : _ < 30) (szN 30), ?_⟩
      refine ⟨_, ?_, rfl⟩
      have hnot : v ∉ i :: (ks.take n).filter fun v => decide (v ≠ z) := fun h => by
        rcases List.mem_cons.mp h with h | h
        · exact hvi h
        · have h1 := (List.mem_filter.mp h).1
          have h2 : (ks.take (n + 1)).Nodup := hn.sublist (List.take_sublist _ _)
          rw [htk, List.nodup_append] at h2
          exact h2.2.2 v h1 v (by simp) rfl
      rw [upM_again, ptK_new _ (gtK_none fun h => hnot (by
        rw [List.map_map] at h
        obtain ⟨u, hu, e⟩ := List.mem_map.mp h
        exact Sum.inl.inj e ▸ hu)), htk, List.filter_append, List.filter_cons, if_pos (by simpa using hvz), List.filter_nil, ← List.cons_append, List.map_append]
      congr 1
      show _ = tbC (_ ++ [((Sum.inl v : Key), nQ (solG i z g v))])
      unfold solG
      rw [if_neg hvi]
  · rw [List.length_map] at hnn
    rw [List.take_of_length_le (by omega)]
    refine ⟨p, _, rfl, upM_same, ?_⟩
    rw [dropM_up hp]
    refine seqK_tup rfl ?_
    refine lc_mapA rs nQ rfl (fun x => [some (.tup (rs.map nQ)), some (dK ks g), some (.int i), some (.int z), some (nQ (-1 / g z)), some (dK (i :: ks.filter fun v => decide (v ≠ z)) (solG i z g)), x6, some (nQ x)]) (fun x => nQ (-1 / g z * x)) (Nat.le_trans hrl (szN 20)) (fun _ _ => trivial) (fun x _ mm _ k hk => hk) (fun x hx mm _ k hk => ?_) ?_
    · exact ⟨-1 / g z, x, rfl, rfl, hb.mono (by decide), (hrs x hx).mono (by decide), hk⟩
    refine kTup_of rfl ?_
    refine ⟨m, Sub.refl, ?_⟩
    have e5 : (rs.map fun x => -1 / g z * x).map nQ = rs.map fun x => nQ (-1 / g z * x) := by rw [List.map_map]; rfl
    rw [e5] at q
    exact q

abbrev s__law_put : Stmt := topS 35

theorem sc__law_put : FnScope ["_law_rest", "_law_shares", "_law_free", "_law_new", "_law_found", "_law_variable", "_law_more", "_law_one"] ["_law_rest", "_law_shares", "_law_free", "_law_new"] (defScope s__law_put) := ⟨rfl, rfl, rfl, by decide +kernel, rfl, by decide +kernel, by decide +kernel⟩

/-- a part of a form, a form, as data -/
def ptQ (x : Str × Rat) : D := .tup [.str x.1, nQ x.2]
def fmQ (ps : List (Str × Rat)) (c : Rat) : D := .tup [.ptu (ps.map ptQ), nQ c]
/-- the number of a name in a form -/
def co (ps : List (Str × Rat)) (z : Str) : Rat := ((ps.find? fun x => decide (x.1 = z)).map (·.2)).getD 0
theorem co_prs : ∀ ps : List (Str × Rat), prsD (ps.map ptQ) = some (ps.map fun y => ((Sum.inr y.1 : Key), nQ y.2))
  | [] => rfl
  | p :: ps => by simp only [List.map_cons, ptQ, prsD, keyD, co_prs ps]
theorem co_gt {z : Str} : ∀ ps : List (Str × Rat), (gtK (ps.map fun y => ((Sum.inr y.1 : Key), nQ y.2)) (.inr z)).getD (nQ 0) = nQ (co ps z)
  | [] => rfl
  | x :: r => by
    have ih := co_gt (z := z) r
    unfold co at ih ⊢
    rw [List.map_cons, List.find?_cons]
    by_cases e : x.1 = z
    · rw [gtK_pos (by rw [e]), decide_eq_true e]; rfl
    · rw [gtK_neg (fun h => e (Sum.inr.inj h)), decide_eq_false e]; exact ih
theorem nQ_zero : nQ 0 = D.tup [.int 0, .int 1] := show nQ ((0 : Int) : Rat) = _ by unfold nQ; rw [fr_int]; rfl
def putG (ks : List Int) (z : Int) (g g2 : Int → Rat) (v : Int) : Rat := (if v ∈ ks then g v else 0) + g z * g2 v
theorem add_sc {a : Rat} {rs ns : List Rat} : addR rs (scR a ns) = (rs.zip ns).map fun p => p.1 + a * p.2 := by
  unfold addR scR
  rw [List.zip_map_right, List.map_map]
  rfl
theorem zipQ {rs ns : List Rat} : zipD (rs.map nQ) (ns.map nQ) = (rs.zip ns).map fun p => D.tup [nQ p.1, nQ p.2] := by
  unfold zipD
  rw [List.zip_map, List.map_map]
  rfl
theorem gtK_dK {ks : List Int} {g : Int → Rat} {v : Int} : gtK (ks.map fun v => ((Sum.inl v : Key), nQ (g v))) (.inl v) = if v ∈ ks then some (nQ (g v)) else none := by
  by_cases h : v ∈ ks
  · rw [if_pos h]; exact gtK_mapc (F := fun v => nQ (g v)) h
  · rw [if_neg h]
    exact gtK_none fun k => h (by
      rw [List.map_map] at k
      obtain ⟨u, hu, e⟩ := List.mem_map.mp k
      exact Sum.inl.inj e ▸ hu)

def sp__law_put : Sp2 := sp4 fun r s y n m Q => ∃ (rs ns : List Rat) (ks ks2 : List Int) (g g2 : Int → Rat) (z : Int), r = .tup (rs.map nQ) ∧ s = dK ks g ∧ y = .int z ∧ n = .tup [.tup (ns.map nQ), dK ks2 g2] ∧ z ∈ ks ∧ ks2.Nodup ∧ ks2.length ≤ 20 ∧ rs.length ≤ 20 ∧ (∀ v, Sz 64 (g v)) ∧ (∀ v, Sz 200 (g2 v)) ∧ (∀ a ∈ rs, Sz 64 a) ∧ (∀ a ∈ ns, Sz 200 a) ∧ Q (.tup [.tup ((addR rs (scR (g z) ns)).map nQ), dK ks2 (putG ks z g g2)]) m

theorem fn__law_put {P : Program} {w : World} {K : PySem.W.Frag} {mg : Str → Option Value} {base : Heap} {f : Addr} {fd : FuncData} (F : FunZ K "_law_put" "_law_put" s__law_put f fd) (D__law_product : DefOk P w K mg base 2 "_law_product" sp__law_product) (D__law_sum : DefOk P w K mg base 2 "_law_sum" sp__law_sum) (mg_tuple : mg "tuple" = none) (mg_zip : mg "zip" = none) : FnOk P w K mg base CX0 3 f fd ["_law_rest", "_law_shares", "_law_free", "_law_new"] (lift K sp__law_put) := by
  refine fn4 (N := ["_law_rest", "_law_shares", "_law_free", "_law_new", "_law_found", "_law_variable", "_law_more", "_law_one"]) F sc__law_put rfl fun cdv A outer s H E hr => ⟨_, (qs_cons (qs_set (i := 4) sc__law_put.nd rfl (by first | exact Or.inl rfl | exact Or.inr rfl) q_dnewM)
    (qs_cons (qs_for PassesOwn.never rfl (dkeysU (ixU (vU 3) q_int (fun _ _ => rfl))) (qg_name (i := 5) sc__law_put.nd rfl (by first | exact Or.inl rfl | exact Or.inr rfl)) (qs_cons (qs_set (i := 6) sc__law_put.nd rfl (by first | exact Or.inl rfl | exact Or.inr rfl) (callU D__law_product hr (by rfl) (qa_cons (ixDU hr (vU 1) (vU 2) (fun _ _ => rfl)) (qa_cons (ixDU hr (ixU (vU 3) q_int (fun _ _ => rfl)) (vU 5) (fun _ _ => rfl)) qa_nil))))
    (qs_one (qs_asg (callU D__law_sum hr (by rfl) (qa_cons (m_get2D hr (vU 1) (vU 5) (q_tup (qa_cons q_int (qa_cons q_int qa_nil)))) (qa_cons (vU 6) qa_nil))) (qg_subD hr (vU 4) (vU 5))))))
    (qs_lockD (i := 4) (qs_one (qs_ret (q_drop (q_tup (qa_cons (tupleU (by rfl) mg_tuple (qa_cons (q_lc (own := [("_law_one", 7), ("_law_more", 6)]) rfl sc__law_put.nd (zipU (by rfl) mg_zip (qa_cons (vU 0) (qa_cons (ixU (vU 3) q_int (fun _ _ => rfl)) qa_nil))) (blkOk_by (N := ["_law_rest", "_law_shares", "_law_free", "_law_new", "_law_found", "_law_variable", "_law_more", "_law_one"]) (sc := defScope s__law_put) (by decide +kernel)) (fun _ _ _ _ _ => (qgc_tup (n := 2) rfl (qgcs_cons (qgc_name (i := 7) sc__law_put.nd rfl (by first | exact Or.inl rfl | exact Or.inr rfl) (by decide)) (qgcs_cons (qgc_name (i := 6) sc__law_put.nd rfl (by first | exact Or.inl rfl | exact Or.inr rfl) (by decide)) qgcs_nil)))) (fun _ _ _ _ _ => qts_nil) (fun _ _ _ _ _ => (callU D__law_sum hr (by rfl) (qa_cons (vU 7) (qa_cons (callU D__law_product hr (by rfl) (qa_cons (ixDU hr (vU 1) (vU 2) (fun _ _ => rfl)) (qa_cons (vU 6) qa_nil))) qa_nil))))) qa_nil)) (qa_cons (vU 4) qa_nil))))))))), ?_⟩
  rintro _ _ _ _ m Q ⟨rs, ns, ks, ks2, g, g2, z, rfl, rfl, rfl, rfl, hz, hn, hkl, hrl, hg, hg2, hrs, hns, q⟩
  have gz : gtK (ks.map fun v => ((Sum.inl v : Key), nQ (g v))) (.inl z) = some (nQ (g z)) := by rw [gtK_dK, if_pos hz]
  refine fun p hp => ?_
  refine ix_t rfl (d := dK ks2 g2) rfl ?_
  refine keysK_of ?_
  rw [dK_keys]
  refine ⟨fun n g' m' => ∃ x5 x6 : Option D, m' = upM m p (tbC ((ks2.take n).map fun v => ((Sum.inl v : Key), nQ (putG ks z g g2 v)))) ∧ g' = [some (.tup (rs.map nQ)), some (dK ks g), some (.int z), some (.tup [.tup (ns.map nQ), dK ks2 g2]), some (.ref p), x5, x6, none], ⟨_, _, by rw [List.take_zero]; rfl, rfl⟩, ?_⟩
  rintro n g' m' ⟨x5, x6, rfl, rfl⟩
  refine ⟨trivial, fun d hd => ?_, fun hnn => ?_⟩
  · rw [List.getElem?_map] at hd
    cases hv : ks2[n]? with
    | none => rw [hv] at hd; cases hd
    | some v =>
    rw [hv] at hd
    obtain rfl : D.int v = d := Option.some.inj hd
    obtain ⟨hnl, ev⟩ := List.getElem?_eq_some_iff.mp hv
    have hvk := List.mem_of_getElem? hv
    have htk : ks2.take (n + 1) = ks2.take n ++ [v] := by rw [List.take_succ_eq_append_getElem hnl, ev]
    refine ix_d res_fd (k := .inl z) rfl gz ?_
    refine ix_t rfl (d := dK ks2 g2) rfl ?_
    refine ix_d res_fd (k := .inl v) rfl (by rw [gtK_dK, if_pos hvk]) ?_
    refine ⟨g z, g2 v, rfl, rfl, (hg z).mono (by decide), (hg2 v).mono (by decide), ?_⟩
    refine ⟨⟨_, res_fd⟩, ?_⟩
    refine get_d res_fd rfl ?_
    have eg : (gtK (ks.map fun v => ((Sum.inl v : Key), nQ (g v))) (.inl v)).getD (.tup [.int 0, .int 1]) = nQ (if v ∈ ks then g v else 0) := by
      rw [gtK_dK]
      by_cases h : v ∈ ks
      · rw [if_pos h, if_pos h]; rfl
      · rw [if_neg h, if_neg h, nQ_zero]; rfl
    rw [eg]
    refine ⟨_, g z * g2 v, rfl, rfl, ?_, ((hg z).times (hg2 v)).mono (by decide), ?_⟩
    · split
      · exact (hg v).mono (by decide)
      · exact Sz.zero (by decide)
    refine ⟨p, _, .inl v, rfl, rfl, upM_same, Nat.lt_of_lt_of_le (by rw [List.length_map, List.length_take]; omega : _ < 30) (szN 30), ?_⟩
    refine ⟨_, _, ?_, rfl⟩
    rw [upM_again, ptK_new _ (gtK_none fun h => by
      rw [List.map_map] at h
      obtain ⟨u, hu, e⟩ := List.mem_map.mp h
      have e : u = v := Sum.inl.inj e
      subst e
      have h2 : (ks2.take (n + 1)).Nodup := hn.sublist (List.take_sublist _ _)
      rw [htk, List.nodup_append] at h2
      exact h2.2.2 u hu u (by simp) rfl), htk, List.map_append]
    rfl
  · rw [List.length_map] at hnn
    rw [List.take_of_length_le (by omega)]
    refine ⟨p, _, rfl, upM_same, ?_⟩
    rw [dropM_up hp]
    refine ix_t rfl (d := .tup (ns.map nQ)) rfl ?_
    refine zipK_tup rfl rfl ?_
    refine lc_mapA (rs.zip ns) (fun p => D.tup [nQ p.1, nQ p.2]) zipQ (fun x => [some (.tup (rs.map nQ)), some (dK ks g), some (.int z), some (.tup [.tup (ns.map nQ), dK ks2 g2]), some (dK ks2 (putG ks z g g2)), x5, some (nQ x.2), some (nQ x.1)]) (fun x => nQ (x.1 + g z * x.2)) (by rw [List.length_zip]; exact Nat.le_trans (Nat.min_le_left _ _) (Nat.le_trans hrl (szN 20))) (fun _ _ => trivial) (fun x _ mm _ k hk => ⟨_, rfl, rfl, hk⟩) (fun x hx mm _ k hk => ?_) ?_
    · obtain ⟨hx1, hx2⟩ := List.of_mem_zip hx
      refine ix_d res_fd (k := .inl z) rfl gz ?_
      refine ⟨g z, x.2, rfl, rfl, (hg z).mono (by decide), (hns _ hx2).mono (by decide), ?_⟩
      exact ⟨x.1, g z * x.2, rfl, rfl, (hrs _ hx1).mono (by decide), ((hg z).times (hns _ hx2)).mono (by decide), hk⟩
    refine kTup_of rfl ?_
    refine ⟨m, Sub.refl, ?_⟩
    rw [add_sc] at q
    have e5 : ((rs.zip ns).map fun p => p.1 + g z * p.2).map nQ = (rs.zip ns).map fun x => nQ (x.1 + g z * x.2) := by rw [List.map_map]; rfl
    rw [e5] at q
    exact q

abbrev s__law_due : Stmt := topS 36

theorem sc__law_due : FnScope ["_law_grid_here", "_law_own", "_law_free", "_law_pairs", "_law_at", "_law_new", "_law_later", "_law_frees", "_law_made", "_law_owns", "_law_rest", "_law_shares", "_law_one"] ["_law_grid_here", "_law_own", "_law_free"] (defScope s__law_due) := ⟨rfl, rfl, rfl, by decide +kernel, rfl, by decide +kernel, by decide +kernel⟩

theorem idx_nd {ns : List Int} {i : Int} {w : Nat} (hn : ns.Nodup) (h : ns[w]? = some i) : ns.idxOf i = w := by
  have h2 := idx_at (List.mem_of_getElem? h)
  exact (List.getElem_inj hn).mp ((List.getElem?_eq_some_iff.mp h2).2.trans (List.getElem?_eq_some_iff.mp h).2.symm)
/- in k22: ahead of this turned.txt, and idx_nd of k24's law (own.Nodup: idxOf is the place) -/
/-! ### a table turned back -/
theorem gd {l : List Rat} {t : Nat} (h : t < l.length) : l.getD t 0 = l[t] := by rw [List.getD_eq_getElem?_getD, List.getElem?_eq_getElem h] <;> rfl
theorem sol_gd {j t : Nat} {a : Rat} {y : List Rat × List Rat} (ht : t < y.2.length) : (solP j a y).2.getD t 0 = if t = j then 1 / a else -1 / a * y.2.getD t 0 := by
  rw [gd (by show t < (List.set _ _ _).length; rw [List.length_set, List.length_map]; exact ht), gd ht]
  show ((y.2.map fun x => -1 / a * x).set j (1 / a))[t]'_ = _
  rw [List.getElem_set]
  by_cases h : j = t
  · rw [if_pos h, if_pos h.symm]
  · rw [if_neg h, if_neg (Ne.symm h), List.getElem_map]
theorem sol_back {f j k : Nat} {a : Rat} {y : List Rat × List Rat} {ts : List Nat} (hf : y.2.length = f) (ha : a = y.2.getD j 0) (h0 : a ≠ 0) (hts : ∀ t ∈ ts, t < f) (hn : ts.Nodup) (hk : ts[k]? = some j) : solP k (1 / a) (reQ ts (solP j a y)) = reQ ts y := by
  obtain ⟨hkl, hkj⟩ := List.getElem?_eq_some_iff.mp hk
  refine Prod.ext ?_ ?_
  · show (y.1.map fun x => -1 / a * x).map (fun x => -1 / (1 / a) * x) = y.1
    rw [List.map_map]
    refine (List.map_congr_left fun x _ => ?_).trans (List.map_id y.1)
    show -1 / (1 / a) * (-1 / a * x) = x
    grind
  · show ((ts.map fun t => (solP j a y).2.getD t 0).map fun x => -1 / (1 / a) * x).set k (1 / (1 / a)) = ts.map fun t => y.2.getD t 0
    refine List.ext_getElem (by rw [List.length_set, List.length_map, List.length_map, List.length_map]) fun i h1 h2 => ?_
    have hi : i < ts.length := by rw [List.length_map] at h2; exact h2
    have hti := hts ts[i] (List.getElem_mem hi)
    rw [List.getElem_set, List.getElem_map, List.getElem_map, List.getElem_map, sol_gd (by rw [hf]; exact hti)]
    by_cases h : k = i
    · subst h
      rw [if_pos rfl, hkj, ← ha]
      grind
    · have hne : ts[i] ≠ j := fun e => h ((List.getElem_inj hn).mp (hkj.trans e.symm))
      rw [if_neg h, if_neg hne]
      grind
theorem add_gd {as bs : List Rat} {t : Nat} (h1 : t < as.length) (h2 : t < bs.length) : (addR as bs).getD t 0 = as.getD t 0 + bs.getD t 0 := by
  rw [gd (by unfold addR; rw [List.length_map, List.length_zip]; omega), gd h1, gd h2]
  unfold addR
  rw [List.getElem_map, List.getElem_zip]
theorem sc_gd {b : Rat} {as : List Rat} {t : Nat} (h : t < as.length) : (scR b as).getD t 0 = b * as.getD t 0 := by
  rw [gd (by unfold scR; rw [List.length_map]; exact h), gd h]
  unfold scR
  rw [List.getElem_map]
theorem set_gd {as : List Rat} {j t : Nat} {x : Rat} (h : t < as.length) : (as.set j x).getD t 0 = if t = j then x else as.getD t 0 := by
  rw [gd (by rw [List.length_set]; exact h), gd h, List.getElem_set]
  by_cases e : j = t
  · rw [if_pos e, if_pos e.symm]
  · rw [if_neg e, if_neg (Ne.symm e)]
theorem ext_gd {as bs : List Rat} (h : as.length = bs.length) (k : ∀ t, t < as.length → as.getD t 0 = bs.getD t 0) : as = bs := List.ext_getElem h fun i h1 h2 => by
  have := k i h1
  rw [gd h1, gd h2] at this
  exact this
theorem re_gd {ts : List Nat} {y : List Rat × List Rat} {k : Nat} (h : k < ts.length) : (reQ ts y).2.getD k 0 = y.2.getD ts[k] 0 := by
  show (ts.map fun t => y.2.getD t 0).getD k 0 = _
  rw [gd (by rw [List.length_map]; exact h), List.getElem_map]
theorem put_back {r f j k : Nat} {a : Rat} {y z : List Rat × List Rat} {ts : List Nat} (hy1 : y.1.length = r) (hz1 : z.1.length = r) (hy : y.2.length = f) (hz : z.2.length = f) (hj : j < f) (ha : a = z.2.getD j 0) (h0 : a ≠ 0) (hts : ∀ t ∈ ts, t < f) (htl : ts.length = f) (hn : ts.Nodup) (hk : ts[k]? = some j) :
    putQ k (reQ ts z) (reQ ts (putQ j (solP j a z) y)) = reQ ts y := by
  obtain ⟨hkl, hkj⟩ := List.getElem?_eq_some_iff.mp hk
  have hs : ∀ t, t < f → (putQ j (solP j a z) y).2.getD t 0 = (if t = j then 0 else y.2.getD t 0) + y.2.getD j 0 * (if t = j then 1 / a else -1 / a * z.2.getD t 0) := fun t ht => by
    show (addR (y.2.set j 0) (scR (y.2.getD j 0) (solP j a z).2)).getD t 0 = _
    have hl : t < (solP j a z).2.length := by show t < (List.set _ _ _).length; rw [List.length_set, List.length_map]; omega
    rw [add_gd (by rw [List.length_set]; omega) (by unfold scR; rw [List.length_map]; exact hl), set_gd (by omega), sc_gd hl, sol_gd (by omega)]
  have hb : (reQ ts (putQ j (solP j a z) y)).2.getD k 0 = y.2.getD j 0 * (1 / a) := by
    rw [re_gd hkl, hkj, hs j hj, if_pos rfl, if_pos rfl]
    grind
  unfold putQ at hb ⊢
  rw [hb]
  refine Prod.ext ?_ ?_
  · show addR (addR y.1 (scR (y.2.getD j 0) (z.1.map fun x => -1 / a * x))) (scR (y.2.getD j 0 * (1 / a)) z.1) = y.1
    have l1 : (scR (y.2.getD j 0) (z.1.map fun x => -1 / a * x)).length = r := by unfold scR; rw [List.length_map, List.length_map]; exact hz1
    have l2 : (scR (y.2.getD j 0 * (1 / a)) z.1).length = r := by unfold scR; rw [List.length_map]; exact hz1
    have l3 : (addR y.1 (scR (y.2.getD j 0) (z.1.map fun x => -1 / a * x))).length = r := by rw [addR_len (by omega)]; exact hy1
    refine ext_gd (by rw [addR_len (by omega)]; omega) fun t ht => ?_
    rw [addR_len (by omega)] at ht
    rw [add_gd (by omega) (by omega), add_gd (by omega) (by omega), sc_gd (by rw [List.length_map]; omega), sc_gd (by omega)]
    have e : (z.1.map fun x => -1 / a * x).getD t 0 = -1 / a * z.1.getD t 0 := by rw [gd (by rw [List.length_map]; omega), gd (by omega), List.getElem_map]
    rw [e]
    grind
  · have l0 : (reQ ts (putP j (y.2.getD j 0) (solP j a z) y)).2.length = f := by show (List.map _ _).length = _; rw [List.length_map]; exact htl
    have l1 : (reQ ts z).2.length = f := by show (List.map _ _).length = _; rw [List.length_map]; exact htl
    have l2 : (scR (y.2.getD j 0 * (1 / a)) (reQ ts z).2).length = f := by unfold scR; rw [List.length_map]; exact l1
    have l3 : ((reQ ts (putP j (y.2.getD j 0) (solP j a z) y)).2.set k 0).length = f := by rw [List.length_set]; exact l0
    show addR ((reQ ts (putP j (y.2.getD j 0) (solP j a z) y)).2.set k 0) (scR (y.2.getD j 0 * (1 / a)) (reQ ts z).2) = (reQ ts y).2
    refine ext_gd (by rw [addR_len (by omega), l3]; show f = (List.map _ _).length; rw [List.length_map]; omega) fun t ht => ?_
    rw [addR_len (by omega), l3] at ht
    have htt : t < ts.length := by omega
    have hlt := hts ts[t] (List.getElem_mem htt)
    rw [add_gd (by omega) (by omega), set_gd (by omega), sc_gd (by omega), re_gd htt, re_gd htt, re_gd htt]
    by_cases e : t = k
    · subst e
      rw [if_pos rfl, hkj, ← ha]
      grind
    · have hne : ts[t] ≠ j := fun h => e ((List.getElem_inj hn).mp (h.trans hkj.symm))
      have h9 := hs ts[t] hlt
      rw [if_neg hne, if_neg hne] at h9
      unfold putQ at h9
      rw [if_neg e, h9]
      grind
theorem set_perm {ns : List Int} {j : Nat} (h : j < ns.length) (i : Int) : (ns.set j i).Perm (i :: ns.eraseIdx j) := by
  rw [List.set_eq_take_append_cons_drop, if_pos h, List.eraseIdx_eq_take_drop_succ]
  exact List.perm_middle
theorem at_perm {ns : List Int} {j : Nat} (h : j < ns.length) : (ns[j] :: ns.eraseIdx j).Perm ns := by
  have h1 := (set_perm h ns[j]).symm
  rw [List.set_getElem_self] at h1
  exact h1
theorem set_nd {ns : List Int} {j : Nat} {i z : Int} (hn : ns.Nodup) (hj : ns[j]? = some z) (hi : i ∉ ns) : (ns.set j i).Nodup := by
  obtain ⟨hl, _⟩ := List.getElem?_eq_some_iff.mp hj
  refine (set_perm hl i).nodup_iff.mpr (List.nodup_cons.mpr ⟨fun h => hi (List.mem_of_mem_eraseIdx h), ?_⟩)
  exact hn.sublist (List.eraseIdx_sublist ..)
theorem set_at {ns : List Int} {j : Nat} {i z : Int} (hj : ns[j]? = some z) : (ns.set j i)[j]? = some i := by
  obtain ⟨hl, _⟩ := List.getElem?_eq_some_iff.mp hj
  rw [List.getElem?_set_self hl]
theorem set_back {free fs : List Int} {j k : Nat} {i z : Int} (hj : free[j]? = some z) (hp : fs.Perm (free.set j i)) (hk : fs[k]? = some i) : (fs.set k z).Perm free := by
  obtain ⟨hl, e1⟩ := List.getElem?_eq_some_iff.mp hj
  obtain ⟨hl2, e2⟩ := List.getElem?_eq_some_iff.mp hk
  have h1 := set_perm hl i
  have h2 := at_perm hl2
  have h3 := at_perm hl
  rw [e2] at h2
  rw [e1] at h3
  have h4 : (fs.eraseIdx k).Perm (free.eraseIdx j) := (List.perm_cons i).mp ((h2.trans hp).trans h1)
  exact ((set_perm hl2 z).trans ((List.perm_cons z).mpr h4)).trans h3
theorem ts_len {lt fs : List Int} : (tsI lt fs).length = fs.length := by unfold tsI; rw [List.length_map]
theorem ts_at {lt fs : List Int} {q : Nat} (h : q < fs.length) : (tsI lt fs)[q]? = some (lt.idxOf fs[q]) := by
  unfold tsI
  rw [List.getElem?_map, List.getElem?_eq_getElem h]
  rfl
theorem ts_nd {lt fs : List Int} (hp : fs.Perm lt) (hn : fs.Nodup) : (tsI lt fs).Nodup := by
  have inj : ∀ x ∈ fs, ∀ y ∈ fs, lt.idxOf x = lt.idxOf y → x = y := fun x hx y hy e => by
    have h1 := idx_at (hp.mem_iff.mp hx)
    have h2 := idx_at (hp.mem_iff.mp hy)
    rw [e, h2] at h1
    exact (Option.some.inj h1).symm
  unfold tsI
  clear hp
  induction fs with
  | nil => exact List.nodup_nil
  | cons x r ih =>
    have ⟨k1, k2⟩ := List.nodup_cons.mp hn
    rw [List.map_cons, List.nodup_cons]
    refine ⟨fun h => ?_, ih k2 fun x hx y hy => inj x (List.mem_cons_of_mem _ hx) y (List.mem_cons_of_mem _ hy)⟩
    obtain ⟨y, hy, e⟩ := List.mem_map.mp h
    exact k1 (by rw [← inj y (List.mem_cons_of_mem _ hy) x List.mem_cons_self e]; exact hy)
theorem ts_k {lt fs : List Int} {k j : Nat} {i : Int} (hn : lt.Nodup) (hk : fs[k]? = some i) (hj : lt[j]? = some i) : (tsI lt fs)[k]? = some j := by
  obtain ⟨hl, e⟩ := List.getElem?_eq_some_iff.mp hk
  rw [ts_at hl, e, idx_nd hn hj]
/-- back in order -/
theorem re_back {f j k : Nat} {free fs : List Int} {i z : Int} {y : List Rat × List Rat} (hn : free.Nodup) (hi : i ∉ free) (hj : free[j]? = some z) (hp : fs.Perm (free.set j i)) (hk : fs[k]? = some i) (hf : free.length = f) (hy : y.2.length = f) :
    reQ (tsI (fs.set k z) free) (reQ (tsI (free.set j i) fs) y) = y := by
  have hnl := set_nd hn hj hi
  have hnf : fs.Nodup := hp.nodup_iff.mpr hnl
  have hb := set_back hj hp hk
  have hnb : (fs.set k z).Nodup := hb.nodup_iff.mpr hn
  have hfl : fs.length = f := by rw [hp.length_eq, List.length_set, hf]
  obtain ⟨hkl, hke⟩ := List.getElem?_eq_some_iff.mp hk
  obtain ⟨hjl, hje⟩ := List.getElem?_eq_some_iff.mp hj
  refine Prod.ext rfl ?_
  refine ext_gd (by show (List.map _ _).length = _; rw [List.length_map, ts_len, hf, hy]) fun q hq => ?_
  have hq : q < f := by
    have : (reQ (tsI (fs.set k z) free) (reQ (tsI (free.set j i) fs) y)).2.length = f := by show (List.map _ _).length = _; rw [List.length_map, ts_len, hf]
    omega
  have hqf : q < free.length := by omega
  rw [re_gd (by rw [ts_len]; exact hqf)]
  have e1 : (tsI (fs.set k z) free)[q]'(by rw [ts_len]; exact hqf) = (fs.set k z).idxOf free[q] := by
    have := ts_at (lt := fs.set k z) hqf
    exact (List.getElem?_eq_some_iff.mp this).2
  rw [e1]
  obtain ⟨p, hpd⟩ : ∃ p, p = (fs.set k z).idxOf free[q] := ⟨_, rfl⟩
  rw [← hpd]
  have hpa : (fs.set k z)[p]? = some free[q] := by rw [hpd]; exact idx_at (hb.mem_iff.mpr (List.getElem_mem hqf))
  obtain ⟨hpl, hpe⟩ := List.getElem?_eq_some_iff.mp hpa
  rw [List.length_set] at hpl
  rw [re_gd (by rw [ts_len]; exact hpl)]
  suffices h : (tsI (free.set j i) fs)[p]? = some q by rw [(List.getElem?_eq_some_iff.mp h).2]
  rw [List.getElem_set] at hpe
  by_cases h : k = p
  · rw [if_pos h] at hpe
    have hqj : j = q := (List.getElem_inj hn).mp (hje.trans hpe)
    rw [← h, ← hqj]
    exact ts_k hnl hk (set_at hj)
  · rw [if_neg h] at hpe
    have hqj : j ≠ q := fun e => by
      subst e
      have h1 : (fs.set k z)[k]? = some z := by rw [List.getElem?_set_self hkl]
      have h2 := idx_nd hnb h1
      rw [hje] at hpd
      exact h (h2.symm.trans hpd.symm)
    refine ts_k hnl (i := free[q]) (by rw [List.getElem?_eq_getElem hpl, hpe]) ?_
    rw [List.getElem?_set_ne hqj, List.getElem?_eq_getElem hqf]
theorem sw_back {own : List Int} {i z : Int} (hz : z ∉ own) : (own.map (swI i z)).map (swI z i) = own := by
  rw [List.map_map]
  refine (List.map_congr_left fun x hx => ?_).trans (List.map_id own)
  show swI z i (swI i z x) = x
  unfold swI
  by_cases h : x = i
  · rw [if_pos h, if_pos rfl, h]
  · rw [if_neg h, if_neg fun (e : x = z) => hz (by rw [← e]; exact hx)]
theorem zip_at {own : List Int} {rows : List (List Rat × List Rat)} {v : Nat} {x : Int} {y : List Rat × List Rat} (h1 : own[v]? = some x) (h2 : rows[v]? = some y) : (own.zip rows)[v]? = some (x, y) := by
  obtain ⟨l1, e1⟩ := List.getElem?_eq_some_iff.mp h1
  obtain ⟨l2, e2⟩ := List.getElem?_eq_some_iff.mp h2
  rw [List.getElem?_eq_getElem (by rw [List.length_zip]; omega), List.getElem_zip, e1, e2]
theorem rowsT_at {own : List Int} {rows : List (List Rat × List Rat)} {i x : Int} {j v : Nat} {o y : List Rat × List Rat} (h1 : own[v]? = some x) (h2 : rows[v]? = some y) : (rowsT own rows i j o)[v]? = some (if x = i then o else putQ j o y) := by
  unfold rowsT
  rw [List.getElem?_map, zip_at h1 h2]
  rfl
theorem rowsT_len {own : List Int} {rows : List (List Rat × List Rat)} {i : Int} {j : Nat} {o : List Rat × List Rat} (h : rows.length = own.length) : (rowsT own rows i j o).length = own.length := by
  unfold rowsT
  rw [List.length_map, List.length_zip]
  omega
theorem ext_at {α : Type} {xs ys : List α} (hl : xs.length = ys.length) (h : ∀ (v : Nat) (y : α), ys[v]? = some y → xs[v]? = some y) : xs = ys := List.ext_getElem hl fun v h1 h2 => by
  have := h v ys[v] (List.getElem?_eq_getElem h2)
  exact (List.getElem?_eq_some_iff.mp this).2
/-- what a table turned holds, and that it turns back to what it was -/
theorem back_all {N r : Nat} {own free fs : List Int} {rows goals : List (List Rat × List Rat)} {i z : Int} {w j k : Nat} {y : List Rat × List Rat} {a : Rat} (T : TbOk N r own free rows goals) (hw : own[w]? = some i) (hj : free[j]? = some z) (hy : rows[w]? = some y) (ha : y.2[j]? = some a) (h0 : a ≠ 0) (hp : fs.Perm (free.set j i)) (hk : fs[k]? = some i) :
    rowsT (own.map (swI i z)) ((rowsT own rows i j (solP j a y)).map (reQ (tsI (free.set j i) fs))) z k (solP k (1 / a) (reQ (tsI (free.set j i) fs) (solP j a y))) = rows.map (reQ (tsI (free.set j i) fs))
    ∧ ((goals.map (putQ j (solP j a y))).map (reQ (tsI (free.set j i) fs))).map (putQ k (solP k (1 / a) (reQ (tsI (free.set j i) fs) (solP j a y)))) = goals.map (reQ (tsI (free.set j i) fs)) := by
  have hndo := (List.nodup_append.mp T.nd).1
  have hndf := (List.nodup_append.mp T.nd).2.1
  have hdis := (List.nodup_append.mp T.nd).2.2
  have hif : i ∉ free := fun h => hdis i (List.mem_of_getElem? hw) i h rfl
  have hzo : z ∉ own := fun h => hdis z h z (List.mem_of_getElem? hj) rfl
  have hnl := set_nd hndf hj hif
  have hnf : fs.Nodup := hp.nodup_iff.mpr hnl
  have hjl : j < free.length := (List.getElem?_eq_some_iff.mp hj).1
  have hfl : fs.length = free.length := by rw [hp.length_eq, List.length_set]
  have hyk := T.rk y (List.mem_append_left _ (List.mem_of_getElem? hy))
  have hag : a = y.2.getD j 0 := by rw [List.getD_eq_getElem?_getD, ha] <;> rfl
  have hts : ∀ t ∈ tsI (free.set j i) fs, t < free.length := fun t ht => by
    have := ts_lt hp t ht
    rwa [List.length_set] at this
  have htl : (tsI (free.set j i) fs).length = free.length := by rw [ts_len, hfl]
  have htn := ts_nd hp hnf
  have htk := ts_k hnl hk (set_at hj)
  have hsol := sol_back hyk.2.1 hag h0 hts htn htk
  rw [hsol]
  have hput : ∀ x ∈ rows ++ goals, putQ k (reQ (tsI (free.set j i) fs) y) (reQ (tsI (free.set j i) fs) (putQ j (solP j a y) x)) = reQ (tsI (free.set j i) fs) x := fun x hx => by
    have hxk := T.rk x hx
    exact put_back hxk.1 hyk.1 hxk.2.1 hyk.2.1 hjl hag h0 hts htl htn htk
  refine ⟨ext_at (by rw [rowsT_len (by rw [List.length_map, List.length_map, rowsT_len T.lr]), List.length_map, List.length_map, T.lr]) fun v x hx => ?_, ?_⟩
  · rw [List.getElem?_map] at hx
    cases hv : rows[v]? with
    | none => rw [hv] at hx; cases hx
    | some x0 =>
      rw [hv] at hx
      cases hx
      have hvl : v < own.length := by rw [← T.lr]; exact (List.getElem?_eq_some_iff.mp hv).1
      have ho : own[v]? = some own[v] := List.getElem?_eq_getElem hvl
      have hm : x0 ∈ rows ++ goals := List.mem_append_left _ (List.mem_of_getElem? hv)
      rw [rowsT_at (x := swI i z own[v]) (y := reQ (tsI (free.set j i) fs) (if own[v] = i then solP j a y else putQ j (solP j a y) x0)) (by rw [List.getElem?_map, ho] <;> rfl) (by rw [List.getElem?_map, rowsT_at ho hv] <;> rfl)]
      congr 1
      unfold swI
      by_cases h : own[v] = i
      · rw [if_pos h, if_pos rfl]
        have hwv : w = v := (List.getElem_inj hndo).mp ((List.getElem?_eq_some_iff.mp hw).2.trans h.symm)
        rw [← hwv, hy] at hv
        cases hv
        rfl
      · rw [if_neg h, if_neg fun (e : own[v] = z) => hzo (by rw [← e]; exact List.getElem_mem hvl), if_neg h]
        exact hput x0 hm
  · rw [List.map_map, List.map_map]
    exact List.map_congr_left fun x hx => hput x (List.mem_append_right _ hx)
theorem tur_back {N r : Nat} {own free fs : List Int} {rows goals : List (List Rat × List Rat)} {i z : Int} {w j k : Nat} {y : List Rat × List Rat} {a : Rat} (T : TbOk N r own free rows goals) (hw : own[w]? = some i) (hj : free[j]? = some z) (hy : rows[w]? = some y) (ha : y.2[j]? = some a) (h0 : a ≠ 0) (hp : fs.Perm (free.set j i)) (hk : fs[k]? = some i) :
    turD (own.map (swI i z)) fs ((rowsT own rows i j (solP j a y)).map (reQ (tsI (free.set j i) fs))) ((goals.map (putQ j (solP j a y))).map (reQ (tsI (free.set j i) fs))) z i k (solP k (1 / a) (reQ (tsI (free.set j i) fs) (solP j a y))) free = tabD own free (.tup (rows.map rkP)) (.tup (goals.map rkP)) := by
  obtain ⟨b1, b2⟩ := back_all T hw hj hy ha h0 hp hk
  have hndf := (List.nodup_append.mp T.nd).2.1
  have hdis := (List.nodup_append.mp T.nd).2.2
  have hif : i ∉ free := fun h => hdis i (List.mem_of_getElem? hw) i h rfl
  have hzo : z ∉ own := fun h => hdis z h z (List.mem_of_getElem? hj) rfl
  have hre : ∀ xs : List (List Rat × List Rat), (∀ x ∈ xs, x ∈ rows ++ goals) → (xs.map (reQ (tsI (free.set j i) fs))).map (reQ (tsI (fs.set k z) free)) = xs := fun xs hx => by
    rw [List.map_map]
    refine (List.map_congr_left fun x h => ?_).trans (List.map_id xs)
    exact re_back hndf hif hj hp hk rfl (T.rk x (hx x h)).2.1
  unfold turD
  rw [b1, b2, sw_back hzo, hre rows fun x hx => List.mem_append_left _ hx, hre goals fun x hx => List.mem_append_right _ hx]
theorem mem_sw {own : List Int} {i z x : Int} (h : x ∈ own.map (swI i z)) : x = z ∨ (x ∈ own ∧ x ≠ i) := by
  obtain ⟨v, hv, rfl⟩ := List.mem_map.mp h
  unfold swI
  by_cases e : v = i
  · rw [if_pos e]; exact .inl rfl
  · rw [if_neg e]; exact .inr ⟨hv, e⟩
theorem sw_nd : ∀ {own : List Int} {i z : Int}, own.Nodup → z ∉ own → (own.map (swI i z)).Nodup
  | [], _, _, _, _ => List.nodup_nil
  | x :: r, i, z, h, hz => by
    have ⟨k1, k2⟩ := List.nodup_cons.mp h
    have hzr : z ∉ r := fun h => hz (List.mem_cons_of_mem _ h)
    rw [List.map_cons, List.nodup_cons]
    refine ⟨fun hm => ?_, sw_nd k2 hzr⟩
    obtain ⟨v, hv, e⟩ := List.mem_map.mp hm
    unfold swI at e
    by_cases e1 : v = i
    · rw [if_pos e1] at e
      by_cases e2 : x = i
      · exact k1 (by rw [e2, ← e1]; exact hv)
      · rw [if_neg e2] at e; exact hz (by rw [e]; exact List.mem_cons_self)
    · rw [if_neg e1] at e
      by_cases e2 : x = i
      · rw [if_pos e2] at e; exact hzr (by rw [← e]; exact hv)
      · rw [if_neg e2] at e; exact k1 (by rw [← e]; exact hv)
theorem re_rk {N r f : Nat} {y : List Rat × List Rat} {ts : List Nat} (h : RkN N r f y) (hl : ts.length = f) (ht : ∀ t ∈ ts, t < f) : RkN N r f (reQ ts y) := by
  refine ⟨h.1, by show (List.map _ _).length = _; rw [List.length_map]; exact hl, h.2.2.1, fun x hx => ?_⟩
  obtain ⟨t, htm, rfl⟩ := List.mem_map.mp hx
  have := ht t htm
  rw [gd (by rw [h.2.1]; exact this)]
  exact h.2.2.2 _ (List.getElem_mem _)
/-- a table turned is a table -/
theorem tb_turned {N r : Nat} {own free fs : List Int} {rows goals : List (List Rat × List Rat)} {i z : Int} {w j : Nat} {y : List Rat × List Rat} {a : Rat} (hN : 0 < N) (T : TbOk N r own free rows goals) (hw : own[w]? = some i) (hj : free[j]? = some z) (hy : rows[w]? = some y) (ha : y.2[j]? = some a) (h0 : a ≠ 0) (hp : fs.Perm (free.set j i)) (hs : fs.Pairwise (· ≤ ·)) :
    TbOk (4 * N + 2) r (own.map (swI i z)) fs ((rowsT own rows i j (solP j a y)).map (reQ (tsI (free.set j i) fs))) ((goals.map (putQ j (solP j a y))).map (reQ (tsI (free.set j i) fs))) := by
  have hndo := (List.nodup_append.mp T.nd).1
  have hndf := (List.nodup_append.mp T.nd).2.1
  have hdis := (List.nodup_append.mp T.nd).2.2
  have hio := List.mem_of_getElem? hw
  have hzf := List.mem_of_getElem? hj
  have hif : i ∉ free := fun h => hdis i hio i h rfl
  have hzo : z ∉ own := fun h => hdis z h z hzf rfl
  have hnl := set_nd hndf hj hif
  have hjl : j < free.length := (List.getElem?_eq_some_iff.mp hj).1
  have hfl : fs.length = free.length := by rw [hp.length_eq, List.length_set]
  have hyk := T.rk y (List.mem_append_left _ (List.mem_of_getElem? hy))
  have hok := hyk.sol (j := j) (hyk.2.2.2 a (List.mem_of_getElem? ha)) h0
  have htl : (tsI (free.set j i) fs).length = free.length := by rw [ts_len, hfl]
  have hts : ∀ t ∈ tsI (free.set j i) fs, t < free.length := fun t ht => by
    have := ts_lt hp t ht
    rwa [List.length_set] at this
  have hfm : ∀ x ∈ fs, x = i ∨ (x ∈ free ∧ x ≠ z) := fun x hx => by
    obtain ⟨q, hq⟩ := List.getElem?_of_mem (hp.mem_iff.mp hx)
    obtain ⟨hql, hqe⟩ := List.getElem?_eq_some_iff.mp hq
    rw [List.length_set] at hql
    rw [List.getElem_set] at hqe
    by_cases e : j = q
    · rw [if_pos e] at hqe; exact .inl hqe.symm
    · rw [if_neg e] at hqe
      refine .inr ⟨by rw [← hqe]; exact List.getElem_mem hql, fun h => e ?_⟩
      exact (List.getElem_inj hndf).mp ((List.getElem?_eq_some_iff.mp hj).2.trans (h.symm.trans hqe.symm))
  refine ⟨List.nodup_append.mpr ⟨sw_nd hndo hzo, hp.nodup_iff.mpr hnl, fun x hx x2 hx2 e => ?_⟩, fun x hx => ?_, hs, by rw [List.length_map, List.length_map, rowsT_len T.lr], by rw [List.length_map]; exact T.lo, by rw [hfl]; exact T.lf, by rw [List.length_map, List.length_map]; exact T.lg, T.hr, fun x hx => ?_⟩
  · subst e
    rcases mem_sw hx with h1 | ⟨h1, h2⟩ <;> rcases hfm x hx2 with h3 | ⟨h3, h4⟩
    · exact hzo (by rw [← h1, h3]; exact hio)
    · exact h4 h1
    · exact h2 h3
    · exact hdis x h1 x h3 rfl
  · rcases List.mem_append.mp hx with h | h
    · rcases mem_sw h with h1 | ⟨h1, _⟩
      · rw [h1]; exact T.ps z (List.mem_append_right _ hzf)
      · exact T.ps x (List.mem_append_left _ h1)
    · rcases hfm x h with h1 | ⟨h1, _⟩
      · rw [h1]; exact T.ps i (List.mem_append_left _ hio)
      · exact T.ps x (List.mem_append_right _ h1)
  · rw [hfl]
    rcases List.mem_append.mp hx with h | h
    · obtain ⟨x0, h1, rfl⟩ := List.mem_map.mp h
      exact re_rk (rowsT_rk hN hjl hok (fun y hy => T.rk y (List.mem_append_left _ hy)) x0 h1) htl hts
    · obtain ⟨x0, h1, rfl⟩ := List.mem_map.mp h
      exact re_rk (goalsT_rk hN hjl hok (fun y hy => T.rk y (List.mem_append_right _ hy)) x0 h1) htl hts
theorem ixN_nat {n w : Nat} (h : w < n) : ixN n (w : Int) = some w := by
  unfold ixN
  simp
  omega
/-- shares by the variables -/
def shF (free : List Int) (ss : List Rat) (v : Int) : Rat := ss.getD (free.idxOf v) 0
theorem zip_dK {free : List Int} {ss : List Rat} (hn : free.Nodup) (hl : ss.length = free.length) : fdD (mgK [] ((free.map fun v => (Sum.inl v : Key)).zip (ss.map nQ))) = dK free (shF free ss) := by
  have e : (free.map fun v => (Sum.inl v : Key)).zip (ss.map nQ) = free.map fun v => ((Sum.inl v : Key), nQ (shF free ss v)) := by
    refine List.ext_getElem (by rw [List.length_zip, List.length_map, List.length_map, List.length_map]; omega) fun k h1 h2 => ?_
    rw [List.length_map] at h2
    rw [List.getElem_zip, List.getElem_map, List.getElem_map, List.getElem_map]
    have : shF free ss free[k] = ss[k]'(by omega) := by
      unfold shF
      rw [idx_nd hn (List.getElem?_eq_getElem h2), gd (by omega)]
    rw [this]
  rw [e, mgK_nd _ [] (by
    rw [List.nil_append, List.map_map]
    exact List.Pairwise.map _ (fun a b hab e => hab (Sum.inl.inj e)) hn), List.nil_append]
  rfl
/-- what due tells of a reckoning -/
def dueR (free fs : List Int) (i z : Int) (yw y : List Rat × List Rat) : List Rat × List Rat := (addR y.1 (scR (shF free y.2 z) (yw.1.map fun x => -1 / shF free yw.2 z * x)), fs.map (putG free z (shF free y.2) (solG i z (shF free yw.2))))
def dueS (free fs : List Int) (i z : Int) (yw : List Rat × List Rat) : List Rat × List Rat := (yw.1.map fun x => -1 / shF free yw.2 z * x, fs.map (solG i z (shF free yw.2)))

def sp__law_due : Sp2 := sp3 fun x u v m Q => ∃ (own free : List Int) (rows goals : List (List Rat × List Rat)) (i z : Int) (w j r : Nat) (yw : List Rat × List Rat), x = grD own free rows goals ∧ u = .int i ∧ v = .int z ∧ TbOk 64 r own free rows goals ∧ own.length ≤ 6 ∧ free.length ≤ 6 ∧ goals.length ≤ 6 ∧ own[w]? = some i ∧ free[j]? = some z ∧ rows[w]? = some yw ∧ shF free yw.2 z ≠ 0 ∧ ∀ fs : List Int, fs.Perm (free.set j i) → fs.Pairwise (· ≤ ·) → Q (.tup [.tup ((own.map (swI i z)).map .int), .tup (fs.map .int), .tup (((rows.map (dueR free fs i z yw)).set w (dueS free fs i z yw)).map rkP), .tup ((goals.map (dueR free fs i z yw)).map rkP)]) m

theorem fn__law_due {P : Program} {w : World} {K : PySem.W.Frag} {mg : Str → Option Value} {base : Heap} {f : Addr} {fd : FuncData} (F : FunZ K "_law_due" "_law_due" s__law_due f fd) (D__law_solved : DefOk P w K mg base 3 "_law_solved" sp__law_solved) (D__law_put : DefOk P w K mg base 3 "_law_put" sp__law_put) (mg_sorted : mg "sorted" = none) (mg_tuple : mg "tuple" = none) (mg_dict : mg "dict" = none) (mg_zip : mg "zip" = none) (mg_len : mg "len" = none) : FnOk P w K mg base CX0 4 f fd ["_law_grid_here", "_law_own", "_law_free"] (lift K sp__law_due) := by
  refine fn3 (N := ["_law_grid_here", "_law_own", "_law_free", "_law_pairs", "_law_at", "_law_new", "_law_later", "_law_frees", "_law_made", "_law_owns", "_law_rest", "_law_shares", "_law_one"]) F sc__law_due rfl fun cdv A outer s H E hr => ⟨_, (qs_cons (setLc (i := 3) (own := [("_law_rest", 10), ("_law_shares", 11)]) rfl sc__law_due.nd rfl rfl (sw_true rfl rfl rfl (by decide +kernel)) (seqU (addTU (ixU (vU 0) q_int (fun _ _ => rfl)) (ixU (vU 0) q_int (fun _ _ => rfl)))) (blkOk_by (N := ["_law_grid_here", "_law_own", "_law_free", "_law_pairs", "_law_at", "_law_new", "_law_later", "_law_frees", "_law_made", "_law_owns", "_law_rest", "_law_shares", "_law_one"]) (sc := defScope s__law_due) (by decide +kernel)) (fun _ _ _ _ _ => (qgc_tup (n := 2) rfl (qgcs_cons (qgc_name (i := 10) sc__law_due.nd rfl (by first | exact Or.inl rfl | exact Or.inr rfl) (by decide)) (qgcs_cons (qgc_name (i := 11) sc__law_due.nd rfl (by first | exact Or.inl rfl | exact Or.inr rfl) (by decide)) qgcs_nil)))) (fun _ _ _ _ _ => qts_nil) (fun _ _ _ _ _ => (q_tup (qa_cons (vU 10) (qa_cons (dictZipU rfl (by rfl) mg_dict (by rfl) mg_zip (qa_cons (ixU (vU 0) q_int (fun _ _ => rfl)) (qa_cons (vU 11) qa_nil))) qa_nil)))))
    (qs_cons (qs_set (i := 4) sc__law_due.nd rfl (by first | exact Or.inl rfl | exact Or.inr rfl) (m_indexP (ixU (vU 0) q_int (fun _ _ => rfl)) (vU 1)))
    (qs_cons (qs_set (i := 5) sc__law_due.nd rfl (by first | exact Or.inl rfl | exact Or.inr rfl) (callU D__law_solved hr (by rfl) (qa_cons (ixU (ixU (vU 3) (vU 4) (fun _ _ => rfl)) q_int (fun _ _ => rfl)) (qa_cons (ixU (ixU (vU 3) (vU 4) (fun _ _ => rfl)) q_int (fun _ _ => rfl)) (qa_cons (vU 1) (qa_cons (vU 2) qa_nil))))))
    (qs_cons (setLcM (i := 6) (own := [("_law_rest", 10), ("_law_shares", 11)]) rfl sc__law_due.nd rfl rfl (sw_true rfl rfl rfl (by decide +kernel)) (seqU (vU 3)) (blkOk_by (N := ["_law_grid_here", "_law_own", "_law_free", "_law_pairs", "_law_at", "_law_new", "_law_later", "_law_frees", "_law_made", "_law_owns", "_law_rest", "_law_shares", "_law_one"]) (sc := defScope s__law_due) (by decide +kernel)) (fun _ _ _ _ _ => (qgc_tup (n := 2) rfl (qgcs_cons (qgc_name (i := 10) sc__law_due.nd rfl (by first | exact Or.inl rfl | exact Or.inr rfl) (by decide)) (qgcs_cons (qgc_name (i := 11) sc__law_due.nd rfl (by first | exact Or.inl rfl | exact Or.inr rfl) (by decide)) qgcs_nil)))) (fun _ _ _ _ _ => qts_nil) (fun _ _ _ _ _ => (callU D__law_put hr (by rfl) (qa_cons (vU 10) (qa_cons (vU 11) (qa_cons (vU 2) (qa_cons (vU 5) qa_nil)))))))
    (qs_cons (qs_asg (vU 5) (qg_subL (vU 6) (vU 4)))
    (qs_cons (qs_set (i := 7) sc__law_due.nd rfl (by first | exact Or.inl rfl | exact Or.inr rfl) (sortedIU (by rfl) mg_sorted (qa_cons (addU (q_lc (own := [("_law_one", 12)]) rfl sc__law_due.nd (seqU (ixU (vU 0) q_int (fun _ _ => rfl))) (blkOk_by (N := ["_law_grid_here", "_law_own", "_law_free", "_law_pairs", "_law_at", "_law_new", "_law_later", "_law_frees", "_law_made", "_law_owns", "_law_rest", "_law_shares", "_law_one"]) (sc := defScope s__law_due) (by decide +kernel)) (fun _ _ _ _ _ => (qgc_name (i := 12) sc__law_due.nd rfl (by first | exact Or.inl rfl | exact Or.inr rfl) (by decide))) (fun _ _ _ _ _ => (qts_one (tneU hr (vU 12) (vU 2)))) (fun _ _ _ _ _ => (vU 12))) (q_lst (qa_cons (vU 1) qa_nil))) qa_nil)))
    (qs_cons (qs_set (i := 8) sc__law_due.nd rfl (by first | exact Or.inl rfl | exact Or.inr rfl) (tupleU (by rfl) mg_tuple (qa_cons (q_lc (own := [("_law_rest", 10), ("_law_shares", 11)]) rfl sc__law_due.nd (seqU (vU 6)) (blkOk_by (N := ["_law_grid_here", "_law_own", "_law_free", "_law_pairs", "_law_at", "_law_new", "_law_later", "_law_frees", "_law_made", "_law_owns", "_law_rest", "_law_shares", "_law_one"]) (sc := defScope s__law_due) (by decide +kernel)) (fun _ _ _ _ _ => (qgc_tup (n := 2) rfl (qgcs_cons (qgc_name (i := 10) sc__law_due.nd rfl (by first | exact Or.inl rfl | exact Or.inr rfl) (by decide)) (qgcs_cons (qgc_name (i := 11) sc__law_due.nd rfl (by first | exact Or.inl rfl | exact Or.inr rfl) (by decide)) qgcs_nil)))) (fun _ _ _ _ _ => qts_nil) (fun _ _ _ _ _ => (q_tup (qa_cons (vU 10) (qa_cons (tupleU (by rfl) mg_tuple (qa_cons (q_lc (own := [("_law_one", 12)]) rfl sc__law_due.nd (seqU (vU 7)) (blkOk_by (by rfl)) (fun _ _ _ _ _ => (qgc_name (i := 12) sc__law_due.nd rfl (by first | exact Or.inl rfl | exact Or.inr rfl) (by decide))) (fun _ _ _ _ _ => qts_nil) (fun _ _ _ _ _ => (ixDU hr (vU 11) (vU 12) (fun _ _ => rfl)))) qa_nil)) qa_nil))))) qa_nil)))
    (qs_cons (qs_set (i := 9) sc__law_due.nd rfl (by first | exact Or.inl rfl | exact Or.inr rfl) (addTU (addTU (slU (ixU (vU 0) q_int (fun _ _ => rfl)) qo_none (poU (vU 4))) (q_tup (qa_cons (vU 2) qa_nil))) (slU (ixU (vU 0) q_int (fun _ _ => rfl)) (poU (addU (vU 4) q_int)) qo_none)))
    (qs_one (qs_ret (q_drop (q_tup (qa_cons (vU 9) (qa_cons (tupleU (by rfl) mg_tuple (qa_cons (vU 7) qa_nil)) (qa_cons (slU (vU 8) qo_none (poU (lenU (by rfl) mg_len (qa_cons (vU 9) qa_nil)))) (qa_cons (slU (vU 8) (poU (lenU (by rfl) mg_len (qa_cons (vU 9) qa_nil))) qo_none) qa_nil)))))))))))))))), ?_⟩
  rintro _ _ _ m Q ⟨own, free, rows, goals, i, z, w, j, r, yw, rfl, rfl, rfl, T, hol, hfl, hgl, hw, hj, hyw, h0, q⟩
  have hno := (List.nodup_append.mp T.nd).1
  have hnf := (List.nodup_append.mp T.nd).2.1
  refine ix_t rfl (d := .ptu (rows.map rkP)) rfl ?_
  refine ix_t rfl (d := .ptu (goals.map rkP)) rfl ?_
  have hrl := T.lr
  refine addT_of rfl rfl (by rw [List.length_map, List.length_map]; exact Nat.le_trans (by omega : _ ≤ 20) (szN 20)) ?_
  rw [← List.map_append]
  refine seqK_tup rfl ?_
  refine lc_mapA (rows ++ goals) rkP rfl (fun y => [some (grD own free rows goals), some (.int i), some (.int z), none, none, none, none, none, none, none, some (.tup (y.1.map nQ)), some (.tup (y.2.map nQ)), none]) (fun y => .tup [.tup (y.1.map nQ), dK free (shF free y.2)]) (Nat.le_trans (by rw [List.length_append]; omega : _ ≤ 20) (szN 20)) (fun _ _ => trivial) (fun y _ mm _ k hk => ⟨_, rfl, rfl, hk⟩) (fun y hy mm _ k hk => ?_) ?_
  · have hk2 := T.rk y hy
    refine ix_t rfl (d := .ptu (free.map .int)) rfl ?_
    refine dzip_of (ks := free.map fun v => (Sum.inl v : Key)) (ds := y.2.map nQ) (by show some (free.map D.int) = _; rw [List.map_map]; rfl) rfl (by rw [List.length_map, List.length_map]; exact hk2.2.1.symm) (by rw [List.length_map]; exact Nat.le_trans hfl (szN 6)) ?_
    rw [zip_dK hnf hk2.2.1]
    exact hk
  have hwl := (List.getElem?_eq_some_iff.mp hw).1
  have hzf := List.mem_of_getElem? hj
  have hif : i ∉ free := fun h => (List.nodup_append.mp T.nd).2.2 i (List.mem_of_getElem? hw) i h rfl
  have hywm : yw ∈ rows ++ goals := List.mem_append_left _ (List.mem_of_getElem? hyw)
  have szF : ∀ y ∈ rows ++ goals, ∀ v, Sz 64 (shF free y.2 v) := fun y hy v => by
    unfold shF
    rw [List.getD_eq_getElem?_getD]
    cases e : y.2[free.idxOf v]? with
    | none => exact Sz.zero (by decide)
    | some a => exact (T.rk y hy).2.2.2 a (List.mem_of_getElem? e)
  refine ix_t rfl (d := .ptu (own.map .int)) rfl ?_
  refine ⟨⟨_, rfl⟩, ?_⟩
  refine idxT_of rfl hw (fun k hk => idx_first k (by rw [idx_nd hno hw]; exact hk)) ?_
  have hp1 : atI ((rows ++ goals).map fun y => D.tup [.tup (y.1.map nQ), dK free (shF free y.2)]) (w : Int) = some (D.tup [.tup (yw.1.map nQ), dK free (shF free yw.2)]) := atI_nat (by rw [List.getElem?_map, List.getElem?_append_left (by omega), hyw]; rfl)
  refine ix_l rfl hp1 ?_
  refine ix_t rfl (d := .tup (yw.1.map nQ)) rfl ?_
  refine ix_l rfl hp1 ?_
  refine ix_t rfl (d := dK free (shF free yw.2)) rfl ?_
  have hyr := T.rk yw hywm
  have hr10 := T.hr
  refine ⟨yw.1, free, shF free yw.2, i, z, rfl, rfl, rfl, rfl, hzf, hif, hnf, by omega, by rw [hyr.1]; omega, h0, szF yw hywm, hyr.2.2.1, ?_⟩
  have hg2 : ∀ v, Sz 200 (solG i z (shF free yw.2) v) := fun v => by
    have hb : Sz 66 (-1 / shF free yw.2 z) := (Sz.share (n := 1) (k := 64) (Sz.neg1 (by decide)) (szF yw hywm z) h0).mono (by decide)
    unfold solG
    split
    · exact ((Sz.one (n := 1) (by decide)).share (szF yw hywm z) h0).mono (by decide)
    · exact (hb.times (szF yw hywm v)).mono (by decide)
  have hns : ∀ a ∈ yw.1.map fun x => -1 / shF free yw.2 z * x, Sz 200 a := fun a ha => by
    obtain ⟨x, hx, rfl⟩ := List.mem_map.mp ha
    have hb : Sz 66 (-1 / shF free yw.2 z) := (Sz.share (n := 1) (k := 64) (Sz.neg1 (by decide)) (szF yw hywm z) h0).mono (by decide)
    exact (hb.times (hyr.2.2.1 x hx)).mono (by decide)
  have hkn : (i :: free.filter fun v => decide (v ≠ z)).Nodup := List.nodup_cons.mpr ⟨fun h => hif (List.mem_filter.mp h).1, hnf.sublist (List.filter_sublist ..)⟩
  have hkl : (i :: free.filter fun v => decide (v ≠ z)).length ≤ 20 := by rw [List.length_cons]; have := List.length_filter_le (fun v => decide (v ≠ z)) free; omega
  have hrl2 : (rows ++ goals).length ≤ 20 := by rw [List.length_append]; omega
  refine seqK_lst rfl ?_
  refine lc_mapA (rows ++ goals) (fun y => D.tup [.tup (y.1.map nQ), dK free (shF free y.2)]) rfl (fun y => [some (grD own free rows goals), some (.int i), some (.int z), some (.lst ((rows ++ goals).map fun y => D.tup [.tup (y.1.map nQ), dK free (shF free y.2)])), some (.int w), some (.tup [.tup ((yw.1.map fun x => -1 / shF free yw.2 z * x).map nQ), dK (i :: free.filter fun v => decide (v ≠ z)) (solG i z (shF free yw.2))]), none, none, none, none, some (.tup (y.1.map nQ)), some (dK free (shF free y.2)), none]) (fun y => .tup [.tup ((addR y.1 (scR (shF free y.2 z) (yw.1.map fun x => -1 / shF free yw.2 z * x))).map nQ), dK (i :: free.filter fun v => decide (v ≠ z)) (putG free z (shF free y.2) (solG i z (shF free yw.2)))]) (Nat.le_trans hrl2 (szN 20)) (fun _ _ => rfl) (fun y _ mm _ k hk => ⟨_, rfl, rfl, hk⟩) (fun y hy mm _ k hk => ?_) ?_
  · have hk2 := T.rk y hy
    exact ⟨y.1, yw.1.map fun x => -1 / shF free yw.2 z * x, free, i :: free.filter fun v => decide (v ≠ z), shF free y.2, solG i z (shF free yw.2), z, rfl, rfl, rfl, rfl, hzf, hkn, hkl, by rw [hk2.1]; omega, szF y hy, hg2, hk2.2.2.1, hns, hk⟩
  refine fun l hl => ?_
  have hwr : w < (rows ++ goals).length := by rw [List.length_append]; omega
  refine ⟨l, _, w, w, rfl, rfl, upM_same, by rw [List.length_map]; exact ixN_nat hwr, ?_⟩
  rw [upM_again]
  let fI : List Rat × (Int → Rat) → D := fun p => .tup [.tup (p.1.map nQ), dK (i :: free.filter fun v => decide (v ≠ z)) p.2]
  let its : List (List Rat × (Int → Rat)) := ((rows ++ goals).map fun y => (addR y.1 (scR (shF free y.2 z) (yw.1.map fun x => -1 / shF free yw.2 z * x)), putG free z (shF free y.2) (solG i z (shF free yw.2)))).set w (yw.1.map fun x => -1 / shF free yw.2 z * x, solG i z (shF free yw.2))
  have eits : ((rows ++ goals).map fun y => D.tup [.tup ((addR y.1 (scR (shF free y.2 z) (yw.1.map fun x => -1 / shF free yw.2 z * x))).map nQ), dK (i :: free.filter fun v => decide (v ≠ z)) (putG free z (shF free y.2) (solG i z (shF free yw.2)))]).set w (.tup [.tup ((yw.1.map fun x => -1 / shF free yw.2 z * x).map nQ), dK (i :: free.filter fun v => decide (v ≠ z)) (solG i z (shF free yw.2))]) = its.map fI := by
    refine Eq.trans ?_ (List.map_set ..).symm
    congr 1
    refine Eq.symm ?_
    refine Eq.trans (List.map_map ..) ?_
    rfl
  rw [eits]
  have hitl : its.length = (rows ++ goals).length := by show (List.set _ _ _).length = _; rw [List.length_set, List.length_map]
  refine ix_t rfl (d := .ptu (free.map .int)) rfl ?_
  refine seqK_tup rfl ?_
  refine lc_genA free D.int rfl (fun v => [some (grD own free rows goals), some (.int i), some (.int z), some (.lst ((rows ++ goals).map fun y => D.tup [.tup (y.1.map nQ), dK free (shF free y.2)])), some (.int w), some (.tup [.tup ((yw.1.map fun x => -1 / shF free yw.2 z * x).map nQ), dK (i :: free.filter fun v => decide (v ≠ z)) (solG i z (shF free yw.2))]), some (.ref l), none, none, none, none, none, some (.int v)]) (fun v => decide (v ≠ z)) (fun v => .int v) (Nat.le_trans hfl (szN 6)) (fun _ _ => trivial) (fun v _ mm _ k hk => hk) (fun v hv mm hmm k hk => ?_) (fun v _ _ mm _ k hk => hk) ?_
  · refine neI ?_
    rw [decide_not] at hk
    exact hk
  refine ⟨Nat.le_trans (by rw [List.length_map]; have := List.length_filter_le (fun v => decide (v ≠ z)) free; show _ + 1 ≤ 10; omega) (szN 10), ?_⟩
  refine sortI_of ((free.filter fun v => decide (v ≠ z)) ++ [i]) (by rw [List.map_append]; rfl) fun fs hp0 hso => ?_
  have hpi : fs.Perm (i :: free.filter fun v => decide (v ≠ z)) := hp0.trans (List.perm_append_comm.trans (List.Perm.refl _))
  have hp : fs.Perm (free.set j i) := by
    refine hpi.trans ?_
    obtain ⟨hjl, ej⟩ := List.getElem?_eq_some_iff.mp hj
    refine List.Perm.trans ?_ (set_perm hjl i).symm
    refine List.Perm.cons _ ?_
    have h1 := at_perm hjl
    rw [ej] at h1
    have h2 : z ∉ free.eraseIdx j := fun h => (List.nodup_cons.mp (h1.nodup_iff.mpr hnf)).1 h
    have h3 := h1.filter (fun v => decide (v ≠ z))
    rw [List.filter_cons, if_neg (by simp)] at h3
    refine h3.symm.trans ?_
    rw [List.filter_eq_self.mpr fun v hv => decide_eq_true (show v ≠ z from fun e => h2 (by rw [← e]; exact hv))]
  have q := q fs hp hso
  have hfsl : fs.length ≤ 20 := by rw [hpi.length_eq]; exact hkl
  refine seqK_lst (congrArg lsD (res_at upM_same)) ?_
  refine lc_mapA its fI rfl (fun y => [some (grD own free rows goals), some (.int i), some (.int z), some (.lst ((rows ++ goals).map fun y => D.tup [.tup (y.1.map nQ), dK free (shF free y.2)])), some (.int w), some (.tup [.tup ((yw.1.map fun x => -1 / shF free yw.2 z * x).map nQ), dK (i :: free.filter fun v => decide (v ≠ z)) (solG i z (shF free yw.2))]), some (.ref l), some (.lst (fs.map .int)), none, none, some (.tup (y.1.map nQ)), some (dK (i :: free.filter fun v => decide (v ≠ z)) y.2), none]) (fun y => rkP (y.1, fs.map y.2)) (Nat.le_trans (by omega : _ ≤ 20) (szN 20)) (fun mm hmm => congrArg lsD (res_at (hmm.at upM_same))) (fun y _ mm _ k hk => ⟨_, rfl, rfl, hk⟩) (fun y hy mm _ k hk => ?_) ?_
  · refine seqK_lst rfl ?_
    refine lc_mapA fs D.int rfl (fun v => [some (grD own free rows goals), some (.int i), some (.int z), some (.lst ((rows ++ goals).map fun y => D.tup [.tup (y.1.map nQ), dK free (shF free y.2)])), some (.int w), some (.tup [.tup ((yw.1.map fun x => -1 / shF free yw.2 z * x).map nQ), dK (i :: free.filter fun v => decide (v ≠ z)) (solG i z (shF free yw.2))]), some (.ref l), some (.lst (fs.map .int)), none, none, some (.tup (y.1.map nQ)), some (dK (i :: free.filter fun v => decide (v ≠ z)) y.2), some (.int v)]) (fun v => nQ (y.2 v)) (Nat.le_trans hfsl (szN 20)) (fun _ _ => rfl) (fun v _ mm _ k hk => hk) (fun v hv mm _ k hk => ?_) ?_
    · exact ix_d res_fd (k := .inl v) rfl (by rw [gtK_dK, if_pos (hpi.mem_iff.mp hv)]) hk
    refine kTup_of rfl ?_
    have e : rkP (y.1, fs.map y.2) = .tup [.tup (y.1.map nQ), .tup (fs.map fun v => nQ (y.2 v))] := by
      show D.tup [.tup (y.1.map nQ), .tup ((fs.map y.2).map nQ)] = _
      rw [List.map_map]
      rfl
    rw [e] at hk
    exact hk
  refine kTup_of rfl ?_
  have eset : own.set w z = own.map (swI i z) := by
    refine List.ext_getElem (by rw [List.length_set, List.length_map]) fun k h1 h2 => ?_
    rw [List.length_set] at h1
    rw [List.getElem_set, List.getElem_map]
    unfold swI
    by_cases e : w = k
    · rw [if_pos e, if_pos (by subst e; exact (List.getElem?_eq_some_iff.mp hw).2)]
    · rw [if_neg e, if_neg fun k2 => e ((List.getElem_inj hno).mp ((List.getElem?_eq_some_iff.mp hw).2.trans k2.symm))]
  refine ix_t rfl (d := .ptu (own.map .int)) rfl ?_
  refine sl_t rfl ?_
  rw [cut_hi]
  refine addT_of rfl rfl (by rw [List.length_take, List.length_map]; exact Nat.le_trans (by show _ + 1 ≤ 20; omega) (szN 20)) ?_
  refine ix_t rfl (d := .ptu (own.map .int)) rfl ?_
  refine sl_t rfl ?_
  rw [show some ((w : Int) + 1) = some ((w + 1 : Nat) : Int) from rfl, cut_lo]
  refine addT_of rfl rfl (by rw [List.length_append, List.length_take, List.length_drop, List.length_map]; exact Nat.le_trans (by show _ + 1 + _ ≤ 30; omega) (szN 30)) ?_
  have eown : (own.map D.int).take w ++ [D.int z] ++ (own.map D.int).drop (w + 1) = (own.map (swI i z)).map .int := by
    rw [set_cut (by rw [List.length_map]; exact hwl), ← eset, List.map_set]
  rw [eown]
  refine kTup_of rfl ?_
  refine kLen_tup rfl ?_
  refine sl_t rfl ?_
  rw [List.length_map, List.length_map, cut_hi]
  refine kLen_tup rfl ?_
  refine sl_t rfl ?_
  rw [List.length_map, List.length_map, cut_lo]
  refine ⟨m, Sub.refl.up hl, ?_⟩
  have e1 : (its.map fun y => rkP (y.1, fs.map y.2)) = ((((rows ++ goals).map (dueR free fs i z yw)).set w (dueS free fs i z yw)).map rkP) := by
    rw [List.map_set, List.map_set, List.map_map, List.map_map]
    rfl
  have e2 : ((rows ++ goals).map (dueR free fs i z yw)).set w (dueS free fs i z yw) = (rows.map (dueR free fs i z yw)).set w (dueS free fs i z yw) ++ goals.map (dueR free fs i z yw) := by
    rw [List.map_append, List.set_append_left _ _ (by rw [List.length_map]; omega)]
  have e3 : ((rows.map (dueR free fs i z yw)).set w (dueS free fs i z yw)).length = own.length := by rw [List.length_set, List.length_map]; exact hrl
  have eA : ((its.map fun y => rkP (y.1, fs.map y.2)).take own.length) = (((rows.map (dueR free fs i z yw)).set w (dueS free fs i z yw)).map rkP) := by
    rw [e1, e2, ← List.map_take, List.take_left' e3]
  have eB : ((its.map fun y => rkP (y.1, fs.map y.2)).drop own.length) = ((goals.map (dueR free fs i z yw)).map rkP) := by
    rw [e1, e2, ← List.map_drop, List.drop_left' e3]
  rw [← eA, ← eB] at q
  exact q

abbrev s__law_refused : Stmt := topS 37

theorem sc__law_refused : FnScope ["_law_grid_here", "_law_own", "_law_free", "_law_caught", "e"] ["_law_grid_here", "_law_own", "_law_free"] (defScope s__law_refused) := ⟨rfl, rfl, rfl, by decide +kernel, rfl, by decide +kernel, by decide +kernel⟩

def sp__law_refused : Sp2 := sp3 fun x u v m Q => ∃ (own free : List Int) (rows goals : List (List Rat × List Rat)) (i z : Int) (w j r : Nat) (yw : List Rat × List Rat), x = grD own free rows goals ∧ u = .int i ∧ v = .int z ∧ TbOk 64 r own free rows goals ∧ own[w]? = some i ∧ free[j]? = some z ∧ rows[w]? = some yw ∧ yw.2[j]? = some 0 ∧ Q (.bl true) m

theorem fn__law_refused {P : Program} {w : World} {K : PySem.W.Frag} {mg : Str → Option Value} {base : Heap} {f : Addr} {fd : FuncData} (F : FunZ K "_law_refused" "_law_refused" s__law_refused f fd){Ce : Nat → Addr} (D_turned : DefOkX P w K mg base 6 "turned" (sp_turned Ce)) (mg_isinstance : mg "isinstance" = none) (mg_ValueError : mg "ValueError" = none) (g_WishError : mg "WishError" = some (.ref (Ce 0))) (g_NoTurn : mg "NoTurn" = some (.ref (Ce 2))) (g_NoTable : mg "NoTable" = some (.ref (Ce 3))) (e_NoTurn : ErrAt K mg Ce 4 2 "NoTurn") : FnOk P w K mg base CX0 7 f fd ["_law_grid_here", "_law_own", "_law_free"] (lift K sp__law_refused) := by
  refine fn3 (N := ["_law_grid_here", "_law_own", "_law_free", "_law_caught", "e"]) F sc__law_refused rfl fun cdv A outer s H E hr => ⟨_, (qs_cons (qs_set (i := 3) sc__law_refused.nd rfl (by first | exact Or.inl rfl | exact Or.inr rfl) q_non)
    (qs_cons (tryU (i := 4) rfl rfl rfl sc__law_refused.nd rfl rfl ⟨by rfl, by decide, .inl g_WishError⟩ tk_no (fun _ _ _ _ tk1 hp1 => (qs_one (qs_expr (callX tk1 D_turned hr (by rfl) (qa_cons (vU 0) (qa_cons (vU 1) (qa_cons (vU 2) qa_nil))))))) (fun _ _ => (qs_one (qs_set (i := 3) sc__law_refused.nd rfl (by first | exact Or.inl rfl | exact Or.inr rfl) (vU 4)))))
    (qs_one (qs_ret (andV (isiX (by rfl) mg_isinstance (qa_cons (vU 3) (qa_cons (clU g_NoTurn (by rfl)) qa_nil))) (andV (isiX (by rfl) mg_isinstance (qa_cons (vU 3) (qa_cons (tyU (by rfl) mg_ValueError bt_ValueError) qa_nil))) (q_one (notV (isiX (by rfl) mg_isinstance (qa_cons (vU 3) (qa_cons (clU g_NoTable (by rfl)) qa_nil))))))))))), ?_⟩
  rintro _ _ _ m Q ⟨own, free, rows, goals, i, z, w, j, r, yw, rfl, rfl, rfl, T, hw, hj, hyw, h0, q⟩
  have hno := (List.nodup_append.mp T.nd).1
  have hnf := (List.nodup_append.mp T.nd).2.1
  have pl : ∀ i ∈ own ++ free, Pln (.int i) := fun i hi => .int (Nat.lt_of_lt_of_le (by have := T.ps i hi; omega : i.natAbs < 2 ^ 60) (Nat.pow_le_pow_right (by decide) (by decide)))
  have uni : ∀ (i' z' : Int) (w' j' : Nat) (y : List Rat × List Rat) (a : Rat), D.int i = .int i' → D.int z = .int z' → own[w']? = some i' → free[j']? = some z' → rows[w']? = some y → y.2[j']? = some a → a = 0 := fun i' z' w' j' y a e1 e2 h3 h4 h5 h6 => by
    cases e1
    cases e2
    have ew : w' = w := (idx_nd hno h3).symm.trans (idx_nd hno hw)
    have ej : j' = j := (idx_nd hnf h4).symm.trans (idx_nd hnf hj)
    subst ew ej
    rw [hyw] at h5
    cases h5
    rw [h0] at h6
    exact (Option.some.inj h6).symm
  refine ⟨own, free, .ptu (rows.map rkP), .ptu (goals.map rkP), rows, goals, 64, r, rfl, fun _ => rfl, fun _ => rfl, T, by decide, by decide, pl i (List.mem_append_left _ (List.mem_of_getElem? hw)), pl z (List.mem_append_right _ (List.mem_of_getElem? hj)), fun i' z' w' j' y a h1 h2 h3 h4 h5 h6 h7 _ _ _ => absurd (uni i' z' w' j' y a h1 h2 h3 h4 h5 h6) h7, fun _ => ?_⟩
  refine ⟨Ce iNoTurn, true, rfl, e_NoTurn.ex0, brt ?_⟩
  refine isiX_of rfl rfl e_NoTurn.ec (e_NoTurn.kit _ (by decide)) ?_
  refine brT rfl ?_
  refine isiX_of rfl rfl e_NoTurn.ec e_NoTurn.ve ?_
  refine brT rfl ?_
  refine isiX_of rfl rfl e_NoTurn.ec (e_NoTurn.kit _ (by decide)) ?_
  exact q

abbrev s__law_right : Stmt := topS 38

theorem sc__law_right : FnScope ["_law_grid_here", "_law_own", "_law_at", "_law_free", "_law_found"] ["_law_grid_here", "_law_own", "_law_at"] (defScope s__law_right) := ⟨rfl, rfl, rfl, by decide +kernel, rfl, by decide +kernel, by decide +kernel⟩

theorem pl_map {α : Type} {f : α → D} (as : List α) (h : ∀ a, plD (f a) = true) : plDs (as.map f) = true := by
  rw [plDs_iff]
  intro d hd
  obtain ⟨a, _, rfl⟩ := List.mem_map.mp hd
  exact h a
theorem ok_map {α : Type} {f : α → D} {n : Nat} (as : List α) (h : ∀ a, okD n (f a) = true) : okDs n (as.map f) = true := okDs_of fun d hd => by
  obtain ⟨a, _, rfl⟩ := List.mem_map.mp hd
  exact h a
theorem neE {x : D} {m : M} {Q : Kd} {ds : List D} (e : res m x = .tup ds) (pl : plDs ds = true) (ok : okDs 59 ds = true) (h1 : ds = [] → Q (.bl false) m) (h2 : ds ≠ [] → Q (.bl true) m) : oNe x (.tup []) m Q :=
  ne_pl (v := .tup ds) (w := .tup []) e rfl pl rfl ok rfl (fun h => h1 (by cases h; rfl)) fun h => h2 fun k => h (by rw [k])
theorem map_pos {α β : Type} {f : α → β} {xs : List α} (h : xs.map f ≠ []) : 0 < xs.length := by
  cases xs with
  | nil => exact absurd rfl h
  | cons _ _ => exact Nat.zero_lt_succ _
theorem pln_ints {ns : List Int} (h : ∀ i ∈ ns, 0 ≤ i ∧ i < 10 ^ 14) : ∀ d ∈ ns.map D.int, Pln d := fun d hd => by
  obtain ⟨i, hi, rfl⟩ := List.mem_map.mp hd
  have := h i hi
  exact .int (Nat.lt_of_lt_of_le (by omega : i.natAbs < 2 ^ 60) (Nat.pow_le_pow_right (by decide) (by decide)))
/-- the same, told plainly -/
def tabP (own free : List Int) (R G : List (List Rat × List Rat)) : D := .tup [.tup (own.map .int), .tup (free.map .int), .tup (R.map rkP), .tup (G.map rkP)]
theorem tab_py (own free : List Int) (R G : List (List Rat × List Rat)) : py (tabD own free (.tup (R.map rkP)) (.tup (G.map rkP))) = py (tabP own free R G) := by
  unfold tabD tabP
  simp only [py, pys]
theorem pl_rk (y : List Rat × List Rat) : plD (rkP y) = true := by
  show plDs [.tup (y.1.map nQ), .tup (y.2.map nQ)] = true
  rw [plDs_iff]
  exact fun d hd => (List.mem_cons.mp hd).elim (fun e => by rw [e]; exact pl_map y.1 fun _ => rfl) fun hd => by rw [List.mem_singleton.mp hd]; exact pl_map y.2 fun _ => rfl
theorem ok_rk (y : List Rat × List Rat) : okD 58 (rkP y) = true := by
  show okDs 57 [.tup (y.1.map nQ), .tup (y.2.map nQ)] = true
  exact okDs_of (fa_cons (show okDs 56 _ = true from ok_map y.1 fun _ => rfl) (fa_cons (show okDs 56 _ = true from ok_map y.2 fun _ => rfl) fa_nil))
theorem tab_pl (own free : List Int) (R G : List (List Rat × List Rat)) : plD (tabP own free R G) = true := by
  show plDs [.tup (own.map .int), .tup (free.map .int), .tup (R.map rkP), .tup (G.map rkP)] = true
  rw [plDs_iff]
  exact fa_cons (pl_map own fun _ => rfl) (fa_cons (pl_map free fun _ => rfl) (fa_cons (pl_map R pl_rk) (fa_cons (pl_map G pl_rk) fa_nil)))
theorem tab_ok (own free : List Int) (R G : List (List Rat × List Rat)) : okD 60 (tabD own free (.tup (R.map rkP)) (.tup (G.map rkP))) = true := by
  show okDs 59 [.ptu (own.map .int), .ptu (free.map .int), .tup (R.map rkP), .tup (G.map rkP)] = true
  exact okDs_of (fa_cons (show okDs 58 _ = true from ok_map own fun _ => rfl) (fa_cons (show okDs 58 _ = true from ok_map free fun _ => rfl) (fa_cons (show okDs 58 _ = true from ok_map R ok_rk) (fa_cons (show okDs 58 _ = true from ok_map G ok_rk) fa_nil))))
theorem gr_py (own free : List Int) (R G : List (List Rat × List Rat)) : py (grD own free R G) = py (tabP own free R G) := by
  unfold grD tabP
  simp only [py, pys]
theorem gr_ok (own free : List Int) (R G : List (List Rat × List Rat)) : okD 60 (grD own free R G) = true := by
  show okDs 59 [.ptu (own.map .int), .ptu (free.map .int), .ptu (R.map rkP), .ptu (G.map rkP)] = true
  exact okDs_of (fa_cons (show okDs 58 _ = true from ok_map own fun _ => rfl) (fa_cons (show okDs 58 _ = true from ok_map free fun _ => rfl) (fa_cons (show okDs 58 _ = true from ok_map R ok_rk) (fa_cons (show okDs 58 _ = true from ok_map G ok_rk) fa_nil))))
theorem tp_ok (own free : List Int) (R G : List (List Rat × List Rat)) : okD 60 (tabP own free R G) = true := by
  show okDs 59 [.tup (own.map .int), .tup (free.map .int), .tup (R.map rkP), .tup (G.map rkP)] = true
  exact okDs_of (fa_cons (show okDs 58 _ = true from ok_map own fun _ => rfl) (fa_cons (show okDs 58 _ = true from ok_map free fun _ => rfl) (fa_cons (show okDs 58 _ = true from ok_map R ok_rk) (fa_cons (show okDs 58 _ = true from ok_map G ok_rk) fa_nil))))
theorem eqD_tab {x y : D} {own free : List Int} {R G : List (List Rat × List Rat)} (h1 : py x = py (tabP own free R G)) (h2 : py y = py (tabP own free R G)) : eqD x y = true := by
  show PyData.eqv (py x) (py y) = true
  rw [h1, h2]
  exact eqD_same (tab_pl own free R G)
/-! ### what due tells is the table turned -/
theorem t_idx {free fs : List Int} {j : Nat} {i z : Int} (hn : free.Nodup) (hi : i ∉ free) (hj : free[j]? = some z) (hp : fs.Perm (free.set j i)) {v : Int} (hv : v ∈ fs) : (v = i ∧ (free.set j i).idxOf v = j) ∨ (v ≠ i ∧ v ∈ free ∧ free.idxOf v ≠ j ∧ (free.set j i).idxOf v = free.idxOf v) := by
  have hnl := set_nd hn hj hi
  by_cases e : v = i
  · subst e
    exact .inl ⟨rfl, idx_nd hnl (set_at hj)⟩
  · refine .inr ⟨e, ?_⟩
    have hm := hp.mem_iff.mp hv
    have hvf : v ∈ free := (List.mem_or_eq_of_mem_set hm).resolve_right e
    have h1 := idx_at hvf
    have hne : free.idxOf v ≠ j := fun k => by
      obtain ⟨q, hq⟩ := List.getElem?_of_mem hm
      by_cases ej : j = q
      · subst ej
        rw [set_at hj] at hq
        exact e (Option.some.inj hq).symm
      · rw [List.getElem?_set_ne ej] at hq
        have h2 := idx_nd hn hq
        omega
    exact ⟨hvf, hne, idx_nd hnl (by rw [List.getElem?_set_ne (Ne.symm hne)]; exact h1)⟩
theorem due_put {f j : Nat} {free fs : List Int} {i z : Int} {yw y : List Rat × List Rat} (hn : free.Nodup) (hi : i ∉ free) (hj : free[j]? = some z) (hp : fs.Perm (free.set j i)) (hf : free.length = f) (hy : y.2.length = f) (hw : yw.2.length = f) :
    reQ (tsI (free.set j i) fs) (putQ j (solP j (shF free yw.2 z) yw) y) = dueR free fs i z yw y := by
  have hjl : j < free.length := (List.getElem?_eq_some_iff.mp hj).1
  have ez : free.idxOf z = j := idx_nd hn hj
  have eb : y.2.getD j 0 = shF free y.2 z := by unfold shF; rw [ez]
  unfold reQ putQ putP dueR
  rw [eb]
  refine Prod.ext rfl ?_
  show (tsI (free.set j i) fs).map _ = fs.map _
  unfold tsI
  rw [List.map_map]
  refine List.map_congr_left fun v hv => ?_
  show (addR (y.2.set j 0) (scR (shF free y.2 z) (solP j (shF free yw.2 z) yw).2)).getD ((free.set j i).idxOf v) 0 = _
  have hl1 : (y.2.set j 0).length = f := by rw [List.length_set]; exact hy
  have hl3 : (solP j (shF free yw.2 z) yw).2.length = f := by show (List.set _ _ _).length = _; rw [List.length_set, List.length_map]; exact hw
  have hl2 : (scR (shF free y.2 z) (solP j (shF free yw.2 z) yw).2).length = f := by unfold scR; rw [List.length_map]; exact hl3
  rcases t_idx hn hi hj hp hv with ⟨rfl, et⟩ | ⟨hvi, hvf, hne, et⟩
  · rw [et, add_gd (by omega) (by omega), set_gd (by omega), sc_gd (by omega), sol_gd (by omega), if_pos rfl, if_pos rfl]
    unfold putG solG
    rw [if_neg hi, if_pos rfl]
  · have htl : free.idxOf v < f := by rw [← hf]; exact List.idxOf_lt_length_of_mem hvf
    rw [et, add_gd (by omega) (by omega), set_gd (by omega), sc_gd (by omega), sol_gd (by omega), if_neg hne, if_neg hne]
    unfold putG solG
    rw [if_pos hvf, if_neg hvi]
    rfl
theorem due_sol {f j : Nat} {free fs : List Int} {i z : Int} {yw : List Rat × List Rat} (hn : free.Nodup) (hi : i ∉ free) (hj : free[j]? = some z) (hp : fs.Perm (free.set j i)) (hf : free.length = f) (hw : yw.2.length = f) :
    reQ (tsI (free.set j i) fs) (solP j (shF free yw.2 z) yw) = dueS free fs i z yw := by
  have hjl : j < free.length := (List.getElem?_eq_some_iff.mp hj).1
  unfold reQ dueS
  refine Prod.ext rfl ?_
  show (tsI (free.set j i) fs).map _ = fs.map _
  unfold tsI
  rw [List.map_map]
  refine List.map_congr_left fun v hv => ?_
  show (solP j (shF free yw.2 z) yw).2.getD ((free.set j i).idxOf v) 0 = _
  rcases t_idx hn hi hj hp hv with ⟨rfl, et⟩ | ⟨hvi, hvf, hne, et⟩
  · rw [et, sol_gd (by omega), if_pos rfl]
    unfold solG
    rw [if_pos rfl]
  · have htl : free.idxOf v < f := by rw [← hf]; exact List.idxOf_lt_length_of_mem hvf
    rw [et, sol_gd (by omega), if_neg hne]
    unfold solG
    rw [if_neg hvi]
    rfl
theorem due_all {N r j w : Nat} {own free fs : List Int} {rows goals : List (List Rat × List Rat)} {i z : Int} {yw : List Rat × List Rat} (T : TbOk N r own free rows goals) (hw : own[w]? = some i) (hj : free[j]? = some z) (hyw : rows[w]? = some yw) (hp : fs.Perm (free.set j i)) :
    (rowsT own rows i j (solP j (shF free yw.2 z) yw)).map (reQ (tsI (free.set j i) fs)) = (rows.map (dueR free fs i z yw)).set w (dueS free fs i z yw) ∧ (goals.map (putQ j (solP j (shF free yw.2 z) yw))).map (reQ (tsI (free.set j i) fs)) = goals.map (dueR free fs i z yw) := by
  have hno := (List.nodup_append.mp T.nd).1
  have hnf := (List.nodup_append.mp T.nd).2.1
  have hif : i ∉ free := fun h => (List.nodup_append.mp T.nd).2.2 i (List.mem_of_getElem? hw) i h rfl
  have hwk := T.rk yw (List.mem_append_left _ (List.mem_of_getElem? hyw))
  refine ⟨?_, ?_⟩
  · refine ext_at (by rw [List.length_map, rowsT_len T.lr, List.length_set, List.length_map, T.lr]) fun v y hy => ?_
    rw [List.getElem?_set] at hy
    have hvl : v < rows.length := by
      split at hy
      · split at hy
        · rename_i h1 h2; rw [List.length_map] at h2; omega
        · cases hy
      · have := (List.getElem?_eq_some_iff.mp hy).1; rwa [List.length_map] at this
    have hvo : v < own.length := by rw [← T.lr]; exact hvl
    rw [List.getElem?_map, rowsT_at (List.getElem?_eq_getElem hvo) (List.getElem?_eq_getElem hvl)]
    by_cases e : w = v
    · subst e
      rw [if_pos rfl, List.length_map, if_pos hvl] at hy
      cases hy
      rw [if_pos (List.getElem?_eq_some_iff.mp hw).2]
      exact congrArg some (due_sol hnf hif hj hp rfl hwk.2.1)
    · rw [if_neg e, List.getElem?_map, List.getElem?_eq_getElem hvl] at hy
      cases hy
      rw [if_neg fun k => e ((List.getElem_inj hno).mp ((List.getElem?_eq_some_iff.mp hw).2.trans k.symm))]
      exact congrArg some (due_put hnf hif hj hp rfl (T.rk _ (List.mem_append_left _ (List.getElem_mem _))).2.1 hwk.2.1)
  · rw [List.map_map]
    exact List.map_congr_left fun y hy => due_put hnf hif hj hp rfl (T.rk y (List.mem_append_right _ hy)).2.1 hwk.2.1

def sp__law_right : Sp2 := sp3 fun x u v m Q => ∃ (own free : List Int) (rows goals : List (List Rat × List Rat)) (i : Int) (w j r : Nat), x = grD own free rows goals ∧ u = .int i ∧ v = .int j ∧ TbOk 64 r own free rows goals ∧ own.length ≤ 6 ∧ free.length ≤ 6 ∧ goals.length ≤ 6 ∧ own[w]? = some i ∧ j < free.length ∧ Q (.bl true) m

theorem fn__law_right {P : Program} {w : World} {K : PySem.W.Frag} {mg : Str → Option Value} {base : Heap} {f : Addr} {fd : FuncData} (F : FunZ K "_law_right" "_law_right" s__law_right f fd){Ce : Nat → Addr} (D_turned : DefOkX P w K mg base 6 "turned" (sp_turned Ce)) (D__law_refused : DefOk P w K mg base 7 "_law_refused" sp__law_refused) (D__law_due : DefOk P w K mg base 4 "_law_due" sp__law_due) (mg_isinstance : mg "isinstance" = none) (mg_tuple : mg "tuple" = none) : FnOk P w K mg base CX0 8 f fd ["_law_grid_here", "_law_own", "_law_at"] (lift K sp__law_right) := by
  refine fn3 (N := ["_law_grid_here", "_law_own", "_law_at", "_law_free", "_law_found"]) F sc__law_right rfl fun cdv A outer s H E hr => ⟨_, (qs_cons (qs_set (i := 3) sc__law_right.nd rfl (by first | exact Or.inl rfl | exact Or.inr rfl) (ixU (ixU (vU 0) q_int (fun _ _ => rfl)) (vU 2) (fun _ _ => rfl)))
    (qs_cons (ifS (teqU hr (ixU (ixU (ixU (ixU (vU 0) q_int (fun _ _ => rfl)) (m_indexP (ixU (vU 0) q_int (fun _ _ => rfl)) (vU 1)) (fun _ _ => rfl)) q_int (fun _ _ => rfl)) (vU 2) (fun _ _ => rfl)) (q_tup (qa_cons q_int (qa_cons q_int qa_nil)))) (qs_one (qs_ret (callU D__law_refused hr (by rfl) (qa_cons (vU 0) (qa_cons (vU 1) (qa_cons (vU 3) qa_nil)))))) qs_nil)
    (qs_cons (qs_set (i := 4) sc__law_right.nd rfl (by first | exact Or.inl rfl | exact Or.inr rfl) (callXn D_turned hr (by rfl) (qa_cons (vU 0) (qa_cons (vU 1) (qa_cons (vU 3) qa_nil)))))
    (qs_cons (ifS (PW2.pt (orW (qt_not (testV (isiB .tup (by decide) (by rfl) mg_isinstance (vU 4) (tyU (by rfl) mg_tuple bt_tuple)))) (orW (tneU hr (vU 4) (callU D__law_due hr (by rfl) (qa_cons (vU 0) (qa_cons (vU 1) (qa_cons (vU 3) qa_nil))))) (qw_or1 (tneU hr (callXn D_turned hr (by rfl) (qa_cons (vU 0) (qa_cons (vU 1) (qa_cons (vU 3) qa_nil)))) (vU 4)))))) (qs_one (qs_ret q_bl)) qs_nil)
    (qs_one (qs_ret (q_eq hr (callXn D_turned hr (by rfl) (qa_cons (vU 4) (qa_cons (vU 3) (qa_cons (vU 1) qa_nil)))) (vU 0)))))))), ?_⟩
  rintro _ _ _ m Q ⟨own, free, rows, goals, i, w, j, r, rfl, rfl, rfl, T, hol, hfl, hgl, hw, hjl, q⟩
  have hno := (List.nodup_append.mp T.nd).1
  have hnf := (List.nodup_append.mp T.nd).2.1
  have hlr := T.lr
  have hwl := (List.getElem?_eq_some_iff.mp hw).1
  obtain ⟨z, hj⟩ : ∃ z, free[j]? = some z := ⟨_, List.getElem?_eq_getElem hjl⟩
  obtain ⟨yw, hyw⟩ : ∃ y, rows[w]? = some y := ⟨_, List.getElem?_eq_getElem (by omega : w < rows.length)⟩
  have hwk := T.rk yw (List.mem_append_left _ (List.mem_of_getElem? hyw))
  obtain ⟨a, ha⟩ : ∃ a, yw.2[j]? = some a := ⟨_, List.getElem?_eq_getElem (by rw [hwk.2.1]; exact hjl)⟩
  have pl : ∀ i ∈ own ++ free, Pln (.int i) := fun i hi => .int (Nat.lt_of_lt_of_le (by have := T.ps i hi; omega : i.natAbs < 2 ^ 60) (Nat.pow_le_pow_right (by decide) (by decide)))
  have pi := pl i (List.mem_append_left _ (List.mem_of_getElem? hw))
  have pz := pl z (List.mem_append_right _ (List.mem_of_getElem? hj))
  refine ix_t rfl (d := .ptu (free.map .int)) rfl ?_
  refine ix_t rfl (d := .int z) (atI_nat (by rw [List.getElem?_map, hj]; rfl)) ?_
  refine ix_t rfl (d := .ptu (rows.map rkP)) rfl ?_
  refine ix_t rfl (d := .ptu (own.map .int)) rfl ?_
  refine ⟨⟨_, rfl⟩, ?_⟩
  refine idxT_of rfl hw (fun k hk => idx_first k (by rw [idx_nd hno hw]; exact hk)) ?_
  refine ix_t rfl (d := rkP yw) (atI_nat (by rw [List.getElem?_map, hyw]; rfl)) ?_
  refine ix_t rfl (d := .tup (yw.2.map nQ)) rfl ?_
  refine ix_t rfl (q_at ha) ?_
  have e0 : D.tup [.int 0, .int 1] = nQ 0 := nQ_zero.symm
  refine eq_pl (v := nQ a) (w := .tup [.int 0, .int 1]) rfl rfl rfl rfl rfl rfl (fun e => ?_) (fun e => ?_)
  · have e := nQ_inj (e.trans e0)
    subst e
    refine brT rfl ?_
    exact ⟨own, free, rows, goals, i, z, w, j, r, yw, rfl, rfl, rfl, T, hw, hj, hyw, ha, q⟩
  have ha0 : a ≠ 0 := fun k => e (by rw [k]; exact e0.symm)
  refine brF rfl ?_
  have eaz : a = shF free yw.2 z := by
    unfold shF
    rw [idx_nd hnf hj, List.getD_eq_getElem?_getD, ha]
    rfl
  have uni : ∀ {i' z' : Int} {w' j' : Nat} {y : List Rat × List Rat} {a' : Rat}, D.int i = .int i' → D.int z = .int z' → own[w']? = some i' → free[j']? = some z' → rows[w']? = some y → y.2[j']? = some a' → i' = i ∧ z' = z ∧ j' = j ∧ y = yw ∧ a' = a := fun {i' z' w' j' y a'} e1 e2 h3 h4 h5 h6 => by
    cases e1
    cases e2
    have ew : w' = w := (idx_nd hno h3).symm.trans (idx_nd hno hw)
    have ej : j' = j := (idx_nd hnf h4).symm.trans (idx_nd hnf hj)
    subst ew ej
    rw [hyw] at h5
    cases h5
    rw [ha] at h6
    exact ⟨rfl, rfl, rfl, rfl, (Option.some.inj h6).symm⟩
  refine ⟨own, free, .ptu (rows.map rkP), .ptu (goals.map rkP), rows, goals, 64, r, rfl, fun _ => rfl, fun _ => rfl, T, by decide, by decide, pi, pz, fun i' z' w' j' y a' h1 h2 h3 h4 h5 h6 h7 fs hp hs => ?_, fun h => absurd (h i z w j yw a rfl rfl hw hj hyw ha) ha0⟩
  obtain ⟨rfl, rfl, rfl, rfl, rfl⟩ := uni h1 h2 h3 h4 h5 h6
  clear h1 h2 h3 h4 h5 h6 h7
  obtain ⟨d1, d2⟩ := due_all T hw hj hyw hp
  rw [← eaz] at d1 d2
  have epy : py (turD own free rows goals i' z' j' (solP j' a' y) fs) = py (tabP (own.map (swI i' z')) fs ((rows.map (dueR free fs i' z' y)).set w (dueS free fs i' z' y)) (goals.map (dueR free fs i' z' y))) := by
    unfold turD
    rw [d1, d2]
    exact tab_py _ _ _ _
  have eok : okD 60 (turD own free rows goals i' z' j' (solP j' a' y) fs) = true := tab_ok _ _ _ _
  refine isiK_of rfl ?_
  refine brf ?_
  refine ⟨own, free, rows, goals, i', z', w, j', r, y, rfl, rfl, rfl, T, hol, hfl, hgl, hw, hj, hyw, by rw [← eaz]; exact ha0, fun fs2 hp2 hs2 => ?_⟩
  have ef : fs2 = fs := srt_one hp2 hp hs2 hs
  subst ef
  refine ne_of (b := true) eok (tp_ok _ _ _ _) (eqD_tab epy rfl) ?_
  refine brF rfl ?_
  refine ⟨own, free, .ptu (rows.map rkP), .ptu (goals.map rkP), rows, goals, 64, r, rfl, fun _ => rfl, fun _ => rfl, T, by decide, by decide, pi, pz, fun i2 z2 w2 j2 y2 a2 h1 h2 h3 h4 h5 h6 h7 fs3 hp3 hs3 => ?_, fun h => absurd (h _ _ w _ _ _ rfl rfl hw hj hyw ha) ha0⟩
  obtain ⟨rfl, rfl, rfl, rfl, rfl⟩ := uni h1 h2 h3 h4 h5 h6
  clear h1 h2 h3 h4 h5 h6 h7
  have ef : fs3 = fs2 := srt_one hp3 hp hs3 hs
  subst ef
  refine ne_of (b := true) eok eok (eqD_tab epy epy) ?_
  refine brF rfl ?_
  have hnl := set_nd hnf hj fun h => (List.nodup_append.mp T.nd).2.2 i2 (List.mem_of_getElem? hw) i2 h rfl
  have hif : i2 ∈ fs3 := hp.mem_iff.mpr (List.mem_of_getElem? (set_at hj))
  obtain ⟨k, hk⟩ := List.getElem?_of_mem hif
  have T2 := tb_turned (by decide) T hw hj hyw ha ha0 hp hs
  have hno2 := (List.nodup_append.mp T2.nd).1
  have hnf2 := (List.nodup_append.mp T2.nd).2.1
  have hw2 : (own.map (swI i2 z2))[w]? = some z2 := by rw [List.getElem?_map, hw]; show some (swI i2 z2 i2) = _; unfold swI; rw [if_pos rfl]
  have hy2 : ((rowsT own rows i2 j2 (solP j2 a2 y2)).map (reQ (tsI (free.set j2 i2) fs3)))[w]? = some (reQ (tsI (free.set j2 i2) fs3) (solP j2 a2 y2)) := by
    rw [List.getElem?_map, rowsT_at hw hyw, if_pos rfl]
    rfl
  have hk2 : (reQ (tsI (free.set j2 i2) fs3) (solP j2 a2 y2)).2[k]? = some (1 / a2) := by
    have h1 := ts_k hnl hk (set_at hj)
    obtain ⟨hkl, ek⟩ := List.getElem?_eq_some_iff.mp h1
    have h2 : (reQ (tsI (free.set j2 i2) fs3) (solP j2 a2 y2)).2[k]? = some ((solP j2 a2 y2).2.getD (tsI (free.set j2 i2) fs3)[k] 0) := by
      show (List.map _ _)[k]? = _
      rw [List.getElem?_map, List.getElem?_eq_getElem hkl]
      rfl
    rw [h2, ek, sol_gd (by rw [hwk.2.1]; exact hjl), if_pos rfl]
  have pz2 : Pln (.int z2) := pz
  refine ⟨own.map (swI i2 z2), fs3, _, _, (rowsT own rows i2 j2 (solP j2 a2 y2)).map (reQ (tsI (free.set j2 i2) fs3)), (goals.map (putQ j2 (solP j2 a2 y2))).map (reQ (tsI (free.set j2 i2) fs3)), 4 * 64 + 2, r, rfl, fun _ => rfl, fun _ => rfl, T2, by decide, by decide, pz, pi, fun z3 i3 w3 k3 y3 a3 h1 h2 h3 h4 h5 h6 h7 fs4 hp4 hs4 => ?_, fun h => absurd (h _ _ w k _ _ rfl rfl hw2 hk hy2 hk2) (by grind)⟩
  cases h1
  cases h2
  have ew : w3 = w := (idx_nd hno2 h3).symm.trans (idx_nd hno2 hw2)
  have ej : k3 = k := (idx_nd hnf2 h4).symm.trans (idx_nd hnf2 hk)
  subst ew ej
  rw [hy2] at h5
  cases h5
  rw [hk2] at h6
  cases h6
  have ef4 : fs4 = free := srt_one hp4 (set_back hj hp hk).symm hs4 T.inc
  rw [ef4, tur_back T hw hj hyw ha ha0 hp hk]
  exact eq_of (b := true) (tab_ok _ _ _ _) (gr_ok _ _ _ _) (eqD_tab (tab_py _ _ _ _) (gr_py _ _ _ _)) q

abbrev s_law : Stmt := topS 39

theorem sc_law : FnScope ["_law_script", "_law_k", "_law_state", "_law_grid_here", "_law_turn"] ["_law_script"] (defScope s_law) := ⟨rfl, rfl, rfl, by decide +kernel, rfl, by decide +kernel, by decide +kernel⟩

theorem fn_law {P : Program} {w : World} {K : PySem.W.Frag} {mg : Str → Option Value} {base : Heap} {f : Addr} {fd : FuncData} (F : FunZ K "law" "law" s_law f fd) (D__law_begun : DefOk P w K mg base 1 "_law_begun" sp__law_begun) (D__law_grid : DefOk P w K mg base 4 "_law_grid" sp__law_grid) (D__law_pick : DefOk P w K mg base 2 "_law_pick" sp__law_pick) (D__law_right : DefOk P w K mg base 8 "_law_right" sp__law_right) (D__law_next : DefOk P w K mg base 1 "_law_next" sp__law_next) (mg_range : mg "range" = none) (mg_max : mg "max" = none) (mg_min : mg "min" = none) (mg_len : mg "len" = none) (mg_list : mg "list" = none) : FnOk P w K mg base CX0 9 f fd ["_law_script"] (lift K spLaw) := by
  refine fnL (N := ["_law_script", "_law_k", "_law_state", "_law_grid_here", "_law_turn"]) F sc_law rfl fun cdv A outer s H E hr => ⟨_, (qs_cons (qs_for PassesOwn.never rfl (rngU (by rfl) mg_range (qa_cons (maxU rfl (by rfl) mg_max (qa_cons q_int (qa_cons (minU rfl (by rfl) mg_min (qa_cons (lenU (by rfl) mg_len (qa_cons (vU 0) qa_nil)) (qa_cons q_int qa_nil))) qa_nil))) qa_nil)) (qg_name (i := 1) sc_law.nd rfl (by first | exact Or.inl rfl | exact Or.inr rfl)) (qs_cons (qs_set (i := 2) sc_law.nd rfl (by first | exact Or.inl rfl | exact Or.inr rfl) (callU D__law_begun hr (by rfl) (qa_cons (vU 0) (qa_cons (vU 1) qa_nil))))
    (qs_cons (qs_set (i := 3) sc_law.nd rfl (by first | exact Or.inl rfl | exact Or.inr rfl) (callU D__law_grid hr (by rfl) (qa_cons (vU 2) (qa_cons (callU D__law_pick hr (by rfl) (qa_cons (vU 2) (qa_cons (q_lst (qa_cons q_int (qa_cons q_int (qa_cons q_int qa_nil)))) qa_nil))) qa_nil))))
    (qs_cons (ifS (PW2.pt (orW (teqU hr (ixU (vU 3) q_int (fun _ _ => rfl)) (q_tup qa_nil)) (qw_or1 (teqU hr (ixU (vU 3) q_int (fun _ _ => rfl)) (q_tup qa_nil))))) (qs_one qs_continue) qs_nil)
    (qs_one (qs_for PassesOwn.never rfl (rngU (by rfl) mg_range (qa_cons q_int qa_nil)) (qg_name (i := 4) sc_law.nd rfl (by first | exact Or.inl rfl | exact Or.inr rfl)) (qs_one (ifS (qt_not (testV (callU D__law_right hr (by rfl) (qa_cons (vU 3) (qa_cons (callU D__law_pick hr (by rfl) (qa_cons (vU 2) (qa_cons (listU (by rfl) mg_list (qa_cons (ixU (vU 3) q_int (fun _ _ => rfl)) qa_nil)) qa_nil))) (qa_cons (callU D__law_next hr (by rfl) (qa_cons (vU 2) (qa_cons (lenU (by rfl) mg_len (qa_cons (ixU (vU 3) q_int (fun _ _ => rfl)) qa_nil)) qa_nil))) qa_nil)))))) (qs_one (qs_ret q_bl)) qs_nil))))))))
    (qs_one (qs_ret q_bl))), ?_⟩
  intro ns m Q hn q
  refine kLen_rol rfl ?_
  refine ⟨⟨by (repeat' split) <;> omega, by rw [List.length_map]; (repeat' split) <;> omega⟩, fun i g m' => ∃ b1 b2 b3 b4 : Option D, g = [some (.rol (ns.map .int)), b1, b2, b3, b4], ⟨_, _, _, _, rfl⟩, ?_⟩
  rintro i g m' ⟨b1, b2, b3, b4, rfl⟩
  refine ⟨trivial, fun d hd => ?_, fun _ => q _⟩
  obtain ⟨hi, rfl⟩ := rng0_of hd
  refine ⟨ns, i, rfl, rfl, by omega, fun p m1 hp hs1 => ?_⟩
  refine ⟨p, [.int 2, .int 3, .int 4], rfl, hs1.self, rfl, (fun e => by cases e), by decide, by decide, fun d m2 hd hs2 => ?_⟩
  obtain ⟨k, rfl, hk⟩ : ∃ k : Nat, d = .int k ∧ k ≤ 4 := by
    have : d = .int 2 ∨ d = .int 3 ∨ d = .int 4 := by simpa using hd
    rcases this with rfl | rfl | rfl
    · exact ⟨2, rfl, by decide⟩
    · exact ⟨3, rfl, by decide⟩
    · exact ⟨4, rfl, by decide⟩
  refine ⟨p, k, rfl, rfl, by omega, hs2.self, fun r own free rows goals m3 G hs3 => ?_⟩
  have T : TbOk 64 r own free rows goals := ⟨G.nd, G.ps, G.inc, G.lr, Nat.le_trans G.lo (by omega), Nat.le_trans G.lf (by omega), Nat.le_trans G.lg (by decide), by rcases G.r2 with h | h <;> omega, G.rk⟩
  have hlo := G.lo
  have hlf := G.lf
  have hlg := G.lg
  have pli : ∀ ns : List Int, plDs (ns.map D.int) = true := fun ns => plDs_iff.mpr fun d hd => by obtain ⟨z, _, rfl⟩ := List.mem_map.mp hd; rfl
  have oki : ∀ ns : List Int, okDs 59 (ns.map D.int) = true := fun ns => okDs_of fun d hd => by obtain ⟨z, _, rfl⟩ := List.mem_map.mp hd; rfl
  refine ix_t rfl (d := .ptu (own.map .int)) rfl ?_
  refine eq_pl (v := .tup (own.map .int)) (w := .tup []) rfl rfl (show plDs _ = true from pli own) rfl (show okDs 59 _ = true from oki own) rfl (fun e => ?_) (fun e => ?_)
  · refine brT rfl ?_
    refine brt ?_
    exact ⟨_, _, _, _, rfl⟩
  refine brF rfl ?_
  refine ix_t rfl (d := .ptu (free.map .int)) rfl ?_
  refine eq_pl (v := .tup (free.map .int)) (w := .tup []) rfl rfl (show plDs _ = true from pli free) rfl (show okDs 59 _ = true from oki free) rfl (fun e2 => ?_) (fun e2 => ?_)
  · refine brT rfl ?_
    exact ⟨_, _, _, _, rfl⟩
  refine brF rfl ?_
  have ho0 : 0 < own.length := by
    cases own with
    | nil => exact absurd rfl e
    | cons _ _ => exact Nat.zero_lt_succ _
  have hf0 : 0 < free.length := by
    cases free with
    | nil => exact absurd rfl e2
    | cons _ _ => exact Nat.zero_lt_succ _
  refine ⟨⟨by decide, by decide⟩, fun j g' m' => ∃ c4 : Option D, g' = [some (.rol (ns.map .int)), some (.int i), some (.ref p), some (grD own free rows goals), c4] ∧ StB p m' m', ⟨_, rfl, hs3.self⟩, ?_⟩
  rintro j g' m' ⟨c4, rfl, hs⟩
  refine ⟨trivial, fun d hd => ?_, fun _ => ⟨_, _, _, _, rfl⟩⟩
  obtain ⟨hj, rfl⟩ := rng0_of hd
  refine ix_t rfl (d := .ptu (own.map .int)) rfl ?_
  refine kLst_of rfl ?_
  refine ⟨p, own.map .int, rfl, hs, rfl, (fun e => by cases e), by rw [List.length_map]; exact ho0, by rw [List.length_map]; omega, fun d m4 hd hs4 => ?_⟩
  obtain ⟨o, ho, rfl⟩ := List.mem_map.mp hd
  refine ix_t rfl (d := .ptu (free.map .int)) rfl ?_
  refine kLen_tup rfl ?_
  rw [List.length_map]
  refine ⟨p, free.length, rfl, rfl, hs4.self, by omega, lg64 (by omega), fun u m5 hu1 hu2 hs5 => ?_⟩
  obtain ⟨u, rfl⟩ := Int.eq_ofNat_of_zero_le hu1
  obtain ⟨w, hw⟩ := List.getElem?_of_mem ho
  refine ⟨own, free, rows, goals, o, w, u, r, rfl, rfl, rfl, T, by omega, by omega, by omega, hw, by omega, ?_⟩
  refine brf ?_
  exact ⟨_, rfl, hs5.self⟩

theorem all_mk {l : PySem.W.OpenLaw} {w : World} {K : PySem.W.Frag} {h : Heap} {mg : Str → Option Value} {fa f0 f1 f2 f3 f4 f5 f6 f7 f8 f9 f10 f11 f12 f13 f14 f15 f16 f17 f18 f19 f20 f21 f22 f23 f24 f25 f26 f27 f28 f29 : Addr} (X : K.In h) (G : h.Ns mainGlobals mg) (hfa : mg "law" = some (.ref fa))
    {od0 an0 : Option Addr} {sl0 : Array (Option Value)} {oc0 kV0 dc0 pm0 cd0 ct0 : Value}
    (a0 : PySem.W.nsIn K mainGlobals "common" = some (some (.ref f0))) (l0 : K.lookup f0 = some ⟨oc0, od0, .func (PySem.W.fnOf "common" "common" (defArgs s_common) (defBody s_common) (defScope s_common) .none kV0 dc0 pm0 an0 cd0 ct0), sl0⟩) (c0 : PySem.W.codeIn K cd0 "common" = true) (k0 : PySem.W.keepIn K (.ref f0) = true)
    {od1 an1 : Option Addr} {sl1 : Array (Option Value)} {oc1 kV1 dc1 pm1 cd1 ct1 : Value}
    {T1 : Addr} {ocT1 : Value} {odT1 : Option Addr} {slT1 : Array (Option Value)} {u1_0 : Tok} {nT1 : Nat}
    (a1 : PySem.W.nsIn K mainGlobals "number" = some (some (.ref f1))) (l1 : K.lookup f1 = some ⟨oc1, od1, .func (PySem.W.fnOf "number" "number" (defArgs s_number) (defBody s_number) (defScope s_number) (.ref T1) kV1 dc1 pm1 an1 cd1 ct1), sl1⟩) (c1 : PySem.W.codeIn K cd1 "number" = true) (k1 : PySem.W.keepIn K (.ref f1) = true)
    (t1 : K.lookup T1 = some ⟨ocT1, odT1, .seq #[.int 1 u1_0] nT1, slT1⟩)
    {od2 an2 : Option Addr} {sl2 : Array (Option Value)} {oc2 kV2 dc2 pm2 cd2 ct2 : Value}
    (a2 : PySem.W.nsIn K mainGlobals "plus" = some (some (.ref f2))) (l2 : K.lookup f2 = some ⟨oc2, od2, .func (PySem.W.fnOf "plus" "plus" (defArgs s_plus) (defBody s_plus) (defScope s_plus) .none kV2 dc2 pm2 an2 cd2 ct2), sl2⟩) (c2 : PySem.W.codeIn K cd2 "plus" = true) (k2 : PySem.W.keepIn K (.ref f2) = true)
    {od3 an3 : Option Addr} {sl3 : Array (Option Value)} {oc3 kV3 dc3 pm3 cd3 ct3 : Value}
    (a3 : PySem.W.nsIn K mainGlobals "times" = some (some (.ref f3))) (l3 : K.lookup f3 = some ⟨oc3, od3, .func (PySem.W.fnOf "times" "times" (defArgs s_times) (defBody s_times) (defScope s_times) .none kV3 dc3 pm3 an3 cd3 ct3), sl3⟩) (c3 : PySem.W.codeIn K cd3 "times" = true) (k3 : PySem.W.keepIn K (.ref f3) = true)
    {od4 an4 : Option Addr} {sl4 : Array (Option Value)} {oc4 kV4 dc4 pm4 cd4 ct4 : Value}
    (a4 : PySem.W.nsIn K mainGlobals "share" = some (some (.ref f4))) (l4 : K.lookup f4 = some ⟨oc4, od4, .func (PySem.W.fnOf "share" "share" (defArgs s_share) (defBody s_share) (defScope s_share) .none kV4 dc4 pm4 an4 cd4 ct4), sl4⟩) (c4 : PySem.W.codeIn K cd4 "share" = true) (k4 : PySem.W.keepIn K (.ref f4) = true)
    {od5 an5 : Option Addr} {sl5 : Array (Option Value)} {oc5 kV5 dc5 pm5 cd5 ct5 : Value}
    (a5 : PySem.W.nsIn K mainGlobals "rows_added" = some (some (.ref f5))) (l5 : K.lookup f5 = some ⟨oc5, od5, .func (PySem.W.fnOf "rows_added" "rows_added" (defArgs s_rows_added) (defBody s_rows_added) (defScope s_rows_added) .none kV5 dc5 pm5 an5 cd5 ct5), sl5⟩) (c5 : PySem.W.codeIn K cd5 "rows_added" = true) (k5 : PySem.W.keepIn K (.ref f5) = true)
    {od6 an6 : Option Addr} {sl6 : Array (Option Value)} {oc6 kV6 dc6 pm6 cd6 ct6 : Value}
    (a6 : PySem.W.nsIn K mainGlobals "row_scaled" = some (some (.ref f6))) (l6 : K.lookup f6 = some ⟨oc6, od6, .func (PySem.W.fnOf "row_scaled" "row_scaled" (defArgs s_row_scaled) (defBody s_row_scaled) (defScope s_row_scaled) .none kV6 dc6 pm6 an6 cd6 ct6), sl6⟩) (c6 : PySem.W.codeIn K cd6 "row_scaled" = true) (k6 : PySem.W.keepIn K (.ref f6) = true)
    {od7 an7 : Option Addr} {sl7 : Array (Option Value)} {oc7 kV7 dc7 pm7 cd7 ct7 : Value}
    (a7 : PySem.W.nsIn K mainGlobals "is_variable" = some (some (.ref f7))) (l7 : K.lookup f7 = some ⟨oc7, od7, .func (PySem.W.fnOf "is_variable" "is_variable" (defArgs s_is_variable) (defBody s_is_variable) (defScope s_is_variable) .none kV7 dc7 pm7 an7 cd7 ct7), sl7⟩) (c7 : PySem.W.codeIn K cd7 "is_variable" = true) (k7 : PySem.W.keepIn K (.ref f7) = true)
    {od8 an8 : Option Addr} {sl8 : Array (Option Value)} {oc8 kV8 dc8 pm8 cd8 ct8 : Value}
    (a8 : PySem.W.nsIn K mainGlobals "row_of" = some (some (.ref f8))) (l8 : K.lookup f8 = some ⟨oc8, od8, .func (PySem.W.fnOf "row_of" "row_of" (defArgs s_row_of) (defBody s_row_of) (defScope s_row_of) .none kV8 dc8 pm8 an8 cd8 ct8), sl8⟩) (c8 : PySem.W.codeIn K cd8 "row_of" = true) (k8 : PySem.W.keepIn K (.ref f8) = true)
    {od9 an9 : Option Addr} {sl9 : Array (Option Value)} {oc9 kV9 dc9 pm9 cd9 ct9 : Value}
    (a9 : PySem.W.nsIn K mainGlobals "solved_for" = some (some (.ref f9))) (l9 : K.lookup f9 = some ⟨oc9, od9, .func (PySem.W.fnOf "solved_for" "solved_for" (defArgs s_solved_for) (defBody s_solved_for) (defScope s_solved_for) .none kV9 dc9 pm9 an9 cd9 ct9), sl9⟩) (c9 : PySem.W.codeIn K cd9 "solved_for" = true) (k9 : PySem.W.keepIn K (.ref f9) = true)
    {od10 an10 : Option Addr} {sl10 : Array (Option Value)} {oc10 kV10 dc10 pm10 cd10 ct10 : Value}
    (a10 : PySem.W.nsIn K mainGlobals "put_for" = some (some (.ref f10))) (l10 : K.lookup f10 = some ⟨oc10, od10, .func (PySem.W.fnOf "put_for" "put_for" (defArgs s_put_for) (defBody s_put_for) (defScope s_put_for) .none kV10 dc10 pm10 an10 cd10 ct10), sl10⟩) (c10 : PySem.W.codeIn K cd10 "put_for" = true) (k10 : PySem.W.keepIn K (.ref f10) = true)
    {od11 an11 : Option Addr} {sl11 : Array (Option Value)} {oc11 kV11 dc11 pm11 cd11 ct11 : Value}
    (a11 : PySem.W.nsIn K mainGlobals "in_order" = some (some (.ref f11))) (l11 : K.lookup f11 = some ⟨oc11, od11, .func (PySem.W.fnOf "in_order" "in_order" (defArgs s_in_order) (defBody s_in_order) (defScope s_in_order) .none kV11 dc11 pm11 an11 cd11 ct11), sl11⟩) (c11 : PySem.W.codeIn K cd11 "in_order" = true) (k11 : PySem.W.keepIn K (.ref f11) = true)
    {od12 an12 : Option Addr} {sl12 : Array (Option Value)} {oc12 kV12 dc12 pm12 cd12 ct12 : Value}
    (a12 : PySem.W.nsIn K mainGlobals "turned" = some (some (.ref f12))) (l12 : K.lookup f12 = some ⟨oc12, od12, .func (PySem.W.fnOf "turned" "turned" (defArgs s_turned) (defBody s_turned) (defScope s_turned) .none kV12 dc12 pm12 an12 cd12 ct12), sl12⟩) (c12 : PySem.W.codeIn K cd12 "turned" = true) (k12 : PySem.W.keepIn K (.ref f12) = true)
    {od13 an13 : Option Addr} {sl13 : Array (Option Value)} {oc13 kV13 dc13 pm13 cd13 ct13 : Value}
    (a13 : PySem.W.nsIn K mainGlobals "_law_begun" = some (some (.ref f13))) (l13 : K.lookup f13 = some ⟨oc13, od13, .func (PySem.W.fnOf "_law_begun" "_law_begun" (defArgs s__law_begun) (defBody s__law_begun) (defScope s__law_begun) .none kV13 dc13 pm13 an13 cd13 ct13), sl13⟩) (c13 : PySem.W.codeIn K cd13 "_law_begun" = true) (k13 : PySem.W.keepIn K (.ref f13) = true)
    {od14 an14 : Option Addr} {sl14 : Array (Option Value)} {oc14 kV14 dc14 pm14 cd14 ct14 : Value}
    (a14 : PySem.W.nsIn K mainGlobals "_law_next" = some (some (.ref f14))) (l14 : K.lookup f14 = some ⟨oc14, od14, .func (PySem.W.fnOf "_law_next" "_law_next" (defArgs s__law_next) (defBody s__law_next) (defScope s__law_next) .none kV14 dc14 pm14 an14 cd14 ct14), sl14⟩) (c14 : PySem.W.codeIn K cd14 "_law_next" = true) (k14 : PySem.W.keepIn K (.ref f14) = true)
    {od15 an15 : Option Addr} {sl15 : Array (Option Value)} {oc15 kV15 dc15 pm15 cd15 ct15 : Value}
    (a15 : PySem.W.nsIn K mainGlobals "_law_pick" = some (some (.ref f15))) (l15 : K.lookup f15 = some ⟨oc15, od15, .func (PySem.W.fnOf "_law_pick" "_law_pick" (defArgs s__law_pick) (defBody s__law_pick) (defScope s__law_pick) .none kV15 dc15 pm15 an15 cd15 ct15), sl15⟩) (c15 : PySem.W.codeIn K cd15 "_law_pick" = true) (k15 : PySem.W.keepIn K (.ref f15) = true)
    {od16 an16 : Option Addr} {sl16 : Array (Option Value)} {oc16 kV16 dc16 pm16 cd16 ct16 : Value}
    (a16 : PySem.W.nsIn K mainGlobals "_law_frac" = some (some (.ref f16))) (l16 : K.lookup f16 = some ⟨oc16, od16, .func (PySem.W.fnOf "_law_frac" "_law_frac" (defArgs s__law_frac) (defBody s__law_frac) (defScope s__law_frac) .none kV16 dc16 pm16 an16 cd16 ct16), sl16⟩) (c16 : PySem.W.codeIn K cd16 "_law_frac" = true) (k16 : PySem.W.keepIn K (.ref f16) = true)
    {od17 an17 : Option Addr} {sl17 : Array (Option Value)} {oc17 kV17 dc17 pm17 cd17 ct17 : Value}
    (a17 : PySem.W.nsIn K mainGlobals "_law_some" = some (some (.ref f17))) (l17 : K.lookup f17 = some ⟨oc17, od17, .func (PySem.W.fnOf "_law_some" "_law_some" (defArgs s__law_some) (defBody s__law_some) (defScope s__law_some) .none kV17 dc17 pm17 an17 cd17 ct17), sl17⟩) (c17 : PySem.W.codeIn K cd17 "_law_some" = true) (k17 : PySem.W.keepIn K (.ref f17) = true)
    {od18 an18 : Option Addr} {sl18 : Array (Option Value)} {oc18 kV18 dc18 pm18 cd18 ct18 : Value}
    (a18 : PySem.W.nsIn K mainGlobals "_law_variables" = some (some (.ref f18))) (l18 : K.lookup f18 = some ⟨oc18, od18, .func (PySem.W.fnOf "_law_variables" "_law_variables" (defArgs s__law_variables) (defBody s__law_variables) (defScope s__law_variables) .none kV18 dc18 pm18 an18 cd18 ct18), sl18⟩) (c18 : PySem.W.codeIn K cd18 "_law_variables" = true) (k18 : PySem.W.keepIn K (.ref f18) = true)
    {od19 an19 : Option Addr} {sl19 : Array (Option Value)} {oc19 kV19 dc19 pm19 cd19 ct19 : Value}
    (a19 : PySem.W.nsIn K mainGlobals "_law_reckoning" = some (some (.ref f19))) (l19 : K.lookup f19 = some ⟨oc19, od19, .func (PySem.W.fnOf "_law_reckoning" "_law_reckoning" (defArgs s__law_reckoning) (defBody s__law_reckoning) (defScope s__law_reckoning) .none kV19 dc19 pm19 an19 cd19 ct19), sl19⟩) (c19 : PySem.W.codeIn K cd19 "_law_reckoning" = true) (k19 : PySem.W.keepIn K (.ref f19) = true)
    {od20 an20 : Option Addr} {sl20 : Array (Option Value)} {oc20 kV20 dc20 pm20 cd20 ct20 : Value}
    (a20 : PySem.W.nsIn K mainGlobals "_law_grid" = some (some (.ref f20))) (l20 : K.lookup f20 = some ⟨oc20, od20, .func (PySem.W.fnOf "_law_grid" "_law_grid" (defArgs s__law_grid) (defBody s__law_grid) (defScope s__law_grid) .none kV20 dc20 pm20 an20 cd20 ct20), sl20⟩) (c20 : PySem.W.codeIn K cd20 "_law_grid" = true) (k20 : PySem.W.keepIn K (.ref f20) = true)
    {od21 an21 : Option Addr} {sl21 : Array (Option Value)} {oc21 kV21 dc21 pm21 cd21 ct21 : Value}
    (a21 : PySem.W.nsIn K mainGlobals "_law_product" = some (some (.ref f21))) (l21 : K.lookup f21 = some ⟨oc21, od21, .func (PySem.W.fnOf "_law_product" "_law_product" (defArgs s__law_product) (defBody s__law_product) (defScope s__law_product) .none kV21 dc21 pm21 an21 cd21 ct21), sl21⟩) (c21 : PySem.W.codeIn K cd21 "_law_product" = true) (k21 : PySem.W.keepIn K (.ref f21) = true)
    {od22 an22 : Option Addr} {sl22 : Array (Option Value)} {oc22 kV22 dc22 pm22 cd22 ct22 : Value}
    (a22 : PySem.W.nsIn K mainGlobals "_law_sum" = some (some (.ref f22))) (l22 : K.lookup f22 = some ⟨oc22, od22, .func (PySem.W.fnOf "_law_sum" "_law_sum" (defArgs s__law_sum) (defBody s__law_sum) (defScope s__law_sum) .none kV22 dc22 pm22 an22 cd22 ct22), sl22⟩) (c22 : PySem.W.codeIn K cd22 "_law_sum" = true) (k22 : PySem.W.keepIn K (.ref f22) = true)
    {od23 an23 : Option Addr} {sl23 : Array (Option Value)} {oc23 kV23 dc23 pm23 cd23 ct23 : Value}
    (a23 : PySem.W.nsIn K mainGlobals "_law_inverse" = some (some (.ref f23))) (l23 : K.lookup f23 = some ⟨oc23, od23, .func (PySem.W.fnOf "_law_inverse" "_law_inverse" (defArgs s__law_inverse) (defBody s__law_inverse) (defScope s__law_inverse) .none kV23 dc23 pm23 an23 cd23 ct23), sl23⟩) (c23 : PySem.W.codeIn K cd23 "_law_inverse" = true) (k23 : PySem.W.keepIn K (.ref f23) = true)
    {od24 an24 : Option Addr} {sl24 : Array (Option Value)} {oc24 kV24 dc24 pm24 cd24 ct24 : Value}
    (a24 : PySem.W.nsIn K mainGlobals "_law_solved" = some (some (.ref f24))) (l24 : K.lookup f24 = some ⟨oc24, od24, .func (PySem.W.fnOf "_law_solved" "_law_solved" (defArgs s__law_solved) (defBody s__law_solved) (defScope s__law_solved) .none kV24 dc24 pm24 an24 cd24 ct24), sl24⟩) (c24 : PySem.W.codeIn K cd24 "_law_solved" = true) (k24 : PySem.W.keepIn K (.ref f24) = true)
    {od25 an25 : Option Addr} {sl25 : Array (Option Value)} {oc25 kV25 dc25 pm25 cd25 ct25 : Value}
    (a25 : PySem.W.nsIn K mainGlobals "_law_put" = some (some (.ref f25))) (l25 : K.lookup f25 = some ⟨oc25, od25, .func (PySem.W.fnOf "_law_put" "_law_put" (defArgs s__law_put) (defBody s__law_put) (defScope s__law_put) .none kV25 dc25 pm25 an25 cd25 ct25), sl25⟩) (c25 : PySem.W.codeIn K cd25 "_law_put" = true) (k25 : PySem.W.keepIn K (.ref f25) = true)
    {od26 an26 : Option Addr} {sl26 : Array (Option Value)} {oc26 kV26 dc26 pm26 cd26 ct26 : Value}
    (a26 : PySem.W.nsIn K mainGlobals "_law_due" = some (some (.ref f26))) (l26 : K.lookup f26 = some ⟨oc26, od26, .func (PySem.W.fnOf "_law_due" "_law_due" (defArgs s__law_due) (defBody s__law_due) (defScope s__law_due) .none kV26 dc26 pm26 an26 cd26 ct26), sl26⟩) (c26 : PySem.W.codeIn K cd26 "_law_due" = true) (k26 : PySem.W.keepIn K (.ref f26) = true)
    {od27 an27 : Option Addr} {sl27 : Array (Option Value)} {oc27 kV27 dc27 pm27 cd27 ct27 : Value}
    (a27 : PySem.W.nsIn K mainGlobals "_law_refused" = some (some (.ref f27))) (l27 : K.lookup f27 = some ⟨oc27, od27, .func (PySem.W.fnOf "_law_refused" "_law_refused" (defArgs s__law_refused) (defBody s__law_refused) (defScope s__law_refused) .none kV27 dc27 pm27 an27 cd27 ct27), sl27⟩) (c27 : PySem.W.codeIn K cd27 "_law_refused" = true) (k27 : PySem.W.keepIn K (.ref f27) = true)
    {od28 an28 : Option Addr} {sl28 : Array (Option Value)} {oc28 kV28 dc28 pm28 cd28 ct28 : Value}
    (a28 : PySem.W.nsIn K mainGlobals "_law_right" = some (some (.ref f28))) (l28 : K.lookup f28 = some ⟨oc28, od28, .func (PySem.W.fnOf "_law_right" "_law_right" (defArgs s__law_right) (defBody s__law_right) (defScope s__law_right) .none kV28 dc28 pm28 an28 cd28 ct28), sl28⟩) (c28 : PySem.W.codeIn K cd28 "_law_right" = true) (k28 : PySem.W.keepIn K (.ref f28) = true)
    {od29 an29 : Option Addr} {sl29 : Array (Option Value)} {oc29 kV29 dc29 pm29 cd29 ct29 : Value}
    (a29 : PySem.W.nsIn K mainGlobals "law" = some (some (.ref f29))) (l29 : K.lookup f29 = some ⟨oc29, od29, .func (PySem.W.fnOf "law" "law" (defArgs s_law) (defBody s_law) (defScope s_law) .none kV29 dc29 pm29 an29 cd29 ct29), sl29⟩) (c29 : PySem.W.codeIn K cd29 "law" = true) (k29 : PySem.W.keepIn K (.ref f29) = true)
    (z_abs : PySem.W.nsIn K mainGlobals "abs" = some none)
    (z_tuple : PySem.W.nsIn K mainGlobals "tuple" = some none)
    (z_zip : PySem.W.nsIn K mainGlobals "zip" = some none)
    (z_isinstance : PySem.W.nsIn K mainGlobals "isinstance" = some none)
    (z_int : PySem.W.nsIn K mainGlobals "int" = some none)
    (z_bool : PySem.W.nsIn K mainGlobals "bool" = some none)
    (z_sorted : PySem.W.nsIn K mainGlobals "sorted" = some none)
    (z_len : PySem.W.nsIn K mainGlobals "len" = some none)
    (z_range : PySem.W.nsIn K mainGlobals "range" = some none)
    (z_dict : PySem.W.nsIn K mainGlobals "dict" = some none)
    (z_ValueError : PySem.W.nsIn K mainGlobals "ValueError" = some none)
    (z_max : PySem.W.nsIn K mainGlobals "max" = some none)
    (z_min : PySem.W.nsIn K mainGlobals "min" = some none)
    (z_list : PySem.W.nsIn K mainGlobals "list" = some none)
    {C0 : Addr} (z_WishError : PySem.W.nsIn K mainGlobals "WishError" = some (some (.ref C0)))
    {C1 : Addr} (z_NoNumber : PySem.W.nsIn K mainGlobals "NoNumber" = some (some (.ref C1)))
    {C2 : Addr} (z_NoTurn : PySem.W.nsIn K mainGlobals "NoTurn" = some (some (.ref C2)))
    {C3 : Addr} (z_NoTable : PySem.W.nsIn K mainGlobals "NoTable" = some (some (.ref C3)))
    (kk_NoTurn : errChk K [C0, C1, C2, C3] 2 = true) :
    ∃ fd : FuncData, (∀ (s : Shared) (v : Value), BindsTo s fd ⟨[v], []⟩ [("_law_script", v)]) ∧ ∀ base : Heap, K.In base → base.Ns mainGlobals mg → FnOk l.prog w K mg base CX0 9 fa fd ["_law_script"] (lift K spLaw) := by
  have e := hfa.symm.trans (PySem.W.mg_of X G a29)
  cases e
  have A0 : DefAt K mg "common" s_common ["one", "other"] := ⟨f0, _, funz_mk (st := s_common) l0 c0 k0, PySem.W.mg_of X G a0, Binds.all fun us hl => match us, hl with | [_, _], _ => rfl⟩
  have A1 : DefAt K mg "number" s_number ["over", "under"] := ⟨f1, _, funz_mk (st := s_number) l1 c1 k1, PySem.W.mg_of X G a1, fun s us hX hl => match us, hl with | [_, _], _ => PySem.W.binds_K hX rfl t1 rfl rfl rfl⟩
  have A2 : DefAt K mg "plus" s_plus ["one", "other"] := ⟨f2, _, funz_mk (st := s_plus) l2 c2 k2, PySem.W.mg_of X G a2, Binds.all fun us hl => match us, hl with | [_, _], _ => rfl⟩
  have A3 : DefAt K mg "times" s_times ["one", "other"] := ⟨f3, _, funz_mk (st := s_times) l3 c3 k3, PySem.W.mg_of X G a3, Binds.all fun us hl => match us, hl with | [_, _], _ => rfl⟩
  have A4 : DefAt K mg "share" s_share ["one", "other"] := ⟨f4, _, funz_mk (st := s_share) l4 c4 k4, PySem.W.mg_of X G a4, Binds.all fun us hl => match us, hl with | [_, _], _ => rfl⟩
  have A5 : DefAt K mg "rows_added" s_rows_added ["one", "other"] := ⟨f5, _, funz_mk (st := s_rows_added) l5 c5 k5, PySem.W.mg_of X G a5, Binds.all fun us hl => match us, hl with | [_, _], _ => rfl⟩
  have A6 : DefAt K mg "row_scaled" s_row_scaled ["some", "row"] := ⟨f6, _, funz_mk (st := s_row_scaled) l6 c6 k6, PySem.W.mg_of X G a6, Binds.all fun us hl => match us, hl with | [_, _], _ => rfl⟩
  have A7 : DefAt K mg "is_variable" s_is_variable ["thing"] := ⟨f7, _, funz_mk (st := s_is_variable) l7 c7 k7, PySem.W.mg_of X G a7, Binds.all fun us hl => match us, hl with | [_], _ => rfl⟩
  have A8 : DefAt K mg "row_of" s_row_of ["table", "variable"] := ⟨f8, _, funz_mk (st := s_row_of) l8 c8 k8, PySem.W.mg_of X G a8, Binds.all fun us hl => match us, hl with | [_, _], _ => rfl⟩
  have A9 : DefAt K mg "solved_for" s_solved_for ["reckoning", "place"] := ⟨f9, _, funz_mk (st := s_solved_for) l9 c9 k9, PySem.W.mg_of X G a9, Binds.all fun us hl => match us, hl with | [_, _], _ => rfl⟩
  have A10 : DefAt K mg "put_for" s_put_for ["reckoning", "place", "other"] := ⟨f10, _, funz_mk (st := s_put_for) l10 c10 k10, PySem.W.mg_of X G a10, Binds.all fun us hl => match us, hl with | [_, _, _], _ => rfl⟩
  have A11 : DefAt K mg "in_order" s_in_order ["reckonings", "turn"] := ⟨f11, _, funz_mk (st := s_in_order) l11 c11 k11, PySem.W.mg_of X G a11, Binds.all fun us hl => match us, hl with | [_, _], _ => rfl⟩
  have A12 : DefAt K mg "turned" s_turned ["table", "own", "free"] := ⟨f12, _, funz_mk (st := s_turned) l12 c12 k12, PySem.W.mg_of X G a12, Binds.all fun us hl => match us, hl with | [_, _, _], _ => rfl⟩
  have A13 : DefAt K mg "_law_begun" s__law_begun ["_law_script", "_law_k"] := ⟨f13, _, funz_mk (st := s__law_begun) l13 c13 k13, PySem.W.mg_of X G a13, Binds.all fun us hl => match us, hl with | [_, _], _ => rfl⟩
  have A14 : DefAt K mg "_law_next" s__law_next ["_law_state", "_law_size"] := ⟨f14, _, funz_mk (st := s__law_next) l14 c14 k14, PySem.W.mg_of X G a14, Binds.all fun us hl => match us, hl with | [_, _], _ => rfl⟩
  have A15 : DefAt K mg "_law_pick" s__law_pick ["_law_state", "_law_some_here"] := ⟨f15, _, funz_mk (st := s__law_pick) l15 c15 k15, PySem.W.mg_of X G a15, Binds.all fun us hl => match us, hl with | [_, _], _ => rfl⟩
  have A16 : DefAt K mg "_law_frac" s__law_frac ["_law_over", "_law_under"] := ⟨f16, _, funz_mk (st := s__law_frac) l16 c16 k16, PySem.W.mg_of X G a16, Binds.all fun us hl => match us, hl with | [_, _], _ => rfl⟩
  have A17 : DefAt K mg "_law_some" s__law_some ["_law_state"] := ⟨f17, _, funz_mk (st := s__law_some) l17 c17 k17, PySem.W.mg_of X G a17, Binds.all fun us hl => match us, hl with | [_], _ => rfl⟩
  have A18 : DefAt K mg "_law_variables" s__law_variables ["_law_state", "_law_many"] := ⟨f18, _, funz_mk (st := s__law_variables) l18 c18 k18, PySem.W.mg_of X G a18, Binds.all fun us hl => match us, hl with | [_, _], _ => rfl⟩
  have A19 : DefAt K mg "_law_reckoning" s__law_reckoning ["_law_state", "_law_many", "_law_long"] := ⟨f19, _, funz_mk (st := s__law_reckoning) l19 c19 k19, PySem.W.mg_of X G a19, Binds.all fun us hl => match us, hl with | [_, _, _], _ => rfl⟩
  have A20 : DefAt K mg "_law_grid" s__law_grid ["_law_state", "_law_most"] := ⟨f20, _, funz_mk (st := s__law_grid) l20 c20 k20, PySem.W.mg_of X G a20, Binds.all fun us hl => match us, hl with | [_, _], _ => rfl⟩
  have A21 : DefAt K mg "_law_product" s__law_product ["_law_one", "_law_other"] := ⟨f21, _, funz_mk (st := s__law_product) l21 c21 k21, PySem.W.mg_of X G a21, Binds.all fun us hl => match us, hl with | [_, _], _ => rfl⟩
  have A22 : DefAt K mg "_law_sum" s__law_sum ["_law_one", "_law_other"] := ⟨f22, _, funz_mk (st := s__law_sum) l22 c22 k22, PySem.W.mg_of X G a22, Binds.all fun us hl => match us, hl with | [_, _], _ => rfl⟩
  have A23 : DefAt K mg "_law_inverse" s__law_inverse ["_law_one"] := ⟨f23, _, funz_mk (st := s__law_inverse) l23 c23 k23, PySem.W.mg_of X G a23, Binds.all fun us hl => match us, hl with | [_], _ => rfl⟩
  have A24 : DefAt K mg "_law_solved" s__law_solved ["_law_rest", "_law_shares", "_law_own", "_law_free"] := ⟨f24, _, funz_mk (st := s__law_solved) l24 c24 k24, PySem.W.mg_of X G a24, Binds.all fun us hl => match us, hl with | [_, _, _, _], _ => rfl⟩
  have A25 : DefAt K mg "_law_put" s__law_put ["_law_rest", "_law_shares", "_law_free", "_law_new"] := ⟨f25, _, funz_mk (st := s__law_put) l25 c25 k25, PySem.W.mg_of X G a25, Binds.all fun us hl => match us, hl with | [_, _, _, _], _ => rfl⟩
  have A26 : DefAt K mg "_law_due" s__law_due ["_law_grid_here", "_law_own", "_law_free"] := ⟨f26, _, funz_mk (st := s__law_due) l26 c26 k26, PySem.W.mg_of X G a26, Binds.all fun us hl => match us, hl with | [_, _, _], _ => rfl⟩
  have A27 : DefAt K mg "_law_refused" s__law_refused ["_law_grid_here", "_law_own", "_law_free"] := ⟨f27, _, funz_mk (st := s__law_refused) l27 c27 k27, PySem.W.mg_of X G a27, Binds.all fun us hl => match us, hl with | [_, _, _], _ => rfl⟩
  have A28 : DefAt K mg "_law_right" s__law_right ["_law_grid_here", "_law_own", "_law_at"] := ⟨f28, _, funz_mk (st := s__law_right) l28 c28 k28, PySem.W.mg_of X G a28, Binds.all fun us hl => match us, hl with | [_, _, _], _ => rfl⟩
  have mg_abs := PySem.W.mg_none_of X G z_abs
  have mg_tuple := PySem.W.mg_none_of X G z_tuple
  have mg_zip := PySem.W.mg_none_of X G z_zip
  have mg_isinstance := PySem.W.mg_none_of X G z_isinstance
  have mg_int := PySem.W.mg_none_of X G z_int
  have mg_bool := PySem.W.mg_none_of X G z_bool
  have mg_sorted := PySem.W.mg_none_of X G z_sorted
  have mg_len := PySem.W.mg_none_of X G z_len
  have mg_range := PySem.W.mg_none_of X G z_range
  have mg_dict := PySem.W.mg_none_of X G z_dict
  have mg_ValueError := PySem.W.mg_none_of X G z_ValueError
  have mg_max := PySem.W.mg_none_of X G z_max
  have mg_min := PySem.W.mg_none_of X G z_min
  have mg_list := PySem.W.mg_none_of X G z_list
  let Ce : Nat → Addr := fun j => ([C0, C1, C2, C3] : List Addr).getD j 0
  have g_WishError : mg "WishError" = some (.ref (Ce 0)) := PySem.W.mg_of X G z_WishError
  have g_NoTurn : mg "NoTurn" = some (.ref (Ce 2)) := PySem.W.mg_of X G z_NoTurn
  have g_NoTable : mg "NoTable" = some (.ref (Ce 3)) := PySem.W.mg_of X G z_NoTable
  have e_NoTurn : ErrAt K mg Ce 4 2 "NoTurn" := errAt_of [C0, C1, C2, C3] 2 kk_NoTurn (PySem.W.mg_of X G z_NoTurn)
  refine ⟨PySem.W.fnOf "law" "law" (defArgs s_law) (defBody s_law) (defScope s_law) .none kV29 dc29 pm29 an29 cd29 ct29, fun s v => .of_eq rfl, fun base _ _ => ?_⟩
  · have D_common : DefOk l.prog w K mg base 1 "common" sp_common := A0.ok fun f fd F => fn_common F
    have D_number : DefOk l.prog w K mg base 2 "number" sp_number := A1.ok fun f fd F => fn_number F D_common mg_abs
    have E_number1 : DefDf l.prog w K mg base 2 "number" sp_number [.int 1] := ⟨f1, _, ["over", "under"], [.int 1 u1_0], [.int 1], fn_number (funz_mk (st := s_number) l1 c1 k1) D_common mg_abs, PySem.W.mg_of X G a1, k1, fun s us hX hl => match us, (by simp at hl; omega : us.length = 1) with | [_], _ => PySem.W.binds_K hX rfl t1 rfl rfl rfl, (.cons ⟨_, rfl⟩ .nil), fun _ => (.cons (.int _) .nil)⟩
    have D_plus : DefOk l.prog w K mg base 3 "plus" sp_plus := A2.ok fun f fd F => fn_plus F D_number
    have D_times : DefOk l.prog w K mg base 3 "times" sp_times := A3.ok fun f fd F => fn_times F D_number
    have D_share : DefOk l.prog w K mg base 3 "share" sp_share := A4.ok fun f fd F => fn_share F D_number
    have D_rows_added : DefOk l.prog w K mg base 4 "rows_added" sp_rows_added := A5.ok fun f fd F => fn_rows_added F D_plus mg_tuple mg_zip
    have D_row_scaled : DefOk l.prog w K mg base 4 "row_scaled" sp_row_scaled := A6.ok fun f fd F => fn_row_scaled F D_times mg_tuple
    have D_is_variable : DefOk l.prog w K mg base 1 "is_variable" sp_is_variable := A7.ok fun f fd F => fn_is_variable F mg_isinstance mg_int mg_bool
    have D_row_of : DefOkX l.prog w K mg base 2 "row_of" (sp_row_of Ce) := A8.okX fun f fd F => fn_row_of (Ce := Ce) F D_is_variable e_NoTurn
    have D_solved_for : DefOk l.prog w K mg base 5 "solved_for" sp_solved_for := A9.ok fun f fd F => fn_solved_for F D_share D_row_scaled D_number E_number1
    have D_put_for : DefOk l.prog w K mg base 5 "put_for" sp_put_for := A10.ok fun f fd F => fn_put_for F D_rows_added D_row_scaled D_number E_number1
    have D_in_order : DefOk l.prog w K mg base 1 "in_order" sp_in_order := A11.ok fun f fd F => fn_in_order F mg_tuple
    have D_turned : DefOkX l.prog w K mg base 6 "turned" (sp_turned Ce) := A12.okX fun f fd F => fn_turned (Ce := Ce) F D_row_of D_solved_for D_number D_put_for D_in_order D_is_variable mg_tuple mg_zip mg_sorted E_number1 e_NoTurn
    have D__law_begun : DefOk l.prog w K mg base 1 "_law_begun" sp__law_begun := A13.ok fun f fd F => fn__law_begun F mg_len mg_abs
    have D__law_next : DefOk l.prog w K mg base 1 "_law_next" sp__law_next := A14.ok fun f fd F => fn__law_next F
    have D__law_pick : DefOk l.prog w K mg base 2 "_law_pick" sp__law_pick := A15.ok fun f fd F => fn__law_pick F D__law_next mg_len
    have D__law_frac : DefOk l.prog w K mg base 1 "_law_frac" sp__law_frac := A16.ok fun f fd F => fn__law_frac F mg_abs
    have D__law_some : DefOk l.prog w K mg base 2 "_law_some" sp__law_some := A17.ok fun f fd F => fn__law_some F D__law_next D__law_frac
    have D__law_variables : DefOk l.prog w K mg base 2 "_law_variables" sp__law_variables := A18.ok fun f fd F => fn__law_variables F D__law_next mg_range
    have D__law_reckoning : DefOk l.prog w K mg base 3 "_law_reckoning" sp__law_reckoning := A19.ok fun f fd F => fn__law_reckoning F D__law_some mg_tuple mg_range
    have D__law_grid : DefOk l.prog w K mg base 4 "_law_grid" sp__law_grid := A20.ok fun f fd F => fn__law_grid F D__law_next D__law_variables D__law_reckoning mg_tuple mg_range mg_sorted
    have D__law_product : DefOk l.prog w K mg base 2 "_law_product" sp__law_product := A21.ok fun f fd F => fn__law_product F D__law_frac
    have D__law_sum : DefOk l.prog w K mg base 2 "_law_sum" sp__law_sum := A22.ok fun f fd F => fn__law_sum F D__law_frac
    have D__law_inverse : DefOk l.prog w K mg base 1 "_law_inverse" sp__law_inverse := A23.ok fun f fd F => fn__law_inverse F
    have D__law_solved : DefOk l.prog w K mg base 3 "_law_solved" sp__law_solved := A24.ok fun f fd F => fn__law_solved F D__law_inverse D__law_product mg_tuple
    have D__law_put : DefOk l.prog w K mg base 3 "_law_put" sp__law_put := A25.ok fun f fd F => fn__law_put F D__law_product D__law_sum mg_tuple mg_zip
    have D__law_due : DefOk l.prog w K mg base 4 "_law_due" sp__law_due := A26.ok fun f fd F => fn__law_due F D__law_solved D__law_put mg_sorted mg_tuple mg_dict mg_zip mg_len
    have D__law_refused : DefOk l.prog w K mg base 7 "_law_refused" sp__law_refused := A27.ok fun f fd F => fn__law_refused (Ce := Ce) F D_turned mg_isinstance mg_ValueError g_WishError g_NoTurn g_NoTable e_NoTurn
    have D__law_right : DefOk l.prog w K mg base 8 "_law_right" sp__law_right := A28.ok fun f fd F => fn__law_right (Ce := Ce) F D_turned D__law_refused D__law_due mg_isinstance mg_tuple
    exact fn_law (funz_mk (st := s_law) l29 c29 k29) D__law_begun D__law_grid D__law_pick D__law_right D__law_next mg_range mg_max mg_min mg_len mg_list

end W
open PySem PySem.W PyProof.Rows
set_option maxRecDepth 100000 in
set_option maxHeartbeats 0 in
theorem PySem.Challenge.cw_wishboard_k22_turned_once_holds : PySem.Challenge.rw_wishboard_k22_turned_once.Holds := by
  w_on; o_law; k_head; (case hw => w_witness2)
  k_fill
  refine Z.walkZ (l := PySem.Challenge.rw_wishboard_k22_turned_once) (k := 9) (x := "_law_script") rfl rfl ⟨rfl, by decide, by decide⟩ (fun w h Y => PySem.W.kIn_of Y) ?F
  case F =>
    intro w mg fa h KX G hmg
    refine' W.all_mk KX G hmg ?a0 ?l0 ?c0 ?k0 ?a1 ?l1 ?c1 ?k1 ?t1 ?a2 ?l2 ?c2 ?k2 ?a3 ?l3 ?c3 ?k3 ?a4 ?l4 ?c4 ?k4 ?a5 ?l5 ?c5 ?k5 ?a6 ?l6 ?c6 ?k6 ?a7 ?l7 ?c7 ?k7 ?a8 ?l8 ?c8 ?k8 ?a9 ?l9 ?c9 ?k9 ?a10 ?l10 ?c10 ?k10 ?a11 ?l11 ?c11 ?k11 ?a12 ?l12 ?c12 ?k12 ?a13 ?l13 ?c13 ?k13 ?a14 ?l14 ?c14 ?k14 ?a15 ?l15 ?c15 ?k15 ?a16 ?l16 ?c16 ?k16 ?a17 ?l17 ?c17 ?k17 ?a18 ?l18 ?c18 ?k18 ?a19 ?l19 ?c19 ?k19 ?a20 ?l20 ?c20 ?k20 ?a21 ?l21 ?c21 ?k21 ?a22 ?l22 ?c22 ?k22 ?a23 ?l23 ?c23 ?k23 ?a24 ?l24 ?c24 ?k24 ?a25 ?l25 ?c25 ?k25 ?a26 ?l26 ?c26 ?k26 ?a27 ?l27 ?c27 ?k27 ?a28 ?l28 ?c28 ?k28 ?a29 ?l29 ?c29 ?k29 ?z_abs ?z_tuple ?z_zip ?z_isinstance ?z_int ?z_bool ?z_sorted ?z_len ?z_range ?z_dict ?z_ValueError ?z_max ?z_min ?z_list ?z_WishError ?z_NoNumber ?z_NoTurn ?z_NoTable ?kk_NoTurn
    (case a0 => k_is)
    (case l0 => k_is)
    (case c0 => k_is)
    (case k0 => k_is)
    (case a1 => k_is)
    (case l1 => k_is)
    (case c1 => k_is)
    (case k1 => k_is)
    (case t1 => k_is)
    (case a2 => k_is)
    (case l2 => k_is)
    (case c2 => k_is)
    (case k2 => k_is)
    (case a3 => k_is)
    (case l3 => k_is)
    (case c3 => k_is)
    (case k3 => k_is)
    (case a4 => k_is)
    (case l4 => k_is)
    (case c4 => k_is)
    (case k4 => k_is)
    (case a5 => k_is)
    (case l5 => k_is)
    (case c5 => k_is)
    (case k5 => k_is)
    (case a6 => k_is)
    (case l6 => k_is)
    (case c6 => k_is)
    (case k6 => k_is)
    (case a7 => k_is)
    (case l7 => k_is)
    (case c7 => k_is)
    (case k7 => k_is)
    (case a8 => k_is)
    (case l8 => k_is)
    (case c8 => k_is)
    (case k8 => k_is)
    (case a9 => k_is)
    (case l9 => k_is)
    (case c9 => k_is)
    (case k9 => k_is)
    (case a10 => k_is)
    (case l10 => k_is)
    (case c10 => k_is)
    (case k10 => k_is)
    (case a11 => k_is)
    (case l11 => k_is)
    (case c11 => k_is)
    (case k11 => k_is)
    (case a12 => k_is)
    (case l12 => k_is)
    (case c12 => k_is)
    (case k12 => k_is)
    (case a13 => k_is)
    (case l13 => k_is)
    (case c13 => k_is)
    (case k13 => k_is)
    (case a14 => k_is)
    (case l14 => k_is)
    (case c14 => k_is)
    (case k14 => k_is)
    (case a15 => k_is)
    (case l15 => k_is)
    (case c15 => k_is)
    (case k15 => k_is)
    (case a16 => k_is)
    (case l16 => k_is)
    (case c16 => k_is)
    (case k16 => k_is)
    (case a17 => k_is)
    (case l17 => k_is)
    (case c17 => k_is)
    (case k17 => k_is)
    (case a18 => k_is)
    (case l18 => k_is)
    (case c18 => k_is)
    (case k18 => k_is)
    (case a19 => k_is)
    (case l19 => k_is)
    (case c19 => k_is)
    (case k19 => k_is)
    (case a20 => k_is)
    (case l20 => k_is)
    (case c20 => k_is)
    (case k20 => k_is)
    (case a21 => k_is)
    (case l21 => k_is)
    (case c21 => k_is)
    (case k21 => k_is)
    (case a22 => k_is)
    (case l22 => k_is)
    (case c22 => k_is)
    (case k22 => k_is)
    (case a23 => k_is)
    (case l23 => k_is)
    (case c23 => k_is)
    (case k23 => k_is)
    (case a24 => k_is)
    (case l24 => k_is)
    (case c24 => k_is)
    (case k24 => k_is)
    (case a25 => k_is)
    (case l25 => k_is)
    (case c25 => k_is)
    (case k25 => k_is)
    (case a26 => k_is)
    (case l26 => k_is)
    (case c26 => k_is)
    (case k26 => k_is)
    (case a27 => k_is)
    (case l27 => k_is)
    (case c27 => k_is)
    (case k27 => k_is)
    (case a28 => k_is)
    (case l28 => k_is)
    (case c28 => k_is)
    (case k28 => k_is)
    (case a29 => k_is)
    (case l29 => k_is)
    (case c29 => k_is)
    (case k29 => k_is)
    (case z_abs => k_is)
    (case z_tuple => k_is)
    (case z_zip => k_is)
    (case z_isinstance => k_is)
    (case z_int => k_is)
    (case z_bool => k_is)
    (case z_sorted => k_is)
    (case z_len => k_is)
    (case z_range => k_is)
    (case z_dict => k_is)
    (case z_ValueError => k_is)
    (case z_max => k_is)
    (case z_min => k_is)
    (case z_list => k_is)
    (case z_WishError => k_is)
    (case z_NoNumber => k_is)
    (case z_NoTurn => k_is)
    (case z_NoTable => k_is)
    (case kk_NoTurn => kernel_rfl)
