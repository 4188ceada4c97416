import PyProof.Rows.All
import Wide.All
import OpenK.AllK
import Wide.FinOn
import HandS.Base
import HandS.Call
import HandS.List
import HandS.Words
import HandS.Exc
import HandS.ExcOwn
import HandS.ExcIs
import HandS.Wide
import HandS.IsInst
import HandS.Style
import HandS.Comp
import HandS.Ends
import HandS.Text
import HandS.Dict
import HandS.TupAny
import HandS.TupMul
import PyProof.StrOps2
import HandS.Iter
import HandS.Zip
import HandS.Sort
import HandS.More
import HandS.Small
import HandS.WordsDict
import KE.KDictPairs
import HandS.Deep
import HandS.SortInts
import HandS.SetFor
import HandS.Strs
import HandS.Conv
import KE.DataMinMax
import HandS.SortKw
import KE.GoesEnum
import KE.GoesZip
import HandS.Finally
import HandS.ListItems
import PyProof.ReprRoads
import PyProof.ReprLen
import PyProof.FitsInt
import PyProof.Rows.StrBoot
import KE.KEqNest
import HandS.TryOnly
import KE.KDictZip
import KE.GoesMore
import HandS.ListEq
import PyProof.Rows.TupMore
import PyProof.SumWalkG
import HandS.RevRange
import KE.KItemsList
import PyProof.Rows.ReprOcc
import KE.SortData
import KE.OsRunLaw
import HandS.SetTxt0
import PyProof.NeKinds
import PyProof.Rows.StrRev
import PyProof.Rows.StrStep
import PyProof.SliceStr2
import PySem.Challenge.RW_wishboard_k13_what_lines_are
set_option Elab.async false
set_option linter.all false
set_option maxRecDepth 100000
set_option maxHeartbeats 4000000
/-! Z1: data as trees over the abstract heap; what is not owned is never changed. -/
namespace Z
open PySem PySem.Spec PyProof.Rows L2

abbrev St := L2.St
/-- a value as data: tuples, lists, dicts as trees; ref: an object by its address -/
inductive D where
  | non | bl (b : Bool) | int (i : Int) | str (x : Str) | ty (n : String) | ref (a : Addr)
  | tup (xs : List D) | lst (xs : List D) | rol (xs : List D) | dic (ks : List Key) (vs : List D) | exc (C : Addr)
  /-- a tuple of which it is known that it has no dict of its own -/
  | ptu (xs : List D)
  /-- a dict that is never changed: one may walk over it -/
  | fdi (ks : List Key) (vs : List D)

/-- an error of the class at C, as it lies at a -/
def ExD (C a : Addr) : HO := .ext fun h => ∃ (oe : Obj) (vs : Array Value), h.get? a = some oe ∧ (oe.cls = .ref C ∧ oe.dict = none) ∧ oe.data = .fields vs
mutual
inductive Rep (K : PySem.W.Frag) (G : Hp) : V → D → Prop
  | non : Rep K G .non .non
  | bl (b : Bool) : Rep K G (.bl b) (.bl b)
  | int (i : Int) : Rep K G (.int i) (.int i)
  | str (x : Str) : Rep K G (.str x) (.str x)
  | ty (n : String) : Rep K G (.ty n) (.ty n)
  | ref (a : Addr) : Rep K G (.ref a) (.ref a)
  | tup {a : Addr} {vs : List V} {ds : List D} : SqT K G a vs → Reps K G vs ds → Rep K G (.ref a) (.tup ds)
  | lst {a : Addr} {vs : List V} {ds : List D} : G a = some (.lst vs) → Reps K G vs ds → Rep K G (.ref a) (.lst ds)
  | rol {a : Addr} {vs : List V} {ds : List D} : SqL K G a vs → Reps K G vs ds → Rep K G (.ref a) (.rol ds)
  | dic {a : Addr} {ks : List Key} {vs : List V} {ds : List D} : Rd G a (.dK (ks.zip vs)) → ks.length = vs.length → Reps K G vs ds → Rep K G (.ref a) (.dic ks ds)
  | exc {a C : Addr} : G a = some (ExD C a) → Rep K G (.ref a) (.exc C)
  | ptu {a : Addr} {vs : List V} {ds : List D} {o : Obj} : G a = some (.frz o (.tup vs)) → o.dict = none → Reps K G vs ds → Rep K G (.ref a) (.ptu ds)
  | fdi {a : Addr} {ks : List Key} {vs : List V} {ds : List D} {o : Obj} : G a = some (.frz o (.dK (ks.zip vs))) → ks.length = vs.length → Reps K G vs ds → Rep K G (.ref a) (.fdi ks ds)
inductive Reps (K : PySem.W.Frag) (G : Hp) : List V → List D → Prop
  | nil : Reps K G [] []
  | cons {v : V} {vs : List V} {d : D} {ds : List D} : Rep K G v d → Reps K G vs ds → Reps K G (v :: vs) (d :: ds)
end

/-- all that stands in G stands in G' -/
abbrev Ex (G G' : Hp) : Prop := ∀ a o, G a = some o → G' a = some o
theorem Ex.rd {G G' : Hp} (e : Ex G G') {a : Addr} {u : HO} (h : Rd G a u) : Rd G' a u := by
  rcases h with h | ⟨o, h⟩
  · exact .inl (e _ _ h)
  · exact .inr ⟨o, e _ _ h⟩
theorem Ex.l {K : PySem.W.Frag} {G G' : Hp} (e : Ex G G') {a : Addr} {xs : List V} (h : SqL K G a xs) : SqL K G' a xs := h.elim (fun z => .inl (e.rd z)) .inr
theorem Ex.t {K : PySem.W.Frag} {G G' : Hp} (e : Ex G G') {a : Addr} {xs : List V} (h : SqT K G a xs) : SqT K G' a xs := h.elim (fun z => .inl (e.rd z)) .inr
mutual
theorem Rep.mono {K : PySem.W.Frag} {G G' : Hp} (e : Ex G G') : ∀ {d : D} {v : V}, Rep K G v d → Rep K G' v d
  | _, _, .non => .non
  | _, _, .bl b => .bl b
  | _, _, .int b => .int b
  | _, _, .str b => .str b
  | _, _, .ty b => .ty b
  | _, _, .ref b => .ref b
  | _, _, .tup h r => .tup (e.t h) (Reps.mono e r)
  | _, _, .lst h r => .lst (e _ _ h) (Reps.mono e r)
  | _, _, .rol h r => .rol (e.l h) (Reps.mono e r)
  | _, _, .dic h l r => .dic (e.rd h) l (Reps.mono e r)
  | _, _, .fdi h l r => .fdi (e _ _ h) l (Reps.mono e r)
  | _, _, .exc h => .exc (e _ _ h)
  | _, _, .ptu h h0 r => .ptu (e _ _ h) h0 (Reps.mono e r)
theorem Reps.mono {K : PySem.W.Frag} {G G' : Hp} (e : Ex G G') : ∀ {ds : List D} {vs : List V}, Reps K G vs ds → Reps K G' vs ds
  | _, _, .nil => .nil
  | _, _, .cons r t => .cons (Rep.mono e r) (Reps.mono e t)
end
section
variable {K : PySem.W.Frag} {G : Hp}
theorem Reps.length : ∀ {vs : List V} {ds : List D}, Reps K G vs ds → vs.length = ds.length
  | _, _, .nil => rfl
  | _, _, .cons _ t => by rw [List.length_cons, List.length_cons, Reps.length t]
theorem Reps.append : ∀ {vs ws : List V} {ds es : List D}, Reps K G vs ds → Reps K G ws es → Reps K G (vs ++ ws) (ds ++ es)
  | _, _, _, _, .nil, s => s
  | _, _, _, _, .cons r t, s => .cons r (Reps.append t s)
theorem Reps.get : ∀ {vs : List V} {ds : List D} {i : Nat} {d : D}, Reps K G vs ds → ds[i]? = some d → ∃ v, vs[i]? = some v ∧ Rep K G v d
  | _, _, _, _, .nil, e => by simp at e
  | _, _, 0, _, .cons r _, e => by simp at e; subst e; exact ⟨_, rfl, r⟩
  | _, _, i + 1, d, .cons _ t, e => by
    obtain ⟨u, h1, h2⟩ := Reps.get (i := i) (d := d) t (by simpa using e)
    exact ⟨u, by simpa using h1, h2⟩
theorem Reps.set {v : V} {d : D} (r : Rep K G v d) : ∀ {vs : List V} {ds : List D} (i : Nat), Reps K G vs ds → Reps K G (vs.set i v) (ds.set i d)
  | _, _, _, .nil => .nil
  | _, _, 0, .cons _ t => .cons r t
  | _, _, i + 1, .cons q t => .cons q (Reps.set r i t)
theorem Reps.take : ∀ {vs : List V} {ds : List D} (n : Nat), Reps K G vs ds → Reps K G (vs.take n) (ds.take n)
  | _, _, 0, _ => .nil
  | _, _, _ + 1, .nil => .nil
  | _, _, n + 1, .cons r t => .cons r (Reps.take n t)
theorem Reps.drop : ∀ {vs : List V} {ds : List D} (n : Nat), Reps K G vs ds → Reps K G (vs.drop n) (ds.drop n)
  | _, _, 0, r => r
  | _, _, _ + 1, .nil => .nil
  | _, _, n + 1, .cons _ t => Reps.drop n t
theorem Reps.ints : ∀ {vs : List V} {ns : List Int}, Reps K G vs (ns.map D.int) → vs = ns.map V.int
  | [], [], _ => rfl
  | _ :: _, _ :: _, .cons (.int _) t => by rw [List.map_cons, Reps.ints t]
theorem Reps.of_ints : ∀ (ns : List Int), Reps K G (ns.map V.int) (ns.map D.int)
  | [] => .nil
  | n :: r => .cons (.int n) (Reps.of_ints r)
theorem Reps.strs : ∀ {vs : List V} {ns : List Str}, Reps K G vs (ns.map D.str) → vs = ns.map V.str
  | [], [], _ => rfl
  | _ :: _, _ :: _, .cons (.str _) t => by rw [List.map_cons, Reps.strs t]
theorem Reps.of_strs : ∀ (ns : List Str), Reps K G (ns.map V.str) (ns.map D.str)
  | [] => .nil
  | n :: r => .cons (.str n) (Reps.of_strs r)
theorem Reps.bls : ∀ {vs : List V} {ns : List Bool}, Reps K G vs (ns.map D.bl) → vs = ns.map V.bl
  | [], [], _ => rfl
  | _ :: _, _ :: _, .cons (.bl _) t => by rw [List.map_cons, Reps.bls t]
end

/-- what is owned: lists, dicts that may be changed -/
inductive C where
  | lst (ds : List D) | dic (ks : List Key) (vs : List D)
  /-- an object of an own class: the class, where its fields' dict lies, the fields -/
  | obj (cls dx : Addr) (fs : List (Str × D))
/-- fields, as they lie there -/
def RFs (K : PySem.W.Frag) (G : Hp) : List (Str × V) → List (Str × D) → Prop := Paired fun p q => p.1 = q.1 ∧ Rep K G p.2 q.2
theorem RFs.mono {K : PySem.W.Frag} {G G' : Hp} (e : Ex G G') {vs : List (Str × V)} {fs : List (Str × D)} (h : RFs K G vs fs) : RFs K G' vs fs := by
  unfold RFs at h ⊢
  induction h with
  | nil => exact .nil
  | cons a _ ih => exact .cons ⟨a.1, a.2.mono e⟩ ih
abbrev M := Addr → Option C
def upM (m : M) (a : Addr) (c : C) : M := fun b => if b = a then some c else m b
def noM : M := fun _ => none
def dropM (m : M) (a : Addr) : M := fun b => if b = a then none else m b
theorem upM_same {m : M} {a : Addr} {c : C} : upM m a c a = some c := if_pos rfl
theorem upM_ne {m : M} {a b : Addr} {c : C} (h : b ≠ a) : upM m a c b = m b := if_neg h
theorem upM_upM {m : M} {a : Addr} {c c' : C} : upM (upM m a c) a c' = upM m a c' := by
  funext b; unfold upM; split <;> rfl
theorem upM_comm {m : M} {a b : Addr} {c c' : C} (h : a ≠ b) : upM (upM m a c) b c' = upM (upM m b c') a c := by
  funext x; unfold upM
  by_cases h1 : x = a
  · by_cases h2 : x = b
    · exact absurd (h1.symm.trans h2) h
    · rw [if_neg h2, if_pos h1, if_pos h1]
  · by_cases h2 : x = b
    · rw [if_pos h2, if_neg h1, if_pos h2]
    · rw [if_neg h2, if_neg h1, if_neg h1, if_neg h2]
theorem ne_ofM {m : M} {a b : Addr} {c : C} (h : m a = some c) (h' : m b = none) : a ≠ b := fun e => by
  subst e; rw [h] at h'; cases h'
/-- the heap without what is owned -/
def hid (m : M) (H : Hp) : Hp := fun a => if m a = none then H a else none
theorem hid_some {m : M} {H : Hp} {a : Addr} {o : HO} (h : hid m H a = some o) : m a = none ∧ H a = some o := by
  unfold hid at h
  by_cases e : m a = none
  · rw [if_pos e] at h; exact ⟨e, h⟩
  · rw [if_neg e] at h; cases h
theorem hid_of {m : M} {H : Hp} {a : Addr} {o : HO} (e : m a = none) (h : H a = some o) : hid m H a = some o := by
  unfold hid; rw [if_pos e]; exact h
theorem hid_ex {m : M} {H : Hp} : Ex (hid m H) H := fun _ _ h => (hid_some h).2
theorem hid_no {H : Hp} : hid noM H = H := by funext a; unfold hid noM; rw [if_pos rfl]
def CellOk (K : PySem.W.Frag) (H G : Hp) (a : Addr) : C → Prop
  | .lst ds => ∃ vs, H a = some (.lst vs) ∧ Reps K G vs ds
  | .dic ks ds => ∃ vs, H a = some (.dK (ks.zip vs)) ∧ ks.length = vs.length ∧ Reps K G vs ds
  | .obj cls dx fs => ∃ vs, H a = some (.ins cls dx vs) ∧ RFs K G vs fs
def MemOk (K : PySem.W.Frag) (m : M) (H : Hp) : Prop := ∀ a c, m a = some c → CellOk K H (hid m H) a c
theorem CellOk.mono {K : PySem.W.Frag} {H H' G G' : Hp} {a : Addr} {c : C} (h : CellOk K H G a c) (e : H' a = H a) (x : Ex G G') : CellOk K H' G' a c := by
  cases c with
  | lst ds => obtain ⟨vs, h1, h2⟩ := h; exact ⟨vs, e.trans h1, h2.mono x⟩
  | dic ks ds => obtain ⟨vs, h1, h2, h3⟩ := h; exact ⟨vs, e.trans h1, h2, h3.mono x⟩
  | obj cls dx fs => obtain ⟨vs, h1, h2⟩ := h; exact ⟨vs, e.trans h1, h2.mono x⟩
theorem MemOk.no {K : PySem.W.Frag} {H : Hp} : MemOk K noM H := fun _ _ h => nomatch h
theorem MemOk.fresh {K : PySem.W.Frag} {m : M} {H : Hp} (h : MemOk K m H) {p : Addr} (hp : H p = none) : m p = none := by
  cases e : m p with
  | none => rfl
  | some c =>
    have := h p c e
    cases c with
    | lst ds => obtain ⟨vs, h1, _⟩ := this; rw [hp] at h1; cases h1
    | dic ks ds => obtain ⟨vs, h1, _⟩ := this; rw [hp] at h1; cases h1
    | obj cls dx fs => obtain ⟨vs, h1, _⟩ := this; rw [hp] at h1; cases h1

/-- from (m, H) to (m', H'): what is not owned stays, and is not owned behind -/
structure Step (K : PySem.W.Frag) (m : M) (H : Hp) (m' : M) (H' : Hp) : Prop where
  keep : ∀ a o, H a = some o → m a = none → H' a = some o ∧ m' a = none
  mem : MemOk K m' H'
theorem Step.ex {K : PySem.W.Frag} {m m' : M} {H H' : Hp} (s : Step K m H m' H') : Ex (hid m H) (hid m' H') := fun a o h =>
  let ⟨h1, h2⟩ := hid_some h
  let ⟨h3, h4⟩ := s.keep a o h2 h1
  hid_of h4 h3
theorem Step.refl {K : PySem.W.Frag} {m : M} {H : Hp} (h : MemOk K m H) : Step K m H m H := ⟨fun _ _ a b => ⟨a, b⟩, h⟩
theorem Step.trans {K : PySem.W.Frag} {m m1 m2 : M} {H H1 H2 : Hp} (a : Step K m H m1 H1) (b : Step K m1 H1 m2 H2) : Step K m H m2 H2 :=
  ⟨fun x o h1 h2 => let ⟨h3, h4⟩ := a.keep x o h1 h2; b.keep x o h3 h4, b.mem⟩
/-- a new object, not owned -/
theorem Step.new {K : PySem.W.Frag} {m : M} {H : Hp} {p : Addr} {o : HO} (h : MemOk K m H) (hp : H p = none) : Step K m H m (upd H p o) := by
  have e : Ex (hid m H) (hid m (upd H p o)) := fun a u z => by
    obtain ⟨z1, z2⟩ := hid_some z
    exact hid_of z1 (by rw [upd_ne (ne_of_none z2 hp)]; exact z2)
  refine ⟨fun a u h1 h2 => ⟨by rw [upd_ne (ne_of_none h1 hp)]; exact h1, h2⟩, fun a c hc => (h a c hc).mono ?_ e⟩
  have hm := h.fresh hp
  rw [upd_ne (ne_ofM hc hm)]
theorem Step.new_at {K : PySem.W.Frag} {m : M} {H : Hp} {p : Addr} {o : HO} (h : MemOk K m H) (hp : H p = none) : hid m (upd H p o) p = some o := hid_of (h.fresh hp) upd_same
/-- a new object, owned -/
theorem Step.newM {K : PySem.W.Frag} {m : M} {H : Hp} {p : Addr} {o : HO} {c : C} (h : MemOk K m H) (hp : H p = none) (hc : CellOk K (upd H p o) (hid m H) p c) : Step K m H (upM m p c) (upd H p o) := by
  have hm := h.fresh hp
  have e : Ex (hid m H) (hid (upM m p c) (upd H p o)) := fun a u z => by
    obtain ⟨z1, z2⟩ := hid_some z
    exact hid_of (by rw [upM_ne (ne_of_none z2 hp)]; exact z1) (by rw [upd_ne (ne_of_none z2 hp)]; exact z2)
  refine ⟨fun a u h1 h2 => ⟨by rw [upd_ne (ne_of_none h1 hp)]; exact h1, by rw [upM_ne (ne_of_none h1 hp)]; exact h2⟩, fun a c' hc' => ?_⟩
  by_cases ha : a = p
  · subst ha
    rw [upM_same] at hc'; cases hc'
    exact hc.mono rfl e
  · rw [upM_ne ha] at hc'
    exact (h a c' hc').mono (by rw [upd_ne ha]) e
/-- an owned object changes -/
theorem Step.upM {K : PySem.W.Frag} {m : M} {H : Hp} {p : Addr} {o : HO} {c0 c : C} (h : MemOk K m H) (hm : m p = some c0) (hc : CellOk K (upd H p o) (hid m H) p c) : Step K m H (upM m p c) (upd H p o) := by
  have e : Ex (hid m H) (hid (Z.upM m p c) (upd H p o)) := fun a u z => by
    obtain ⟨z1, z2⟩ := hid_some z
    have ne : a ≠ p := fun q => by subst q; rw [hm] at z1; cases z1
    exact hid_of (by rw [upM_ne ne]; exact z1) (by rw [upd_ne ne]; exact z2)
  refine ⟨fun a u h1 h2 => ?_, fun a c' hc' => ?_⟩
  · have ne : a ≠ p := fun q => by subst q; rw [hm] at h2; cases h2
    exact ⟨by rw [upd_ne ne]; exact h1, by rw [upM_ne ne]; exact h2⟩
  · by_cases ha : a = p
    · subst ha
      rw [upM_same] at hc'; cases hc'
      exact hc.mono rfl e
    · rw [upM_ne ha] at hc'
      exact (h a c' hc').mono (by rw [upd_ne ha]) e
/-- an owned object is given up -/
theorem Step.dropM {K : PySem.W.Frag} {m : M} {H : Hp} {p : Addr} (h : MemOk K m H) : Step K m H (dropM m p) H := by
  have e : Ex (hid m H) (hid (Z.dropM m p) H) := fun a u z => by
    obtain ⟨z1, z2⟩ := hid_some z
    refine hid_of ?_ z2
    unfold Z.dropM
    by_cases q : a = p
    · rw [if_pos q]
    · rw [if_neg q]; exact z1
  refine ⟨fun a u h1 h2 => ⟨h1, ?_⟩, fun a c hc => ?_⟩
  · unfold Z.dropM
    by_cases q : a = p
    · rw [if_pos q]
    · rw [if_neg q]; exact h2
  · unfold Z.dropM at hc
    by_cases q : a = p
    · rw [if_pos q] at hc; cases hc
    · rw [if_neg q] at hc
      exact (h a c hc).mono rfl e
/-- less is owned -/
theorem Step.sub {K : PySem.W.Frag} {m m' : M} {H : Hp} (h : MemOk K m H) (hs : ∀ a c, m' a = some c → m a = some c) : Step K m H m' H := by
  have no : ∀ a, m a = none → m' a = none := fun a ha => by
    cases e : m' a with
    | none => rfl
    | some c => rw [hs a c e] at ha; cases ha
  have e : Ex (hid m H) (hid m' H) := fun a u z => by
    obtain ⟨z1, z2⟩ := hid_some z
    exact hid_of (no a z1) z2
  exact ⟨fun a u h1 h2 => ⟨h1, no a h2⟩, fun a c hc => (h a c (hs a c hc)).mono rfl e⟩

/-! ### slots -/
abbrev Sl := List (Option D)
/-- what must stand; what is wished where an error flies: its class, the slots, what is owned -/
structure Bx where
  kp : Hp
  ex : Value → Sl → M → Prop
abbrev Bx.no : Bx := ⟨fun _ => none, fun _ _ _ => False⟩
structure SlotOk (K : PySem.W.Frag) (ω : Bx) (g : Sl) (σ : St) (G : Hp) : Prop where
  tie : Ex ω.kp G
  len : g.length = σ.length
  val : ∀ (i : Nat) (d : D), g[i]? = some (some d) → ∃ v, σ[i]? = some (some v) ∧ Rep K G v d
theorem SlotOk.mono {K : PySem.W.Frag} {ω : Bx} {g : Sl} {σ : St} {G G' : Hp} (s : SlotOk K ω g σ G) (e : Ex G G') : SlotOk K ω g σ G' :=
  ⟨fun a o h => e a o (s.tie a o h), s.len, fun i d h => let ⟨v, h1, h2⟩ := s.val i d h; ⟨v, h1, h2.mono e⟩⟩
theorem SlotOk.set {K : PySem.W.Frag} {ω : Bx} {g : Sl} {σ : St} {G : Hp} (s : SlotOk K ω g σ G) {i : Nat} {v : V} {d : D} (r : Rep K G v d) : SlotOk K ω (g.set i (some d)) (σ.set i (some v)) G := by
  refine ⟨s.tie, by rw [List.length_set, List.length_set]; exact s.len, fun j e h => ?_⟩
  by_cases hj : i = j
  · subst hj
    by_cases hl : i < g.length
    · rw [List.getElem?_set_self hl] at h
      cases h
      exact ⟨v, by rw [List.getElem?_set_self (by rw [← s.len]; exact hl)], r⟩
    · rw [List.getElem?_eq_none (by rw [List.length_set]; omega)] at h; cases h
  · rw [List.getElem?_set_ne hj] at h
    obtain ⟨w, h1, h2⟩ := s.val j e h
    exact ⟨w, by rw [List.getElem?_set_ne hj]; exact h1, h2⟩
/-- less is known of the slots, or the same otherwise -/
theorem SlotOk.start {K : PySem.W.Frag} {ω : Bx} {G : Hp} {vs : List V} {ds : List D} (N : List Str) (k : Ex ω.kp G) (r : Reps K G vs ds) : SlotOk K ω (ds.map some ++ List.replicate (N.length - ds.length) none) (start N vs) G := by
  have hl := r.length
  unfold L2.start
  refine ⟨k, by simp only [List.length_append, List.length_map, List.length_replicate]; omega, fun i d h => ?_⟩
  by_cases hi : i < ds.length
  · rw [List.getElem?_append_left (by simpa using hi), List.getElem?_map] at h
    cases e : ds[i]? with
    | none => rw [e] at h; cases h
    | some d' =>
      rw [e] at h; cases h
      obtain ⟨v, h1, h2⟩ := r.get e
      exact ⟨v, by rw [List.getElem?_append_left (by rw [List.length_map]; omega), List.getElem?_map, h1] <;> rfl, h2⟩
  · rw [List.getElem?_append_right (by rw [List.length_map]; omega), List.getElem?_replicate] at h
    split at h <;> cases h

/-! ### the judgements -/
abbrev Kd := D → M → Prop
abbrev TE2 := Sl → M → Kd → Prop
abbrev TT2 := Sl → M → (Bool → M → Prop) → Prop
abbrev TA2 := Sl → M → (List D → M → Prop) → Prop
structure Ends2 where
  nx : Sl → M → Prop
  rt : Kd
  bk : Sl → M → Prop := fun _ _ => False
  ct : Sl → M → Prop := fun _ _ => False
abbrev TS2 := Ends2 → Sl → M → Prop
/-- the end of an expression, seen from (m, H) -/
def P2 (K : PySem.W.Frag) (m : M) (H : Hp) (Q : Kd) : VK := fun v H' => ∃ d m', Step K m H m' H' ∧ Rep K (hid m' H') v d ∧ Q d m'
def P2T (K : PySem.W.Frag) (m : M) (H : Hp) (Q : Bool → M → Prop) : Bool → Hp → Prop := fun b H' => ∃ m', Step K m H m' H' ∧ Q b m'
def P2A (K : PySem.W.Frag) (m : M) (H : Hp) (Q : List D → M → Prop) : List V → Hp → Prop := fun vs H' => ∃ ds m', Step K m H m' H' ∧ Reps K (hid m' H') vs ds ∧ Q ds m'
def P2S (K : PySem.W.Frag) (ω : Bx) (m : M) (H : Hp) (Q : Sl → M → Prop) : St → Hp → Prop := fun σ' H' => ∃ g' m', Step K m H m' H' ∧ SlotOk K ω g' σ' (hid m' H') ∧ Q g' m'
def cE (K : PySem.W.Frag) (ω : Bx) (m : M) (H : Hp) (E : Ends2) : Ends := ⟨P2S K ω m H E.nx, P2 K m H E.rt, P2S K ω m H E.bk, P2S K ω m H E.ct⟩

section
variable {K : PySem.W.Frag} {ω : Bx} {m m1 : M} {H H1 : Hp}
theorem P2.go (s : Step K m H m1 H1) {Q : Kd} {v : V} {H' : Hp} (h : P2 K m1 H1 Q v H') : P2 K m H Q v H' := let ⟨d, m', a, b, c⟩ := h; ⟨d, m', s.trans a, b, c⟩
theorem P2T.go (s : Step K m H m1 H1) {Q : Bool → M → Prop} {v : Bool} {H' : Hp} (h : P2T K m1 H1 Q v H') : P2T K m H Q v H' := let ⟨m', a, c⟩ := h; ⟨m', s.trans a, c⟩
theorem P2A.go (s : Step K m H m1 H1) {Q : List D → M → Prop} {v : List V} {H' : Hp} (h : P2A K m1 H1 Q v H') : P2A K m H Q v H' := let ⟨d, m', a, b, c⟩ := h; ⟨d, m', s.trans a, b, c⟩
theorem P2S.go (s : Step K m H m1 H1) {Q : Sl → M → Prop} {v : St} {H' : Hp} (h : P2S K ω m1 H1 Q v H') : P2S K ω m H Q v H' := let ⟨d, m', a, b, c⟩ := h; ⟨d, m', s.trans a, b, c⟩
theorem P2.same (hm : MemOk K m H) {Q : Kd} {v : V} {d : D} (r : Rep K (hid m H) v d) (q : Q d m) : P2 K m H Q v H := ⟨d, m, .refl hm, r, q⟩
theorem P2.new (hm : MemOk K m H) {Q : Kd} {p : Addr} {o : HO} {d : D} (hp : H p = none) (r : Rep K (hid m (upd H p o)) (.ref p) d) (q : Q d m) : P2 K m H Q (.ref p) (upd H p o) := ⟨d, m, .new hm hp, r, q⟩
end

def semE (X : Cx) (e : Expr) : TE := fun σ H Q => ∀ pins s, Inv X pins σ H s → wpAny (model X.prog X.w) X.A (eval e X.env) (EP X pins σ Q) X.xe s
def semT (X : Cx) (e : Expr) : TT := fun σ H Q => ∀ pins s, Inv X pins σ H s → wpAny (model X.prog X.w) X.A (isTrue e X.env (eval e X.env)) (TP X pins σ Q) X.xe s
def semA (X : Cx) (es : List Expr) : TA := fun σ H Q => ∀ (pos : Pos) pins s, Inv X pins σ H s → wpAny (model X.prog X.w) X.A (spliced (backTo pos (starEach es X.env))) (AP X pins σ Q) X.xe s
def semS (X : Cx) (st : Stmt) : TS := fun D σ H => ∀ pins s, Inv X pins σ H s → wpAny (model X.prog X.w) X.A (exec st X.env) (SP X pins D) X.xe s
def semSs (X : Cx) (st : List Stmt) : TS := fun D σ H => ∀ pins s, Inv X pins σ H s → wpAny (model X.prog X.w) X.A (execs st X.env) (SP X pins D) X.xe s
section
variable {X : Cx} {ω : Bx} {e : Expr} {es : List Expr} {st : Stmt} {sts : List Stmt} {σ : St} {H : Hp}
theorem pe_sem : PE X e (semE X e) := ⟨fun pins s σ H Q I h => h pins s I⟩
theorem pt_sem : PT X e (semT X e) := ⟨fun pins s σ H Q I h => h pins s I⟩
theorem pa_sem : PA X es (semA X es) := ⟨fun pos pins s σ H Q I h => h pos pins s I⟩
theorem ps_sem : PS X st (semS X st) := ⟨fun pins s σ H Q I h => h pins s I⟩
theorem pss_sem : PSs X sts (semSs X sts) := ⟨fun pins s σ H Q I h => h pins s I⟩
theorem semE.mono {Q Q' : VK} (h : semE X e σ H Q) (k : ∀ v H', Q v H' → Q' v H') : semE X e σ H Q' := fun pins s I => thn (h pins s I) fun _ _ ⟨v, H', a, b, c⟩ => ⟨v, H', a, b, k _ _ c⟩
theorem semT.mono {Q Q' : Bool → Hp → Prop} (h : semT X e σ H Q) (k : ∀ v H', Q v H' → Q' v H') : semT X e σ H Q' := fun pins s I => thn (h pins s I) fun _ _ ⟨H', a, c⟩ => ⟨H', a, k _ _ c⟩
theorem semA.mono {Q Q' : List V → Hp → Prop} (h : semA X es σ H Q) (k : ∀ v H', Q v H' → Q' v H') : semA X es σ H Q' := fun pos pins s I => thn (h pos pins s I) fun _ _ ⟨v, H', a, b, c⟩ => ⟨v, H', a, b, k _ _ c⟩
theorem SP.mono {pins : List (Addr × Obj)} {D D' : Ends} (h1 : ∀ a b, D.nx a b → D'.nx a b) (h2 : ∀ a b, D.rt a b → D'.rt a b) (h3 : ∀ a b, D.bk a b → D'.bk a b) (h4 : ∀ a b, D.ct a b → D'.ct a b) {f : Flow} {s : Shared} (h : SP X pins D f s) : SP X pins D' f s := by
  cases f with
  | next => obtain ⟨a, b, c, d⟩ := h; exact ⟨a, b, c, h1 _ _ d⟩
  | brk => obtain ⟨a, b, c, d⟩ := h; exact ⟨a, b, c, h3 _ _ d⟩
  | cont => obtain ⟨a, b, c, d⟩ := h; exact ⟨a, b, c, h4 _ _ d⟩
  | ret u => obtain ⟨a, b, c, d, e, g⟩ := h; exact ⟨a, b, c, d, e, h2 _ _ g⟩
theorem semS.mono {D D' : Ends} (h : semS X st D σ H) (h1 : ∀ a b, D.nx a b → D'.nx a b) (h2 : ∀ a b, D.rt a b → D'.rt a b) (h3 : ∀ a b, D.bk a b → D'.bk a b) (h4 : ∀ a b, D.ct a b → D'.ct a b) : semS X st D' σ H := fun pins s I => thn (h pins s I) fun _ _ q => SP.mono h1 h2 h3 h4 q
theorem semSs.mono {D D' : Ends} (h : semSs X sts D σ H) (h1 : ∀ a b, D.nx a b → D'.nx a b) (h2 : ∀ a b, D.rt a b → D'.rt a b) (h3 : ∀ a b, D.bk a b → D'.bk a b) (h4 : ∀ a b, D.ct a b → D'.ct a b) : semSs X sts D' σ H := fun pins s I => thn (h pins s I) fun _ _ q => SP.mono h1 h2 h3 h4 q
end

structure PE2 (X : Cx) (ω : Bx) (e : Expr) (t : TE2) : Prop where
  sem : ∀ {σ : St} {H : Hp} {g : Sl} {m : M} {Q : Kd}, SlotOk X.K ω g σ (hid m H) → MemOk X.K m H → t g m Q → semE X e σ H (P2 X.K m H Q)
structure PT2 (X : Cx) (ω : Bx) (e : Expr) (t : TT2) : Prop where
  sem : ∀ {σ : St} {H : Hp} {g : Sl} {m : M} {Q : Bool → M → Prop}, SlotOk X.K ω g σ (hid m H) → MemOk X.K m H → t g m Q → semT X e σ H (P2T X.K m H Q)
structure PA2 (X : Cx) (ω : Bx) (es : List Expr) (t : TA2) : Prop where
  sem : ∀ {σ : St} {H : Hp} {g : Sl} {m : M} {Q : List D → M → Prop}, SlotOk X.K ω g σ (hid m H) → MemOk X.K m H → t g m Q → semA X es σ H (P2A X.K m H Q)
structure PS2 (X : Cx) (ω : Bx) (st : Stmt) (t : TS2) : Prop where
  sem : ∀ {σ : St} {H : Hp} {g : Sl} {m : M} {E : Ends2}, SlotOk X.K ω g σ (hid m H) → MemOk X.K m H → t E g m → semS X st (cE X.K ω m H E) σ H
structure PSs2 (X : Cx) (ω : Bx) (st : List Stmt) (t : TS2) : Prop where
  sem : ∀ {σ : St} {H : Hp} {g : Sl} {m : M} {E : Ends2}, SlotOk X.K ω g σ (hid m H) → MemOk X.K m H → t E g m → semSs X st (cE X.K ω m H E) σ H
theorem _root_.L2.PE.to2 {X : Cx} {ω : Bx} {e : Expr} {t : TE} {t2 : TE2} (h : PE X e t) (c : ∀ (σ : St) (H : Hp) (g : Sl) (m : M) (Q : Kd), SlotOk X.K ω g σ (hid m H) → MemOk X.K m H → t2 g m Q → t σ H (P2 X.K m H Q)) : PE2 X ω e t2 :=
  ⟨fun S hm q pins s I => h.run pins s _ _ _ I (c _ _ _ _ _ S hm q)⟩
theorem _root_.L2.PT.to2 {X : Cx} {ω : Bx} {e : Expr} {t : TT} {t2 : TT2} (h : PT X e t) (c : ∀ (σ : St) (H : Hp) (g : Sl) (m : M) (Q : Bool → M → Prop), SlotOk X.K ω g σ (hid m H) → MemOk X.K m H → t2 g m Q → t σ H (P2T X.K m H Q)) : PT2 X ω e t2 :=
  ⟨fun S hm q pins s I => h.run pins s _ _ _ I (c _ _ _ _ _ S hm q)⟩
theorem _root_.L2.PA.to2 {X : Cx} {ω : Bx} {e : List Expr} {t : TA} {t2 : TA2} (h : PA X e t) (c : ∀ (σ : St) (H : Hp) (g : Sl) (m : M) (Q : List D → M → Prop), SlotOk X.K ω g σ (hid m H) → MemOk X.K m H → t2 g m Q → t σ H (P2A X.K m H Q)) : PA2 X ω e t2 :=
  ⟨fun S hm q pos pins s I => h.run pos pins s _ _ _ I (c _ _ _ _ _ S hm q)⟩
theorem _root_.L2.PS.to2 {X : Cx} {ω : Bx} {e : Stmt} {t : TS} {t2 : TS2} (h : PS X e t) (c : ∀ (σ : St) (H : Hp) (g : Sl) (m : M) (E : Ends2), SlotOk X.K ω g σ (hid m H) → MemOk X.K m H → t2 E g m → t (cE X.K ω m H E) σ H) : PS2 X ω e t2 :=
  ⟨fun S hm q pins s I => h.run pins s _ _ _ I (c _ _ _ _ _ S hm q)⟩
theorem _root_.L2.PSs.to2 {X : Cx} {ω : Bx} {e : List Stmt} {t : TS} {t2 : TS2} (h : PSs X e t) (c : ∀ (σ : St) (H : Hp) (g : Sl) (m : M) (E : Ends2), SlotOk X.K ω g σ (hid m H) → MemOk X.K m H → t2 E g m → t (cE X.K ω m H E) σ H) : PSs2 X ω e t2 :=
  ⟨fun S hm q pins s I => h.run pins s _ _ _ I (c _ _ _ _ _ S hm q)⟩
end Z

/-! Z2: expressions over data. -/
namespace Z
/-- a stop point: nothing is unfolded beyond it -/
structure Box (p : Prop) : Prop where
  mk :: (out : p)
open PySem PySem.Spec PyProof.Rows L2

/-! ### an owned object read as a value -/
def res (m : M) (x : D) : D := match x with
  | .ref p => match m p with
    | some (.lst ds) => .lst ds
    | some (.dic ks vs) => .dic ks vs
    | some (.obj _ _ _) => .ref p
    | none => .ref p
  | .ptu ds => .tup ds
  | .fdi ks vs => .dic ks vs
  | x => x
section
variable {K : PySem.W.Frag} {m : M} {H : Hp} {v : V} {d : D}
/-- the items of a list -/
def lsD : D → Option (List D) | .lst ds => some ds | .rol ds => some ds | _ => none
theorem lstT {ds : List D} (r : Rep K (hid m H) v d) (hm : MemOk K m H) (e : res m d = .lst ds) : ∃ a vs, v = .ref a ∧ H a = some (.lst vs) ∧ Reps K (hid m H) vs ds := by
  cases r with
  | lst h1 h2 => cases e; exact ⟨_, _, rfl, hid_ex _ _ h1, h2⟩
  | ref a =>
    unfold res at e
    cases q : m a with
    | none => simp only [q] at e; cases e
    | some c =>
      cases c with
      | lst es =>
        simp only [q] at e; cases e
        obtain ⟨vs, h1, h2⟩ := hm a _ q
        exact ⟨a, vs, rfl, h1, h2⟩
      | dic ks es => simp only [q] at e; cases e
      | obj _ _ _ => simp only [q] at e; cases e
  | _ => cases e
theorem lstOf {ds : List D} (r : Rep K (hid m H) v d) (hm : MemOk K m H) (e : lsD (res m d) = some ds) : ∃ a vs, v = .ref a ∧ SqL K H a vs ∧ Reps K (hid m H) vs ds := by
  cases r with
  | lst h1 h2 => cases e; exact ⟨_, _, rfl, SqL.of (hid_ex _ _ h1), h2⟩
  | rol h1 h2 => cases e; exact ⟨_, _, rfl, hid_ex.l h1, h2⟩
  | ref a =>
    unfold res at e
    cases q : m a with
    | none => simp only [q] at e; cases e
    | some c =>
      cases c with
      | lst es =>
        simp only [q] at e; cases e
        obtain ⟨vs, h1, h2⟩ := hm a _ q
        exact ⟨a, vs, rfl, SqL.of h1, h2⟩
      | dic ks es => simp only [q] at e; cases e
      | obj _ _ _ => simp only [q] at e; cases e
  | _ => cases e
theorem tupOf {ds : List D} (r : Rep K (hid m H) v d) (e : res m d = .tup ds) : ∃ a vs, v = .ref a ∧ SqT K H a vs ∧ Reps K (hid m H) vs ds := by
  cases r with
  | tup h1 h2 => cases e; exact ⟨_, _, rfl, hid_ex.t h1, h2⟩
  | ptu h1 h0 h2 => cases e; exact ⟨_, _, rfl, .inl (.inr ⟨_, hid_ex _ _ h1⟩), h2⟩
  | ref a =>
    unfold res at e
    cases q : m a with
    | none => simp only [q] at e; cases e
    | some c => cases c <;> (simp only [q] at e; cases e)
  | _ => cases e
theorem repRes (r : Rep K (hid m H) v d) (hm : MemOk K m H) : Rep K H v (res m d) := by
  cases r with
  | ref a =>
    cases q : m a with
    | none => simp only [res, q]; exact .ref a
    | some c =>
      cases c with
      | lst es =>
        simp only [res, q]
        obtain ⟨vs, h1, h2⟩ := hm a _ q
        exact .lst h1 (h2.mono hid_ex)
      | dic ks es =>
        simp only [res, q]
        obtain ⟨vs, h1, h0, h2⟩ := hm a _ q
        exact .dic (.inl h1) h0 (h2.mono hid_ex)
      | obj _ _ _ => simp only [res, q]; exact .ref a
  | non => exact .non
  | bl b => exact .bl b
  | int b => exact .int b
  | str b => exact .str b
  | ty b => exact .ty b
  | tup h1 h2 => exact .tup (hid_ex.t h1) (h2.mono hid_ex)
  | lst h1 h2 => exact .lst (hid_ex _ _ h1) (h2.mono hid_ex)
  | rol h1 h2 => exact .rol (hid_ex.l h1) (h2.mono hid_ex)
  | dic h1 h0 h2 => exact .dic (Ex.rd hid_ex h1) h0 (h2.mono hid_ex)
  | fdi h1 h0 h2 => exact .dic (.inr ⟨_, hid_ex _ _ h1⟩) h0 (h2.mono hid_ex)
  | exc h => exact .exc (hid_ex _ _ h)
  | ptu h1 h0 h2 => exact .tup (.inl (.inr ⟨_, hid_ex _ _ h1⟩)) (h2.mono hid_ex)
end

/-! ### == of data -/
mutual
def py : D → PyData
  | .non => .none | .bl b => .bool b | .int i => .int i | .str x => .str x
  | .tup xs => .tuple (pys xs) | .ptu xs => .tuple (pys xs) | .lst xs => .list (pys xs) | .rol xs => .list (pys xs)
  | .ty _ => .none | .ref _ => .none | .dic _ _ => .none | .fdi _ _ => .none | .exc _ => .none
def pys : List D → List PyData
  | [] => []
  | x :: r => py x :: pys r
end
mutual
/-- data of at most that depth, without objects -/
def okD : Nat → D → Bool
  | _, .non => true | _, .bl _ => true | _, .int _ => true
  | _, .str x => x.cps.all (· < 0x110000)
  | 0, .tup _ => false | n + 1, .tup xs => okDs n xs
  | 0, .ptu _ => false | n + 1, .ptu xs => okDs n xs
  | 0, .lst _ => false | n + 1, .lst xs => okDs n xs
  | 0, .rol _ => false | n + 1, .rol xs => okDs n xs
  | _, .ty _ => false | _, .ref _ => false | _, .dic _ _ => false | _, .fdi _ _ => false | _, .exc _ => false
def okDs : Nat → List D → Bool
  | _, [] => true
  | n, x :: r => okD n x && okDs n r
end
def eqD (x y : D) : Bool := PyData.eqv (py x) (py y)
theorem okDs_of {n : Nat} : ∀ {ds : List D}, (∀ d ∈ ds, okD n d = true) → okDs n ds = true
  | [], _ => by simp only [okDs]
  | x :: r, h => by simp only [okDs, h x List.mem_cons_self, okDs_of fun d hd => h d (List.mem_cons_of_mem _ hd), Bool.and_self]
mutual
theorem okD_lay : ∀ (n : Nat) (d : D), okD n d = true → (py d).canLay0 = true ∧ (py d).depth ≤ n
  | n, .non, _ => by simp [py, PyData.canLay0, PyData.depth]
  | n, .bl _, _ => by simp [py, PyData.canLay0, PyData.depth]
  | n, .int _, _ => by simp [py, PyData.canLay0, PyData.depth]
  | n, .str x, h => by
    have h' : x.cps.all (· < 0x110000) = true := by simpa only [okD] using h
    refine ⟨?_, by simp [py, PyData.depth]⟩
    simp only [py, PyData.canLay0]
    exact h'
  | 0, .ptu xs, h => by simp [okD] at h
  | n + 1, .ptu xs, h => by
    have ⟨a, b⟩ := okDs_lay n xs (by simpa only [okD] using h)
    simp only [py, PyData.canLay0, PyData.depth]
    exact ⟨a, by omega⟩
  | 0, .tup xs, h => by simp [okD] at h
  | n + 1, .tup xs, h => by
    have ⟨a, b⟩ := okDs_lay n xs (by simpa only [okD] using h)
    simp only [py, PyData.canLay0, PyData.depth]
    exact ⟨a, by omega⟩
  | 0, .lst xs, h => by simp [okD] at h
  | n + 1, .lst xs, h => by
    have ⟨a, b⟩ := okDs_lay n xs (by simpa only [okD] using h)
    simp only [py, PyData.canLay0, PyData.depth]
    exact ⟨a, by omega⟩
  | 0, .rol xs, h => by simp [okD] at h
  | n + 1, .rol xs, h => by
    have ⟨a, b⟩ := okDs_lay n xs (by simpa only [okD] using h)
    simp only [py, PyData.canLay0, PyData.depth]
    exact ⟨a, by omega⟩
  | n, .ty _, h => by simp [okD] at h
  | n, .ref _, h => by simp [okD] at h
  | n, .dic _ _, h => by simp [okD] at h
  | n, .fdi _ _, h => by simp [okD] at h
  | n, .exc _, h => by simp [okD] at h
theorem okDs_lay : ∀ (n : Nat) (ds : List D), okDs n ds = true → PyData.canLayAll0 (pys ds) = true ∧ PyData.depthAll (pys ds) ≤ n
  | n, [], _ => by simp [pys, PyData.canLayAll0, PyData.depthAll]
  | n, x :: r, h => by
    simp only [okDs, Bool.and_eq_true] at h
    have ⟨a, b⟩ := okD_lay n x h.1
    have ⟨c, d⟩ := okDs_lay n r h.2
    simp only [pys, PyData.canLayAll0, PyData.depthAll, a, c]
    exact ⟨rfl, by omega⟩
end
theorem okD_shaped {n : Nat} {d : D} (h : okD n d = true) (hn : n ≤ 64) : SeqAt.shaped (py d) = true := by
  have ⟨a, b⟩ := okD_lay n d h
  unfold SeqAt.shaped
  rw [a, Bool.true_and]
  exact decide_eq_true (by omega)
mutual
theorem Rep.dp {K : PySem.W.Frag} {G : Hp} {n : Nat} : ∀ {d : D} {v : V}, Rep K G v d → okD n d = true → Dp K G v (py d)
  | _, _, .non, _ => by simp only [py]; exact .non
  | _, _, .bl b, _ => by simp only [py]; exact .bl b
  | _, _, .int b, _ => by simp only [py]; exact .int b
  | _, _, .str b, _ => by simp only [py]; exact .str b
  | _, _, .ty b, h => by simp [okD] at h
  | _, _, .ref b, h => by simp [okD] at h
  | _, _, .tup h1 r, h => by
    simp only [py]
    cases n with
    | zero => simp [okD] at h
    | succ n => exact .tup h1 (Reps.dp r (n := n) (by simpa only [okD] using h))
  | _, _, .lst h1 r, h => by
    simp only [py]
    cases n with
    | zero => simp [okD] at h
    | succ n => exact .lst (SqL.of h1) (Reps.dp r (n := n) (by simpa only [okD] using h))
  | _, _, .rol h1 r, h => by
    simp only [py]
    cases n with
    | zero => simp [okD] at h
    | succ n => exact .lst h1 (Reps.dp r (n := n) (by simpa only [okD] using h))
  | _, _, .dic _ _ _, h => by simp [okD] at h
  | _, _, .fdi _ _ _, h => by simp [okD] at h
  | _, _, .exc _, h => by simp [okD] at h
  | _, _, .ptu h1 _ r, h => by
    simp only [py]
    cases n with
    | zero => simp [okD] at h
    | succ n => exact .tup (.inl (.inr ⟨_, h1⟩)) (Reps.dp r (n := n) (by simpa only [okD] using h))
theorem Reps.dp {K : PySem.W.Frag} {G : Hp} {n : Nat} : ∀ {ds : List D} {vs : List V}, Reps K G vs ds → okDs n ds = true → DpAll K G vs (pys ds)
  | _, _, .nil, _ => by simp only [pys]; exact .nil
  | _, _, .cons r t, h => by
    simp only [okDs, Bool.and_eq_true] at h
    simp only [pys]
    exact .cons (Rep.dp r h.1) (Reps.dp t h.2)
end

/-! ### types -/
inductive Ty where | non | bl | int | str | tup | lst | dic
  deriving DecidableEq
def Ty.name : Ty → String | .non => "NoneType" | .bl => "bool" | .int => "int" | .str => "str" | .tup => "tuple" | .lst => "list" | .dic => "dict"
def isT (t T : Ty) : Bool := decide (t = T) || (decide (t = .bl) && decide (T = .int))
theorem kit_isT {K : PySem.W.Frag} (t T : Ty) (h : T ≠ .non) : PySem.W.kitOne K (.type t.name) (.type T.name) = some (isT t T) := by
  refine kit_ty ?_
  cases t <;> cases T <;> first | exact absurd rfl h | decide +kernel
def tyD (m : M) (d : D) : Option Ty := match res m d with
  | .non => some .non | .bl _ => some .bl | .int _ => some .int | .str _ => some .str | .tup _ => some .tup | .lst _ => some .lst | .rol _ => some .lst | .dic _ _ => some .dic
  | .ty _ => none | .ref _ => none | .exc _ => none | .ptu _ => none | .fdi _ _ => none
theorem tyX_of {K : PySem.W.Frag} {H : Hp} {v : V} {d : D} (r : Rep K H v d) {t : Ty} (e : tyD noM d = some t) : TyX K H v (.type t.name) := by
  unfold tyD at e
  cases r with
  | non => cases e; exact .base .non
  | bl b => cases e; exact .base (.bl b)
  | int b => cases e; exact .base (.int b)
  | str b => cases e; exact .base (.str b)
  | ty b => cases e
  | ref b => cases e
  | tup h1 h2 =>
    cases e
    rcases h1 with (h | ⟨o, h⟩) | ⟨o, its, n, h, hc, _⟩
    · exact .base (.tup h)
    · exact .fTuple h
    · exact .kTuple h hc
  | lst h1 h2 =>
    cases e
    exact .base (.lst h1)
  | rol h1 h2 =>
    cases e
    rcases h1 with (h | ⟨o, h⟩) | ⟨o, its, n, h, hc, _⟩
    · exact .base (.lst h)
    · exact .base (.frz h)
    · exact .kList h hc
  | dic h1 h0 h2 =>
    cases e
    rcases h1 with h1 | ⟨o, h1⟩
    · exact .base (.dK h1)
    · exact .fDict h1
  | fdi h1 h0 h2 => cases e; exact .fDict h1
  | exc h => cases e
  | ptu h1 h0 h2 => cases e; exact .fTuple h1
theorem tyD_res {m : M} {d : D} {t : Ty} (e : tyD m d = some t) : tyD noM (res m d) = some t := by
  have q : res noM (res m d) = res m d := by
    unfold res
    cases d with
    | ref p =>
      dsimp only
      cases h : m p with
      | none => rfl
      | some c => cases c <;> rfl
    | _ => rfl
  unfold tyD at e ⊢
  rw [q]; exact e

/-! ### names, constants -/
def tVar2 (i : Nat) : TE2 := fun g m Q => ∃ d, g[i]? = some (some d) ∧ Q d m
def tC2 (d : D) : TE2 := fun _ m Q => Q d m
section
variable {X : Cx} {ω : Bx} {pos : Pos}
theorem q_var {i : Nat} {x : Str} (hN : X.N[i]? = some x) (hv : Vis X.env.scope x) (hd : (x == ("__debug__" : Str)) = false := by decide) (hcd : (x == ("__classdict__" : Str)) = false := by decide) : PE2 X ω (.Name x pos) (tVar2 i) :=
  (pe_var hN hv hd hcd).to2 fun σ H g m Q S hm ⟨d, h1, q⟩ => let ⟨v, h2, r⟩ := S.val i d h1; ⟨v, h2, .same hm r q⟩
theorem q_int {i j} : PE2 X ω (.Constant (.int i) j pos) (tC2 (.int i)) := pe_int.to2 fun σ H g m Q S hm q => .same hm (.int i) q
theorem q_bl {b j} : PE2 X ω (.Constant (.bool b) j pos) (tC2 (.bl b)) := pe_bl.to2 fun σ H g m Q S hm q => .same hm (.bl b) q
theorem q_non {j} : PE2 X ω (.Constant .none j pos) (tC2 .non) := pe_non.to2 fun σ H g m Q S hm q => .same hm .non q
theorem q_str {x j} : PE2 X ω (.Constant (.str x) j pos) (tC2 (.str x)) := pe_str.to2 fun σ H g m Q S hm q => .same hm (.str x) q
/-- a module's constant -/
theorem q_glob {x : Str} {v : V} {u : Value} {d : D} (hg : Gl X x) (hm : X.mg x = some u) (r : RelV v u) (hr : ∀ G, Rep X.K G v d) (hd : (x == ("__debug__" : Str)) = false := by decide) : PE2 X ω (.Name x pos) (tC2 d) :=
  (pe_glob hg hm r hd).to2 fun σ H g m Q S hm q => .same hm (hr _) q
theorem q_bltn {x : Str} {v : V} {u : Value} {d : D} (hg : Gl X x) (hm : X.mg x = none) (hv : bootBuiltins x = some u) (r : RelV v u) (hr : ∀ G, Rep X.K G v d) (hn : x ≠ "__name__" := by decide) (hd : (x == ("__debug__" : Str)) = false := by decide) : PE2 X ω (.Name x pos) (tC2 d) :=
  (pe_bltn hg hm hv r hn hd).to2 fun σ H g m Q S hm q => .same hm (hr _) q

/-! ### arguments, displays -/
def tNil2 : TA2 := fun _ m Q => Q [] m
def tCons2 (ta : TE2) (tr : TA2) : TA2 := fun g m Q => ta g m fun x m1 => tr g m1 fun xs m2 => Q (x :: xs) m2
theorem qa_nil : PA2 X ω [] tNil2 := pa_nil.to2 fun σ H g m Q S hm q => ⟨[], m, .refl hm, .nil, q⟩
theorem qa_cons {e : Expr} {es : List Expr} {te : TE2} {t : TA2} (ha : PE2 X ω e te) (hr : PA2 X ω es t) (hs : starEach (e :: es) X.env = (false, eval e X.env) :: starEach es X.env := by rfl) : PA2 X ω (e :: es) (tCons2 te t) :=
  (pa_cons pe_sem pa_sem hs).to2 fun σ H g m Q S hm q =>
    (ha.sem S hm q).mono fun x H1 ⟨d, m1, s1, r1, q1⟩ => (hr.sem (S.mono s1.ex) s1.mem q1).mono fun xs H2 ⟨ds, m2, s2, r2, q2⟩ => ⟨d :: ds, m2, s1.trans s2, .cons (r1.mono s2.ex) r2, q2⟩
/-- a written row is short: read off the row itself -/
def shL : Nat → List D → Prop → Prop
  | _, [], P => P
  | 0, _ :: _, _ => False
  | n + 1, _ :: r, P => shL n r P
theorem shL.out : ∀ {n : Nat} {ds : List D} {P : Prop}, shL n ds P → ds.length ≤ n ∧ P
  | n, [], _, h => ⟨Nat.zero_le _, by cases n <;> exact h⟩
  | 0, _ :: _, _, h => h.elim
  | n + 1, _ :: r, _, h => ⟨Nat.succ_le_succ (shL.out (n := n) (ds := r) h).1, (shL.out (n := n) (ds := r) h).2⟩
theorem shL.size {n : Nat} {ds : List D} {P : Prop} (h : shL n ds P) (hn : n ≤ 16777216 := by decide) : ds.length ≤ sizeLine := Nat.le_trans h.out.1 hn
def tTup2 (t : TA2) : TE2 := fun g m Q => t g m fun ds m1 => shL 200 ds (Q (.tup ds) m1)
def tLst2 (t : TA2) : TE2 := fun g m Q => t g m fun ds m1 => shL 200 ds (Q (.lst ds) m1)
/-- a new list that is owned -/
def tLstM (t : TA2) : TE2 := fun g m Q => t g m fun ds m1 => shL 200 ds (∀ p, m1 p = none → Q (.ref p) (upM m1 p (.lst ds)))
theorem q_tup {es : List Expr} {t : TA2} {x1} (h : PA2 X ω es t) : PE2 X ω (.Tuple es x1 pos) (tTup2 t) :=
  (pe_tup (x1 := x1) pa_sem).to2 fun σ H g m Q S hm q =>
    (h.sem S hm q).mono fun xs H1 ⟨ds, m1, s1, r1, z⟩ => have q1 := z.out.2; ⟨by rw [r1.length]; exact z.size, fun p hp => P2.go s1 (.new s1.mem hp (.tup (SqT.of (Step.new_at s1.mem hp)) (r1.mono (Step.new s1.mem hp).ex)) q1)⟩
theorem q_lst {es : List Expr} {t : TA2} (h : PA2 X ω es t) : PE2 X ω (.List es pos) (tLst2 t) :=
  (pe_lst pa_sem).to2 fun σ H g m Q S hm q =>
    (h.sem S hm q).mono fun xs H1 ⟨ds, m1, s1, r1, z⟩ => have q1 := z.out.2; ⟨by rw [r1.length]; exact z.size, fun p hp => P2.go s1 (.new s1.mem hp (.lst (Step.new_at s1.mem hp) (r1.mono (Step.new s1.mem hp).ex)) q1)⟩
theorem q_lstM {es : List Expr} {t : TA2} (h : PA2 X ω es t) : PE2 X ω (.List es pos) (tLstM t) :=
  (pe_lst pa_sem).to2 fun σ H g m Q S hm q =>
    (h.sem S hm q).mono fun xs H1 ⟨ds, m1, s1, r1, z⟩ => have q1 := z.out.2; ⟨by rw [r1.length]; exact z.size, fun p hp => P2.go s1 ⟨.ref p, _, Step.newM (c := .lst ds) s1.mem hp ⟨xs, upd_same, r1⟩, .ref p, q1 p (s1.mem.fresh hp)⟩⟩
end

/-! ### operators -/
abbrev R22 := D → D → M → Kd → Prop
def Cv2 (K : PySem.W.Frag) (r : R2) (r2 : R22) : Prop := ∀ (H : Hp) (m : M) (dx dy : D) (x y : V) (Q : Kd) (Q' : VK), MemOk K m H → Rep K (hid m H) x dx → Rep K (hid m H) y dy → r2 dx dy m Q → (∀ v H', P2 K m H Q v H' → Q' v H') → r x y H Q'
def tOp2 (r : R22) (ta tb : TE2) : TE2 := fun g m Q => ta g m fun x m1 => tb g m1 fun y m2 => r x y m2 Q
section
variable {X : Cx} {ω : Bx} {a b : Expr} {ta tb : TE2} {pos : Pos} {r : R2} {r2 : R22}
theorem op_cov (ha : PE2 X ω a ta) (hb : PE2 X ω b tb) (hc : Cv2 X.K r r2) {σ : St} {H : Hp} {g : Sl} {m : M} {Q : Kd} (S : SlotOk X.K ω g σ (hid m H)) (hm : MemOk X.K m H) (q : tOp2 r2 ta tb g m Q) : tOp r (semE X a) (semE X b) σ H (P2 X.K m H Q) :=
  (ha.sem S hm q).mono fun x H1 ⟨dx, m1, s1, r1, q1⟩ => (hb.sem (S.mono s1.ex) s1.mem q1).mono fun y H2 ⟨dy, m2, s2, r2', q2⟩ =>
    hc H2 m2 dx dy x y Q _ s2.mem (r1.mono s2.ex) r2' q2 fun v H' h => P2.go (s1.trans s2) h
theorem q_op {op : Operator} (ho : OpR X (binaryOp op) r) (hc : Cv2 X.K r r2) (ha : PE2 X ω a ta) (hb : PE2 X ω b tb) : PE2 X ω (.BinOp a op b pos) (tOp2 r2 ta tb) :=
  (pe_op ho pe_sem pe_sem).to2 fun σ H g m Q S hm q => op_cov ha hb hc S hm q
theorem q_cmp {op : CmpOp} (ho : OpR X (compareOp op) r) (hc : Cv2 X.K r r2) (ha : PE2 X ω a ta) (hb : PE2 X ω b tb) (hm : behindInMarks op b = false) : PE2 X ω (.Compare a [op] [b] pos) (tOp2 r2 ta tb) :=
  (pe_cmpR ho pe_sem pe_sem hm).to2 fun σ H g m Q S hm q => op_cov ha hb hc S hm q
def tUn2 (r : D → M → Kd → Prop) (ta : TE2) : TE2 := fun g m Q => ta g m fun x m1 => r x m1 Q
def i1 (g : Int → D) : D → M → Kd → Prop := fun x m Q => ∃ i, x = .int i ∧ Q (g i) m
/-! ### ints -/
def i2 (g : Int → Int → D) : R22 := fun x y m Q => ∃ i j, x = .int i ∧ y = .int j ∧ Q (g i j) m
variable {K : PySem.W.Frag}
/-- a product whose size has a bound: one factor small, or both together -/
def COk (i j : Int) : Prop := CMul i j ∨ CMulW i j
theorem op_mulA : OpR X (binaryOp .Mult) (rI COk fun i j => .int (i * j)) := opI fun _ _ _ _ _ _ _ hc q => mul_int q (hc.elim CMul.ok CMulW.ok)
/-! ### ==, is -/
@[irreducible] def oEq : R22 := fun x y m Q => Box <| okD 60 (res m x) = true ∧ okD 60 (res m y) = true ∧ Q (.bl (eqD (res m x) (res m y))) m
@[irreducible] def oNe : R22 := fun x y m Q => Box <| okD 60 (res m x) = true ∧ okD 60 (res m y) = true ∧ Q (.bl (!eqD (res m x) (res m y))) m
theorem cv_eq : Cv2 K (rEqD K) oEq := fun H m dx dy x y Q Q' hm rx ry h k => by
  unfold oEq at h; replace h := h.out
  obtain ⟨h1, h2, q⟩ := h
  exact ⟨_, _, (repRes rx hm).dp h1, (repRes ry hm).dp h2, okD_shaped h1 (by decide), okD_shaped h2 (by decide), k _ _ (.same hm (.bl _) q)⟩
theorem cv_ne : Cv2 K (rNeD K) oNe := fun H m dx dy x y Q Q' hm rx ry h k => by
  unfold oNe at h; replace h := h.out
  obtain ⟨h1, h2, q⟩ := h
  exact ⟨_, _, (repRes rx hm).dp h1, (repRes ry hm).dp h2, okD_shaped h1 (by decide), okD_shaped h2 (by decide), k _ _ (.same hm (.bl _) q)⟩
theorem q_eq {k : Nat} (hr : Room k X.A) (ha : PE2 X ω a ta) (hb : PE2 X ω b tb) : PE2 X ω (.Compare a [.Eq] [b] pos) (tOp2 oEq ta tb) := q_cmp (op_eqD hr.units) cv_eq ha hb (nomark _)
theorem q_ne {k : Nat} (hr : Room k X.A) (ha : PE2 X ω a ta) (hb : PE2 X ω b tb) : PE2 X ω (.Compare a [.NotEq] [b] pos) (tOp2 oNe ta tb) := q_cmp (op_neD hr.units) cv_ne ha hb (nomark _)
def isNon : D → Bool | .non => true | _ => false
theorem isNon_rep {G : Hp} {x : V} {d : D} (r : Rep K G x d) : decide (x = .non) = isNon d := by
  cases r <;> first | rfl | simp [isNon]
end

/-! ### and, or, not, if -/
section
variable {X : Cx} {ω : Bx} {a b c : Expr} {rest : List Expr} {t u : TT2} {ta tb : TE2} {pos : Pos}
def tNot2 (t : TT2) : TT2 := fun g m Q => t g m fun c m1 => Q (!c) m1
/-- tests whatever their whole is -/
structure PW2 (X : Cx) (ω : Bx) (e : Expr) (t : TT2) : Prop where
  sem : ∀ {σ : St} {H : Hp} {g : Sl} {m : M} {Q : Bool → M → Prop}, SlotOk X.K ω g σ (hid m H) → MemOk X.K m H → t g m Q → ∀ (wh : Sem Value) pins s, Inv X pins σ H s → wpAny (model X.prog X.w) X.A (isTrue e X.env wh) (TP X pins σ (P2T X.K m H Q)) X.xe s
def semW (X : Cx) (e : Expr) : TT := fun σ H Q => ∀ (wh : Sem Value) pins s, Inv X pins σ H s → wpAny (model X.prog X.w) X.A (isTrue e X.env wh) (TP X pins σ Q) X.xe s
theorem pw_sem {e : Expr} : PW X e (semW X e) := ⟨fun wh pins s σ H Q I h => h wh pins s I⟩
theorem _root_.L2.PW.to2 {e : Expr} {t : TT} {t2 : TT2} (h : PW X e t) (c : ∀ (σ : St) (H : Hp) (g : Sl) (m : M) (Q : Bool → M → Prop), SlotOk X.K ω g σ (hid m H) → MemOk X.K m H → t2 g m Q → t σ H (P2T X.K m H Q)) : PW2 X ω e t2 :=
  ⟨fun S hm q wh pins s I => h.run wh pins s _ _ _ I (c _ _ _ _ _ S hm q)⟩
theorem semW.mono {e : Expr} {σ : St} {H : Hp} {Q Q' : Bool → Hp → Prop} (h : semW X e σ H Q) (k : ∀ v H', Q v H' → Q' v H') : semW X e σ H Q' := fun wh pins s I => thn (h wh pins s I) fun _ _ ⟨H', a, c⟩ => ⟨H', a, k _ _ c⟩
theorem PW2.pt {e : Expr} {t : TT2} (h : PW2 X ω e t) : PT2 X ω e t := ⟨fun S hm q pins s I => h.sem S hm q _ pins s I⟩
theorem qw_and1 (ha : PT2 X ω a t) : PW2 X ω (.BoolOp .And [a] pos) t := (pw_and1 pt_sem).to2 fun σ H g m Q S hm q => ha.sem S hm q
theorem qw_or1 (ha : PT2 X ω a t) : PW2 X ω (.BoolOp .Or [a] pos) t := (pw_or1 pt_sem).to2 fun σ H g m Q S hm q => ha.sem S hm q
theorem qt_not (ha : PT2 X ω a t) : PT2 X ω (.UnaryOp .Not a pos) (tNot2 t) := (pt_not pt_sem).to2 fun σ H g m Q S hm q => (ha.sem S hm q).mono fun k H1 ⟨m1, s1, q1⟩ => ⟨m1, s1, q1⟩
theorem q_one {op} (h : PE2 X ω a ta) : PE2 X ω (.BoolOp op [a] pos) ta := (pe_one pe_sem).to2 fun σ H g m Q S hm q => h.sem S hm q
end

/-! ### subscripts, slices -/
section
variable {X : Cx} {ω : Bx} {a b : Expr} {ta tb : TE2} {pos : Pos} {K : PySem.W.Frag}
theorem Reps.atI {G : Hp} {vs : List V} {ds : List D} (r : Reps K G vs ds) {i : Int} {d : D} (h : L2.atI ds i = some d) : ∃ v, L2.atI vs i = some v ∧ Rep K G v d := by
  unfold L2.atI at h ⊢
  rw [r.length]
  cases e : ixN ds.length i with
  | none => rw [e] at h; cases h
  | some j => rw [e] at h; exact r.get h
/-- xs[i]: of a list, a tuple -/
def oIxL : R22 := fun x y m Q => ∃ ds i d, lsD (res m x) = some ds ∧ y = .int i ∧ atI ds i = some d ∧ Q d m
def oIxT : R22 := fun x y m Q => ∃ ds i d, res m x = .tup ds ∧ y = .int i ∧ atI ds i = some d ∧ Q d m
theorem cv_ixL : Cv2 K (rIxL K) oIxL := fun H m dx dy x y Q Q' hm rx ry ⟨ds, i, d, e1, e2, hd, q⟩ k => by
  subst e2; cases ry
  obtain ⟨a, vs, rfl, hs, hr⟩ := lstOf rx hm e1
  obtain ⟨v, hv, rv⟩ := hr.atI hd
  exact ⟨a, vs, i, v, rfl, rfl, hs, hv, k _ _ (.same hm rv q)⟩
theorem cv_ixT : Cv2 K (rIxT K) oIxT := fun H m dx dy x y Q Q' hm rx ry ⟨ds, i, d, e1, e2, hd, q⟩ k => by
  subst e2; cases ry
  obtain ⟨a, vs, rfl, hs, hr⟩ := tupOf rx e1
  obtain ⟨v, hv, rv⟩ := hr.atI hd
  exact ⟨a, vs, i, v, rfl, rfl, hs, hv, k _ _ (.same hm rv q)⟩
theorem q_ix {r : R2} {r2 : R22} (hr : IxR X r) (hc : Cv2 X.K r r2) (ha : PE2 X ω a ta) (hb : PE2 X ω b tb) (hs : PlainIx b) : PE2 X ω (.Subscript a b pos) (tOp2 r2 ta tb) :=
  (pe_ix hr pe_sem pe_sem hs).to2 fun σ H g m Q S hm q => op_cov ha hb hc S hm q
end

/-! ### calls of built-ins -/
abbrev RC2 := List D → M → Kd → Prop
def CvC (K : PySem.W.Frag) (r : List V → Hp → VK → Prop) (r2 : RC2) : Prop := ∀ (H : Hp) (m : M) (ds : List D) (vs : List V) (Q : Kd) (Q' : VK), MemOk K m H → Reps K (hid m H) vs ds → r2 ds m Q → (∀ v H', P2 K m H Q v H' → Q' v H') → r vs H Q'
def tCB2 (r : RC2) (t : TA2) : TE2 := fun g m Q => t g m fun ds m1 => r ds m1 Q
section
variable {X : Cx} {ω : Bx} {x : Str} {p pos : Pos} {e : Expr} {es : List Expr} {t : TA2} {id T : String} {r : List V → Hp → VK → Prop} {r2 : RC2}
theorem q_callB (hc : CallR X (.builtin id) r) (hv2 : CvC X.K r r2) (hg : Gl X x) (hm : X.mg x = none) (hv : bootBuiltins x = some (.builtin id)) (ha : PA2 X ω (e :: es) t) (hn : x ≠ "__name__" := by decide) (hdb : (x == ("__debug__" : Str)) = false := by decide)
    (he : starEach (e :: es) X.env = (false, eval e X.env) :: starEach es X.env := by rfl) (hpl : (backTo pos (starEach es X.env)).any (·.1) = false := by rfl) : PE2 X ω (.Call (.Name x p) (e :: es) [] pos) (tCB2 r2 t) :=
  (pe_callB hc hg hm hv pa_sem hn hdb he hpl).to2 fun σ H g m Q S hm q => (ha.sem S hm q).mono fun vs H1 ⟨ds, m1, s1, r1, q1⟩ => hv2 H1 m1 ds vs Q _ s1.mem r1 q1 fun v H' h => P2.go s1 h
theorem q_callTy (hc : CallR X (.type T) r) (hv2 : CvC X.K r r2) (hg : Gl X x) (hm : X.mg x = none) (hv : bootBuiltins x = some (.type T)) (ha : PA2 X ω (e :: es) t) (hn : x ≠ "__name__" := by decide) (hdb : (x == ("__debug__" : Str)) = false := by decide)
    (he : starEach (e :: es) X.env = (false, eval e X.env) :: starEach es X.env := by rfl) (hpl : (backTo pos (starEach es X.env)).any (·.1) = false := by rfl) : PE2 X ω (.Call (.Name x p) (e :: es) [] pos) (tCB2 r2 t) :=
  (pe_callTy hc hg hm hv pa_sem hn hdb he hpl).to2 fun σ H g m Q S hm q => (ha.sem S hm q).mono fun vs H1 ⟨ds, m1, s1, r1, q1⟩ => hv2 H1 m1 ds vs Q _ s1.mem r1 q1 fun v H' h => P2.go s1 h
end
section
variable {K : PySem.W.Frag}
def cAbs : RC2 := fun xs m Q => ∃ i, xs = [.int i] ∧ Q (.int (if i < 0 then -i else i)) m
theorem cc_abs : CvC K (fun xs H Q => ∃ i, xs = [.int i] ∧ Q (.int (if i < 0 then -i else i)) H) cAbs := fun H m ds vs Q Q' hm r ⟨i, e, q⟩ k => by
  subst e
  cases r with | cons r1 r2 => cases r1; cases r2; exact ⟨i, rfl, k _ _ (.same hm (.int _) q)⟩
def cMax2 : RC2 := fun xs m Q => ∃ i j, xs = [.int i, .int j] ∧ Q (.int (if j > i then j else i)) m
theorem cc_max2 : CvC K (fun xs H Q => ∃ i j, xs = [.int i, .int j] ∧ Q (.int (if j > i then j else i)) H) cMax2 := fun H m ds vs Q Q' hm r ⟨i, j, e, q⟩ k => by
  subst e
  cases r with | cons r1 r2 => cases r1; cases r2 with | cons r1 r2 => cases r1; cases r2; exact ⟨i, j, rfl, k _ _ (.same hm (.int _) q)⟩
/-- int of an int, of a bool -/
def cInt1 : RC2 := fun xs m Q => (∃ i, xs = [.int i] ∧ Q (.int i) m) ∨ ∃ k, xs = [.bl k] ∧ Q (.int (if k then 1 else 0)) m
theorem cc_int1 : CvC K (fun xs H Q => (∃ i, xs = [.int i] ∧ Q (.int i) H) ∨ ∃ k, xs = [.bl k] ∧ Q (.int (if k then 1 else 0)) H) cInt1 := fun H m ds vs Q Q' hm r h k => by
  rcases h with ⟨i, e, q⟩ | ⟨i, e, q⟩
  · subst e
    cases r with | cons r1 r2 => cases r1; cases r2; exact .inl ⟨i, rfl, k _ _ (.same hm (.int _) q)⟩
  · subst e
    cases r with | cons r1 r2 => cases r1; cases r2; exact .inr ⟨i, rfl, k _ _ (.same hm (.int _) q)⟩
def cStrI : RC2 := fun xs m Q => ∃ i : Int, xs = [.int i] ∧ i.natAbs.log2 < 1920 ∧ Q (.str (toString i)) m
theorem cc_strI : CvC K (fun xs H Q => ∃ i : Int, xs = [V.int i] ∧ i.natAbs.log2 < 1920 ∧ Q (V.str (toString i)) H) cStrI := fun H m ds vs Q Q' hm r ⟨i, e, h, q⟩ k => by
  subst e
  cases r with | cons r1 r2 => cases r1; cases r2; exact ⟨i, rfl, h, k _ _ (.same hm (.str _) q)⟩
/-- len -/
def lenD : D → Option Nat
  | .str z => if z.length ≤ sizeLine then some z.length else none
  | .tup ds => some ds.length | .lst ds => some ds.length | .rol ds => some ds.length
  | _ => none
def cLen : RC2 := fun xs m Q => ∃ x n, xs = [x] ∧ lenD (res m x) = some n ∧ Q (.int n) m
theorem cc_len : CvC K (fun xs H Q => ∃ x n, xs = [x] ∧ LenV K x H n ∧ Q (.int n) H) cLen := fun H m ds vs Q Q' hm r ⟨x, n, e, hl, q⟩ k => by
  subst e
  cases r with
  | cons r1 r2 =>
    cases r2
    have fin := k _ _ (.same hm (.int (n : Int)) q)
    cases e : res m x with
    | str z =>
      have rr := repRes r1 hm
      rw [e] at rr hl
      cases rr
      have hl : (if z.length ≤ sizeLine then some z.length else none) = some n := hl
      by_cases hz : z.length ≤ sizeLine
      · rw [if_pos hz] at hl; cases hl
        exact ⟨_, _, rfl, ⟨hz, rfl⟩, fin⟩
      · rw [if_neg hz] at hl; cases hl
    | tup es =>
      rw [e] at hl; cases hl
      obtain ⟨a, ws, rfl, h1, h2⟩ := tupOf r1 e
      exact ⟨_, _, rfl, .inr ⟨ws, h1, h2.length.symm⟩, fin⟩
    | lst es =>
      rw [e] at hl; cases hl
      obtain ⟨a, ws, rfl, h1, h2⟩ := lstOf r1 hm (by rw [e] <;> rfl)
      exact ⟨_, _, rfl, .inl ⟨ws, h1, h2.length.symm⟩, fin⟩
    | rol es =>
      rw [e] at hl; cases hl
      obtain ⟨a, ws, rfl, h1, h2⟩ := lstOf r1 hm (by rw [e] <;> rfl)
      exact ⟨_, _, rfl, .inl ⟨ws, h1, h2.length.symm⟩, fin⟩
    | _ => rw [e] at hl; cases hl
/-- sum of ints; all, any of bools; tuple(list), list(list or tuple) -/
def cSum : RC2 := fun xs m Q => ∃ (x : D) (ns : List Int), xs = [x] ∧ lsD (res m x) = some (ns.map D.int) ∧ Q (.int ns.sum) m
theorem cc_sum : CvC K (rSum K) cSum := fun H m ds vs Q Q' hm r ⟨x, ns, e, hl, q⟩ k => by
  subst e
  cases r with
  | cons r1 r2 =>
    cases r2
    obtain ⟨a, ws, rfl, h1, h2⟩ := lstOf r1 hm hl
    rw [h2.ints] at h1
    exact ⟨a, ns, rfl, h1, k _ _ (.same hm (.int _) q)⟩
def cAll : RC2 := fun xs m Q => ∃ (x : D) (bs : List Bool), xs = [x] ∧ lsD (res m x) = some (bs.map D.bl) ∧ Q (.bl (bs.all id)) m
theorem cc_all : CvC K (rAll K) cAll := fun H m ds vs Q Q' hm r ⟨x, ns, e, hl, q⟩ k => by
  subst e
  cases r with
  | cons r1 r2 =>
    cases r2
    obtain ⟨a, ws, rfl, h1, h2⟩ := lstOf r1 hm hl
    rw [h2.bls] at h1
    exact ⟨a, ns, rfl, h1, k _ _ (.same hm (.bl _) q)⟩
/-- the items of a list or a tuple -/
def itsD : D → Option (List D) | .lst ds => some ds | .rol ds => some ds | .tup ds => some ds | _ => none
def cTuple : RC2 := fun xs m Q => ∃ x ds, xs = [x] ∧ itsD (res m x) = some ds ∧ Q (.tup ds) m
def cList : RC2 := fun xs m Q => ∃ x ds, xs = [x] ∧ itsD (res m x) = some ds ∧ Q (.lst ds) m
theorem itsOf {m : M} {H : Hp} {v : V} {d : D} {ds : List D} (r : Rep K (hid m H) v d) (hm : MemOk K m H) (e : itsD (res m d) = some ds) : ∃ a vs, v = .ref a ∧ (SqL K H a vs ∨ SqT K H a vs) ∧ Reps K (hid m H) vs ds := by
  cases e' : res m d with
  | lst es =>
    rw [e'] at e; cases e
    obtain ⟨a, ws, h0, h1, h2⟩ := lstOf r hm (by rw [e'] <;> rfl)
    exact ⟨a, ws, h0, .inl h1, h2⟩
  | rol es =>
    rw [e'] at e; cases e
    obtain ⟨a, ws, h0, h1, h2⟩ := lstOf r hm (by rw [e'] <;> rfl)
    exact ⟨a, ws, h0, .inl h1, h2⟩
  | tup es =>
    rw [e'] at e; cases e
    obtain ⟨a, ws, h0, h1, h2⟩ := tupOf r e'
    exact ⟨a, ws, h0, .inr h1, h2⟩
  | _ => rw [e'] at e; cases e
theorem cc_tuple : CvC K (fun xs H Q => ∃ p ys, xs = [.ref p] ∧ ((SqL K H p ys ∧ ∀ l, H l = none → Q (.ref l) (upd H l (.tup ys))) ∨ (SqT K H p ys ∧ Q (.ref p) H))) cTuple := fun H m ds vs Q Q' hm r ⟨x, es, e, hl, q⟩ k => by
  subst e
  cases r with
  | cons r1 r2 =>
    cases r2
    cases e' : res m x with
    | lst fs =>
      rw [e'] at hl; cases hl
      obtain ⟨a, ws, rfl, h1, h2⟩ := lstOf r1 hm (by rw [e'] <;> rfl)
      exact ⟨a, ws, rfl, .inl ⟨h1, fun l hl => k _ _ (.new hm hl (.tup (SqT.of (Step.new_at hm hl)) (h2.mono (Step.new hm hl).ex)) q)⟩⟩
    | rol fs =>
      rw [e'] at hl; cases hl
      obtain ⟨a, ws, rfl, h1, h2⟩ := lstOf r1 hm (by rw [e'] <;> rfl)
      exact ⟨a, ws, rfl, .inl ⟨h1, fun l hl => k _ _ (.new hm hl (.tup (SqT.of (Step.new_at hm hl)) (h2.mono (Step.new hm hl).ex)) q)⟩⟩
    | tup fs =>
      rw [e'] at hl; cases hl
      have rr : Rep K (hid m H) _ _ := r1
      obtain ⟨a, ws, rfl, h1, h2⟩ := tupOf r1 e'
      have hx : Rep K (hid m H) (.ref a) (.tup es) := by
        cases r1 with
        | tup a b => cases e'; exact .tup a b
        | ptu a0 b0 c0 => cases e'; exact .tup (.inl (.inr ⟨_, a0⟩)) c0
        | ref b =>
          unfold res at e'
          cases q : m a with
          | none => simp only [q] at e'; cases e'
          | some c => cases c <;> (simp only [q] at e'; cases e')
        | _ => cases e'
      exact ⟨a, ws, rfl, .inr ⟨h1, k _ _ (.same hm hx q)⟩⟩
    | _ => rw [e'] at hl; cases hl
theorem cc_list : CvC K (fun xs H Q => ∃ p ys, xs = [.ref p] ∧ (SqL K H p ys ∨ SqT K H p ys) ∧ ∀ l, H l = none → Q (.ref l) (upd H l (.lst ys))) cList := fun H m ds vs Q Q' hm r ⟨x, es, e, hl, q⟩ k => by
  subst e
  cases r with
  | cons r1 r2 =>
    cases r2
    obtain ⟨a, ws, rfl, h1, h2⟩ := itsOf r1 hm hl
    exact ⟨a, ws, rfl, h1, fun l hl => k _ _ (.new hm hl (.lst (Step.new_at hm hl) (h2.mono (Step.new hm hl).ex)) q)⟩
/-- isinstance by a built-in type -/
def cIsi : RC2 := fun xs m Q => ∃ x T t, xs = [x, .ty (Ty.name T)] ∧ T ≠ .non ∧ tyD m x = some t ∧ Q (.bl (isT t T)) m
theorem cc_isi : CvC K (rIsi K) cIsi := fun H m ds vs Q Q' hm r ⟨x, T, t, e, hT, ht, q⟩ k => by
  subst e
  cases r with
  | cons r1 r2 =>
    cases r2 with
    | cons r3 r4 =>
      cases r3; cases r4
      exact ⟨_, _, _, _, _, rfl, .ty _, tyX_of (repRes r1 hm) (tyD_res ht), kit_isT t T hT, k _ _ (.same hm (.bl _) q)⟩
end
end Z

/-! Z3: defs and their promises, statements, loops, comprehensions. -/
namespace Z
open PySem PySem.Spec PyProof.Rows L2

/-! ### promises -/
/-- the class of what is raised, what is owned then -/
abbrev Kx := Value → M → Prop
abbrev Sp2 := List D → M → Kd → Kx → Prop
def no2 : Kx := fun _ _ => False
def lift (K : PySem.W.Frag) (sp : Sp2) : Sp := fun vs H Q E => ∃ ds m Q2 E2, MemOk K m H ∧ Reps K (hid m H) vs ds ∧ sp ds m Q2 E2 ∧ (∀ v H', P2 K m H Q2 v H' → Q v H') ∧ ∀ c m' H', Step K m H m' H' → E2 c m' → E c none H'
theorem lift_len {K : PySem.W.Frag} {sp : Sp2} {n : Nat} (h : ∀ ds m Q E, sp ds m Q E → ds.length = n) : ∀ vs H Q E, lift K sp vs H Q E → vs.length = n := fun vs H Q E ⟨ds, m, Q2, E2, _, r, s, _⟩ => by
  rw [r.length]; exact h _ _ _ _ s
/-- a def as the heap holds it: its defaults are any -/
structure FunZ (K : PySem.W.Frag) (x qual : Str) (st : Stmt) (f : Addr) (fd : FuncData) : Prop where
  ex : ∃ (oc : Value) (od : Option Addr) (dV kV doc pm : Value) (an : Option Addr) (cdv ct : Value) (osl : Array (Option Value)),
    fd = PySem.W.fnOf x qual (defArgs st) (defBody st) (defScope st) dV kV doc pm an cdv ct ∧ K.lookup f = some ⟨oc, od, .func fd, osl⟩ ∧ PySem.W.codeIn K cdv qual = true
  kp : PySem.W.keepIn K (.ref f) = true
theorem FunZ.ok {P : Program} {w : World} {K : PySem.W.Frag} {mg : Str → Option Value} {base : Heap} {x qual : Str} {st : Stmt} {f : Addr} {fd : FuncData} {N ps : List Str} {k : Nat} {sp : Sp} (F : FunZ K x qual st f fd) (S : FnScope N ps (defScope st)) (len : ∀ vs H Q E, sp vs H Q E → vs.length = ps.length)
    (h : ∀ (cdv : Value) (A : Around) (outer : List Env) (s : Shared) (H : Hp) (vs : List V) (Q : VK) (E : XK), Room k (A.deeper (envOfC qual (defScope st) s.heap.objs.size f cdv)) → sp vs H Q E →
      ∃ t, PSs (cxOf CX0 P w K mg base N qual (defScope st) f cdv A outer s H E).nox (defBody st) t ∧ t { nx := fun _ H' => Q .non H', rt := Q } (start N vs) H) : FnOk P w K mg base CX0 (k + 1) f fd ps sp := by
  obtain ⟨oc, od, dV, kV, doc, pm, an, cdv, ct, osl, rfl, lk, hcd⟩ := F.ex
  refine fn_of lk hcd S len fun A outer s H vs Q E hr z => ?_
  obtain ⟨t, h1, h2⟩ := h cdv A outer s H vs Q E hr z
  exact ⟨t, h1.nox, h2⟩
theorem funz_mk {K : PySem.W.Frag} {x qual : Str} {st : Stmt} {f : Addr} {oc : Value} {od an : Option Addr} {osl : Array (Option Value)} {dV kV doc pm cdv ct : Value} (l : K.lookup f = some ⟨oc, od, .func (PySem.W.fnOf x qual (defArgs st) (defBody st) (defScope st) dV kV doc pm an cdv ct), osl⟩)
    (c : PySem.W.codeIn K cdv qual = true) (k : PySem.W.keepIn K (.ref f) = true) : FunZ K x qual st f (PySem.W.fnOf x qual (defArgs st) (defBody st) (defScope st) dV kV doc pm an cdv ct) := ⟨⟨oc, od, dV, kV, doc, pm, an, cdv, ct, osl, rfl, l, c⟩, k⟩
/-- the same, the context written out -/
theorem fun_ok {P : Program} {w : World} {K : PySem.W.Frag} {mg : Str → Option Value} {base : Heap} {x qual : Str} {st : Stmt} {f : Addr} {fd : FuncData} {N ps : List Str} {k : Nat} {sp : Sp2} (F : FunZ K x qual st f fd) (S : FnScope N ps (defScope st))
    (len : ∀ ds m Q E, sp ds m Q E → ds.length = ps.length)
    (body : ∀ (cdv : Value) (A : Around) (outer : List Env) (s : Shared) (H : Hp) (E : XK), Room k (A.deeper (envOfC qual (defScope st) s.heap.objs.size f cdv)) →
      ∃ t, PSs2 (cxOf CX0 P w K mg base N qual (defScope st) f cdv A outer s H E).nox Bx.no (defBody st) t ∧ ∀ ds m Q E2, sp ds m Q E2 → t { nx := fun _ m' => Q .non m', rt := Q } (ds.map some ++ List.replicate (N.length - ds.length) none) m) :
    FnOk P w K mg base CX0 (k + 1) f fd ps (lift K sp) := by
  refine F.ok S (fun vs H Q E h => ?_) (fun cdv A outer s H vs Q E hr h => ?_)
  · exact lift_len len vs H Q E h
  · obtain ⟨ds, m, Q2, E2, hm, r, hs, hQ, hE⟩ := h
    obtain ⟨t, h1, h2⟩ := body cdv A outer s H E hr
    refine ⟨_, pss_sem, ?_⟩
    have q := h1.sem (SlotOk.start N (fun _ _ z => nomatch z) r) hm (h2 ds m Q2 E2 hs)
    refine semSs.mono q ?_ hQ ?_ ?_
    · rintro σ' H' ⟨g', m', s', _, q'⟩
      exact hQ _ _ ⟨.non, m', s', .non, q'⟩
    · rintro σ' H' ⟨g', m', s', _, q'⟩
      exact q'.elim
    · rintro σ' H' ⟨g', m', s', _, q'⟩
      exact q'.elim

/-! ### calls of defs -/
/-- f(..): what is given, then the defaults dd -/
def tCall2 (sp : Sp2) (dd : List D) (E2 : Kx) (t : TA2) : TE2 := fun g m Q => t g m fun ds m1 => sp (ds ++ dd) m1 Q E2
section
variable {X : Cx} {ω : Bx} {k : Nat} {f : Addr} {fd : FuncData} {ps : List Str} {sp : Sp2} {dvs : List V} {dus : List Value} {dd : List D} {x : Str} {p pos : Pos} {e : Expr} {es : List Expr} {t : TA2}
theorem q_call (F : FnOk X.prog X.w X.K X.mg X.base CX0 k f fd ps (lift X.K sp)) (hr : Room k X.A) (hg : Gl X x) (hm : X.mg x = some (.ref f)) (hk : PySem.W.keepIn X.K (.ref f) = true) (hb : Binds X.K fd ps dus) (hd : Vals dvs dus) (hdr : ∀ G, Reps X.K G dvs dd)
    (ha : PA2 X ω (e :: es) t) (hdb : (x == ("__debug__" : Str)) = false := by decide) (he : starEach (e :: es) X.env = (false, eval e X.env) :: starEach es X.env := by rfl) (hpl : (backTo pos (starEach es X.env)).any (·.1) = false := by rfl) :
    PE2 X ω (.Call (.Name x p) (e :: es) [] pos) (tCall2 sp dd no2 t) :=
  (pe_call F hr hg hm hk hb hd (pass0 (X := X)) pa_sem hdb he hpl).to2 fun σ H g m Q S hmm q =>
    (ha.sem S hmm q).mono fun vs H1 ⟨ds, m1, s1, r1, q1⟩ => ⟨ds ++ dd, m1, Q, no2, s1.mem, r1.append (hdr _), q1, fun v H' h => P2.go s1 h, fun _ _ _ _ z => z.elim⟩
/-- what is owned is given up: less of it stays -/
def Sub (m' m : M) : Prop := ∀ a c, m' a = some c → m a = some c
theorem Sub.refl {m : M} : Sub m m := fun _ _ h => h
theorem Sub.up {m m' : M} {p : Addr} {c : C} (h : Sub m m') (hp : m' p = none) : Sub m (upM m' p c) := fun a d q => by
  have q' := h a d q
  rw [upM_ne (ne_ofM q' hp)]; exact q'
def tDrop2 (t : TE2) : TE2 := fun g m Q => t g m fun d m1 => ∃ m2, Sub m2 m1 ∧ Q d m2
theorem q_drop {e : Expr} {t : TE2} (h : PE2 X ω e t) : PE2 X ω e (tDrop2 t) := ⟨fun S hm q => (h.sem S hm q).mono fun v H1 ⟨d, m1, s1, r1, m2, hs, q1⟩ =>
  have st := Step.sub s1.mem hs
  ⟨d, m2, s1.trans st, r1.mono st.ex, q1⟩⟩
end

/-! ### statements -/
def tNext2 : TS2 := fun E g m => E.nx g m
def tSeq2 (t u : TS2) : TS2 := fun E g m => t { E with nx := u E } g m
section
variable {X : Cx} {ω : Bx} {st : Stmt} {rest : List Stmt} {t u : TS2} {e : Expr} {te : TE2} {pos : Pos}
theorem cE_go {K : PySem.W.Frag} {ω : Bx} {m m1 : M} {H H1 : Hp} (s : Step K m H m1 H1) {E : Ends2} {sts : List Stmt} {σ : St} (h : semSs X sts (cE K ω m1 H1 E) σ H1) : semSs X sts (cE K ω m H E) σ H1 :=
  semSs.mono h (fun _ _ q => P2S.go s q) (fun _ _ q => P2.go s q) (fun _ _ q => P2S.go s q) (fun _ _ q => P2S.go s q)
theorem qs_nil : PSs2 X ω [] tNext2 := pss_nil.to2 fun σ H g m E S hm q => ⟨g, m, .refl hm, S, q⟩
theorem qs_cons (h1 : PS2 X ω st t) (h2 : PSs2 X ω rest u) : PSs2 X ω (st :: rest) (tSeq2 t u) :=
  (pss_cons ps_sem pss_sem).to2 fun σ H g m E S hm q => semS.mono (h1.sem S hm q) (fun σ' H' ⟨g', m', s', S', q'⟩ => cE_go s' (h2.sem S' s'.mem q')) (fun _ _ q => q) (fun _ _ q => q) (fun _ _ q => q)
theorem qs_one (h1 : PS2 X ω st t) : PSs2 X ω [st] t := (pss_one ps_sem).to2 fun σ H g m E S hm q => h1.sem S hm q
def tExpr2 (te : TE2) : TS2 := fun E g m => te g m fun _ m1 => E.nx g m1
theorem qs_expr (he : PE2 X ω e te) (hs : swapsWith e none pos.line X.env = pure false := by rfl) : PS2 X ω (.Expr e pos) (tExpr2 te) :=
  (ps_expr pe_sem hs).to2 fun σ H g m E S hm q => (he.sem S hm q).mono fun v H1 ⟨d, m1, s1, r1, q1⟩ => ⟨g, m1, s1, S.mono s1.ex, q1⟩
def tRet2 (te : TE2) : TS2 := fun E g m => te g m E.rt
theorem qs_ret (he : PE2 X ω e te) : PS2 X ω (.Return (some e) pos) (tRet2 te) := (ps_ret pe_sem).to2 fun σ H g m E S hm q => he.sem S hm q
end

/-! ### targets -/
abbrev TG2 := D → Sl → M → (Sl → M → Prop) → Prop
abbrev TGs2 := List D → Sl → M → (Sl → M → Prop) → Prop
def semG (X : Cx) (tg : Expr) : TG := fun v σ H Q => ∀ pins s u, Inv X pins σ H s → RelV v u → wpAny (model X.prog X.w) X.A (assign tg X.env u) (fun _ s' => ∃ σ' H', Inv X pins σ' H' s' ∧ Q σ' H') X.xe s
def semGs (X : Cx) (ts : List Expr) : TGs := fun vs σ H Q => ∀ pins s us, Inv X pins σ H s → Vals vs us → wpAny (model X.prog X.w) X.A (assignInOrder ((assignEach ts X.env).map (·.2)) us) (fun _ s' => ∃ σ' H', Inv X pins σ' H' s' ∧ Q σ' H') X.xe s
section
variable {X : Cx} {ω : Bx} {tg : Expr} {ts : List Expr} {pos : Pos}
theorem pg_sem : PG X tg (semG X tg) := ⟨fun pins s σ H v u Q I r h => h pins s u I r⟩
theorem pgs_sem : PGs X ts (semGs X ts) := ⟨fun pins s σ H v u Q I r h => h pins s u I r⟩
theorem semG.mono {v : V} {σ : St} {H : Hp} {Q Q' : St → Hp → Prop} (h : semG X tg v σ H Q) (k : ∀ a b, Q a b → Q' a b) : semG X tg v σ H Q' := fun pins s u I r => thn (h pins s u I r) fun _ _ ⟨a, b, c, d⟩ => ⟨a, b, c, k _ _ d⟩
theorem semGs.mono {v : List V} {σ : St} {H : Hp} {Q Q' : St → Hp → Prop} (h : semGs X ts v σ H Q) (k : ∀ a b, Q a b → Q' a b) : semGs X ts v σ H Q' := fun pins s u I r => thn (h pins s u I r) fun _ _ ⟨a, b, c, d⟩ => ⟨a, b, c, k _ _ d⟩
structure PG2 (X : Cx) (ω : Bx) (tg : Expr) (t : TG2) : Prop where
  sem : ∀ {σ : St} {H : Hp} {g : Sl} {m : M} {d : D} {v : V} {Q : Sl → M → Prop}, SlotOk X.K ω g σ (hid m H) → MemOk X.K m H → Rep X.K (hid m H) v d → t d g m Q → semG X tg v σ H (P2S X.K ω m H Q)
structure PGs2 (X : Cx) (ω : Bx) (ts : List Expr) (t : TGs2) : Prop where
  sem : ∀ {σ : St} {H : Hp} {g : Sl} {m : M} {ds : List D} {vs : List V} {Q : Sl → M → Prop}, SlotOk X.K ω g σ (hid m H) → MemOk X.K m H → Reps X.K (hid m H) vs ds → t ds g m Q → semGs X ts vs σ H (P2S X.K ω m H Q)
theorem _root_.L2.PG.to2 {t : TG} {t2 : TG2} (h : PG X tg t) (c : ∀ (σ : St) (H : Hp) (g : Sl) (m : M) (d : D) (v : V) (Q : Sl → M → Prop), SlotOk X.K ω g σ (hid m H) → MemOk X.K m H → Rep X.K (hid m H) v d → t2 d g m Q → t v σ H (P2S X.K ω m H Q)) : PG2 X ω tg t2 :=
  ⟨fun S hm r q pins s u I ru => h.run pins s _ _ _ u _ I ru (c _ _ _ _ _ _ _ S hm r q)⟩
theorem _root_.L2.PGs.to2 {t : TGs} {t2 : TGs2} (h : PGs X ts t) (c : ∀ (σ : St) (H : Hp) (g : Sl) (m : M) (d : List D) (v : List V) (Q : Sl → M → Prop), SlotOk X.K ω g σ (hid m H) → MemOk X.K m H → Reps X.K (hid m H) v d → t2 d g m Q → t v σ H (P2S X.K ω m H Q)) : PGs2 X ω ts t2 :=
  ⟨fun S hm r q pins s u I ru => h.run pins s _ _ _ u _ I ru (c _ _ _ _ _ _ _ S hm r q)⟩
def gName2 (i : Nat) : TG2 := fun d g m Q => Q (g.set i (some d)) m
theorem qg_name {i : Nat} {x : Str} (hN : X.N.Nodup) (hi : X.N[i]? = some x) (hx : Loc X.env.scope x) (hf : X.fn x = true ∨ X.env.scope.names.lookup x = some .local := by first | exact .inl rfl | exact .inr rfl | assumption) : PG2 X ω (.Name x pos) (gName2 i) :=
  (pg_name hN hi hx hf).to2 fun σ H g m d v Q S hm r q => ⟨_, m, .refl hm, S.set r, q⟩
def gNil2 : TGs2 := fun ds g m Q => match ds with
  | [] => Q g m
  | _ :: _ => False
def gCons2 (t : TG2) (u : TGs2) : TGs2 := fun ds g m Q => match ds with
  | d :: r => t d g m fun g' m' => u r g' m' Q
  | [] => False
theorem gNil2.out {ds : List D} {g : Sl} {m : M} {Q : Sl → M → Prop} (h : gNil2 ds g m Q) : ds = [] ∧ Q g m := by
  cases ds with
  | nil => exact ⟨rfl, h⟩
  | cons => exact h.elim
theorem gCons2.out {t : TG2} {u : TGs2} {ds : List D} {g : Sl} {m : M} {Q : Sl → M → Prop} (h : gCons2 t u ds g m Q) : ∃ d r, ds = d :: r ∧ t d g m fun g' m' => u r g' m' Q := by
  cases ds with
  | nil => exact h.elim
  | cons d r => exact ⟨d, r, rfl, h⟩
theorem qgs_nil : PGs2 X ω [] gNil2 := pgs_nil.to2 fun σ H g m d v Q S hm r z => by
  obtain ⟨e, q⟩ := gNil2.out z
  subst e
  cases r
  exact ⟨rfl, g, m, .refl hm, S, q⟩
theorem qgs_cons {e : Expr} {es : List Expr} {t : TG2} {u : TGs2} (h1 : PG2 X ω e t) (h2 : PGs2 X ω es u)
    (hs : (assignEach (e :: es) X.env).map (·.2) = assign e X.env :: (assignEach es X.env).map (·.2) := by rfl) : PGs2 X ω (e :: es) (gCons2 t u) :=
  (pgs_cons pg_sem pgs_sem hs).to2 fun σ H g m d v Q S hm r z => by
    obtain ⟨d1, dr, e, q⟩ := gCons2.out z
    subst e
    cases r with
    | cons r1 r2 => exact ⟨_, _, rfl, (h1.sem S hm r1 q).mono fun σ' H' ⟨g', m', s', S', q'⟩ => (h2.sem S' s'.mem (r2.mono s'.ex) q').mono fun _ _ h => P2S.go s' h⟩
/-- (a, b, ..) = a tuple -/
def gTup2 (n : Nat) (t : TGs2) : TG2 := fun d g m Q => ∃ ds, res m d = .tup ds ∧ ds.length = n ∧ t ds g m Q
theorem qg_tup {es : List Expr} {k : Nat} {t : TGs2} {n : Nat} (hc : X.calm = true) (h : PGs2 X ω es t)
    (hn : (assignEach es X.env).length = n := by rfl) (hst : (assignEach es X.env).findIdx? (·.1) = none := by rfl) : PG2 X ω (.Tuple es k pos) (gTup2 n t) :=
  (pg_tup hc pgs_sem hn hst).to2 fun σ H g m d v Q S hm r ⟨ds, e, hl, q⟩ => by
    obtain ⟨a, vs, rfl, h1, h2⟩ := tupOf r e
    exact ⟨a, vs, rfl, h1, h2.length.trans hl, h.sem S hm h2 q⟩
/-- o[i] = v of an owned list -/
def gSubL (to ti : TE2) : TG2 := fun d g m Q => to g m fun o m1 => ti g m1 fun i m2 => ∃ p ds k j, o = .ref p ∧ i = .int k ∧ m2 p = some (.lst ds) ∧ ixN ds.length k = some j ∧ Q g (upM m2 p (.lst (ds.set j d)))
theorem qg_subL {o i : Expr} {to ti : TE2} (ho : PE2 X ω o to) (hi : PE2 X ω i ti)
    (ha : ∀ v, assign (.Subscript o i pos) X.env v = (do
      let ov ← holding [v] (eval o X.env)
      let iv ← holding [v, ov] (eval i X.env)
      standAt pos
      holding [v, ov, iv] (setItem ov iv v)
      release [v, ov, iv] []) := by intro _; rfl) : PG2 X ω (.Subscript o i pos) (gSubL to ti) :=
  (pg_sub pe_sem pe_sem set_list ha).to2 fun σ H g m d v Q S hm r q =>
    (ho.sem S hm q).mono fun ov H1 ⟨od, m1, s1, r1, q1⟩ => (hi.sem (S.mono s1.ex) s1.mem q1).mono fun iv H2 ⟨id, m2, s2, r2, p, ds, k, j, e1, e2, hp, hj, q2⟩ => by
      subst e1; subst e2; cases r2
      have h1 := r1.mono s2.ex
      obtain ⟨vs, h3, h4⟩ := s2.mem p _ hp
      have hov : ov = .ref p := by cases r1; rfl
      subst hov
      have st := Step.upM (c := .lst (ds.set j d)) (o := .lst (vs.set j v)) s2.mem hp ⟨_, upd_same, h4.set ((r.mono s1.ex).mono s2.ex) j⟩
      exact ⟨p, vs, k, j, rfl, rfl, h3, by rw [h4.length]; exact hj, g, _, (s1.trans s2).trans st, ((S.mono s1.ex).mono s2.ex).mono st.ex, q2⟩
end
def tAsg2 (te : TE2) (tg : TG2) : TS2 := fun E g m => te g m fun d m1 => tg d g m1 E.nx
def tPar2 (i j : Nat) (ta : TA2) : TS2 := fun E g m => ta g m fun ds m1 => ∃ d e, ds = [d, e] ∧ E.nx ((g.set i (some d)).set j (some e)) m1
section
variable {X : Cx} {ω : Bx} {e tg : Expr} {te : TE2} {t : TG2} {pos : Pos}
theorem qs_asg (he : PE2 X ω e te) (hg : PG2 X ω tg t) (hs : swapsWithSole [tg] e pos.line X.env = pure false := by rfl) (hw : swappedStores [tg] e X.env = pure none := by rfl)
    (h1 : (assignEach [tg] X.env).map (·.2) = [assign tg X.env] := by rfl) : PS2 X ω (.Assign [tg] e pos) (tAsg2 te t) :=
  (ps_asg pe_sem pg_sem hs hw h1).to2 fun σ H g m E S hm q => (he.sem S hm q).mono fun v H1 ⟨d, m1, s1, r1, q1⟩ => (hg.sem (S.mono s1.ex) s1.mem r1 q1).mono fun _ _ h => P2S.go s1 h
theorem qs_set {i : Nat} {x : Str} {pos' : Pos} (hN : X.N.Nodup) (hi : X.N[i]? = some x) (hx : Loc X.env.scope x) (he : PE2 X ω e te) (hs : swapsWith e (some (.Name x pos')) pos.line X.env = pure false := by rfl) (hf : X.fn x = true ∨ X.env.scope.names.lookup x = some .local := by first | exact .inl rfl | exact .inr rfl | assumption) :
    PS2 X ω (.Assign [.Name x pos'] e pos) (tAsg2 te (gName2 i)) :=
  (ps_set hN hi hx pe_sem hs hf).to2 fun σ H g m E S hm q => (he.sem S hm q).mono fun v H1 ⟨d, m1, s1, r1, q1⟩ => ⟨_, m1, s1, (S.mono s1.ex).set r1, q1⟩
theorem qs_par {i j : Nat} {x y : Str} {a b : Expr} {ta : TA2} {px py pt : Pos} {kt k2 pt2} (hc : X.calm = true) (hN : X.N.Nodup) (hi : X.N[i]? = some x) (hj : X.N[j]? = some y) (hij : i ≠ j)
    (hx : X.env.scope.names.lookup x = some .local) (hy : X.env.scope.names.lookup y = some .local) (ha : PA2 X ω [a, b] ta)
    (hw : swappedStores [.Tuple [.Name x px, .Name y py] kt pt] (.Tuple [a, b] k2 pt2) X.env = pure (some [x, y]))
    (hs : swapsWithSole [.Tuple [.Name x px, .Name y py] kt pt] (.Tuple [a, b] k2 pt2) pos.line X.env = pure false := by rfl) :
    PS2 X ω (.Assign [.Tuple [.Name x px, .Name y py] kt pt] (.Tuple [a, b] k2 pt2) pos) (tPar2 i j ta) :=
  (ps_par hc hN hi hj hij hx hy pa_sem hw hs).to2 fun σ H g m E S hm q => (ha.sem S hm q).mono fun vs H1 ⟨ds, m1, s1, r1, d, e, e1, q1⟩ => by
    subst e1
    cases r1 with | cons r1 r2 => cases r2 with | cons r2 r3 => cases r3; exact ⟨_, _, rfl, _, m1, s1, ((S.mono s1.ex).set r1).set r2, q1⟩
end

/-! ### while -/
section
variable {X : Cx} {ω : Bx} {pos : Pos}
end

/-! ### what is walked: a list of data, and what must stand at each turn -/
/-- how the items of a walk lie: J, the library's iterator, yields them one by one as long as keep holds -/
structure Walks2 (K : PySem.W.Frag) (J : It) (ds : List D) (keep : M → Prop) (m : M) (H : Hp) : Prop where
  go : ∀ (i : Nat) (m' : M) (H' : Hp), Step K m H m' H' → keep m' → i < ds.length → J.go i H' ∧ ∀ v H'', J.yld i H' v H'' → ∃ d, ds[i]? = some d ∧ Step K m' H' m' H'' ∧ Rep K (hid m' H'') v d
  stop : ∀ (i : Nat) (m' : M) (H' : Hp), Step K m H m' H' → keep m' → ds.length ≤ i → J.stop i H'
abbrev TI2 := Sl → M → (List D → (M → Prop) → M → Prop) → Prop
def semI (X : Cx) (tg iter : Expr) : TI := fun σ H R => ∀ pins s, Inv X pins σ H s → wpAny (model X.prog X.w) X.A (eval iter X.env) (fun v s1 => wpAny (model X.prog X.w) X.A (pyIter v) (PIE X pins σ tg R) X.xe s1) X.xe s
structure PI2 (X : Cx) (ω : Bx) (tg iter : Expr) (t : TI2) : Prop where
  sem : ∀ {σ : St} {H : Hp} {g : Sl} {m : M} {R : List D → (M → Prop) → M → Prop}, SlotOk X.K ω g σ (hid m H) → MemOk X.K m H → t g m R →
    semI X tg iter σ H fun J H' => ∃ ds keep m', Step X.K m H m' H' ∧ Walks2 X.K J ds keep m' H' ∧ R ds keep m'
theorem PIE.mono {X : Cx} {pins : List (Addr × Obj)} {σ : St} {tg : Expr} {R R' : It → Hp → Prop} {v : Value} {s : Shared} (h : PIE X pins σ tg R v s) (k : ∀ J H, R J H → R' J H) : PIE X pins σ tg R' v s := by
  obtain ⟨it, fp, tn, J, H', a, b, c, d, e, f⟩ := h
  exact ⟨it, fp, tn, J, H', a, b, c, d, e, k _ _ f⟩
section
variable {X : Cx} {ω : Bx} {tg iter : Expr}
theorem pi_sem : PI X tg iter (semI X tg iter) := ⟨fun pins s σ H R I h => h pins s I⟩
theorem semI.mono {σ : St} {H : Hp} {R R' : It → Hp → Prop} (h : semI X tg iter σ H R) (k : ∀ J H, R J H → R' J H) : semI X tg iter σ H R' := fun pins s I => thn (h pins s I) fun _ _ q => thn q fun _ _ q => PIE.mono q k
theorem _root_.L2.PI.to2 {t : TI} {t2 : TI2} (h : PI X tg iter t) (c : ∀ (σ : St) (H : Hp) (g : Sl) (m : M) (R : List D → (M → Prop) → M → Prop), SlotOk X.K ω g σ (hid m H) → MemOk X.K m H → t2 g m R →
    t σ H fun J H' => ∃ ds keep m', Step X.K m H m' H' ∧ Walks2 X.K J ds keep m' H' ∧ R ds keep m') : PI2 X ω tg iter t2 := ⟨fun S hm q pins s I => h.run pins s _ _ _ I (c _ _ _ _ _ S hm q)⟩
variable {l : Expr} {tl : TE2}
theorem Reps.inj_get {K : PySem.W.Frag} {G : Hp} {vs : List V} {ds : List D} (r : Reps K G vs ds) {i : Nat} (hi : i < ds.length) : ∃ d v, ds[i]? = some d ∧ vs[i]? = some v ∧ Rep K G v d := by
  obtain ⟨v, h1, h2⟩ := r.get (List.getElem?_eq_getElem hi)
  exact ⟨_, v, List.getElem?_eq_getElem hi, h1, h2⟩
/-- range(n), range(a, b) -/
def rngD (lo : Int) (n : Nat) : List D := (List.range n).map fun (i : Nat) => D.int (lo + (i : Int))
theorem rngD_len (lo : Int) (n : Nat) : (rngD lo n).length = n := by unfold rngD; rw [List.length_map, List.length_range]
theorem rngD_get {lo : Int} {n i : Nat} (h : i < n) : (rngD lo n)[i]? = some (.int (lo + (i : Int))) := by
  unfold rngD
  rw [List.getElem?_map, List.getElem?_range h]
  rfl
theorem walks_rng {K : PySem.W.Frag} {lo : Int} {n : Nat} {m : M} {H : Hp} : Walks2 K (Itr lo n) (rngD lo n) (fun _ => True) m H := by
  refine ⟨fun i m' H' st _ hi => ?_, fun i m' H' st _ hi => ?_⟩
  · rw [rngD_len] at hi
    refine ⟨hi, fun v H'' y => ?_⟩
    obtain ⟨rfl, rfl⟩ := y
    exact ⟨_, rngD_get hi, .refl st.mem, .int _⟩
  · rw [rngD_len] at hi
    exact hi
end

/-! ### for -/
def tFor2 (ti : TI2) (tg : TG2) (tb : TS2) : TS2 := fun E g m => ti g m fun ds keep m1 => ∃ W : Nat → Sl → M → Prop, W 0 g m1 ∧ ∀ i g' m', W i g' m' → keep m' ∧
  (∀ d, ds[i]? = some d → tg d g' m' fun g2 m2 => tb { E with nx := W (i + 1), ct := W (i + 1), bk := E.nx } g2 m2) ∧ (i = ds.length → E.nx g' m')
section
variable {X : Cx} {ω : Bx} {pos : Pos}
theorem qs_for {tg iter : Expr} {body : List Stmt} {ti : TI2} {t : TG2} {tb : TS2} (hp : PassesOwn (model X.prog X.w) X.A X.env X.xe) (hc : X.calm = true) (hi : PI2 X ω tg iter ti) (hg : PG2 X ω tg t) (hb : PSs2 X ω body tb)
    (hs : ∀ x, foldedSetIterable iter X.env x = pure x := by intro _; rfl) : PS2 X ω (.For tg iter body [] pos) (tFor2 ti t tb) :=
  (ps_for hp hc pi_sem pg_sem pss_sem hs).to2 fun σ H g m E S hm q => (hi.sem S hm q).mono fun J H1 ⟨ds, keep, m1, s1, wk, W, w0, turn⟩ => by
    refine ⟨fun i n σ' H' => n = ds.length - i ∧ i ≤ ds.length ∧ ∃ g' m', Step X.K m1 H1 m' H' ∧ SlotOk X.K ω g' σ' (hid m' H') ∧ W i g' m', ⟨ds.length, by simp, Nat.zero_le _, g, m1, .refl s1.mem, S.mono s1.ex, w0⟩, ?_⟩
    rintro i n σ' H' ⟨rfl, hi', g', m', st, S', w'⟩
    obtain ⟨hk, ht, he⟩ := turn i g' m' w'
    by_cases hlt : i < ds.length
    · obtain ⟨hgo, hy⟩ := wk.go i m' H' st hk hlt
      refine .inr ⟨hgo, fun σ2 H2 => ∃ g2 m2, Step X.K m1 H1 m2 H2 ∧ SlotOk X.K ω g2 σ2 (hid m2 H2) ∧ W (i + 1) g2 m2, fun σ2 H2 h2 => ⟨ds.length - (i + 1), by omega, rfl, hlt, h2⟩, fun v H2 y => ?_⟩
      obtain ⟨d, hd, st2, rv⟩ := hy v H2 y
      refine (hg.sem (S'.mono st2.ex) st2.mem rv (ht d hd)).mono fun σ3 H3 ⟨g3, m3, s3, S3, q3⟩ => ?_
      have s13 : Step X.K m1 H1 m3 H3 := (st.trans st2).trans s3
      refine semSs.mono (hb.sem S3 s3.mem q3) ?_ (fun _ _ q => P2.go (s1.trans s13) q) (fun _ _ q => P2S.go (s1.trans s13) q) ?_
      · rintro σ4 H4 ⟨g4, m4, s4, S4, w4⟩
        exact ⟨g4, m4, s13.trans s4, S4, w4⟩
      · rintro σ4 H4 ⟨g4, m4, s4, S4, w4⟩
        exact ⟨g4, m4, s13.trans s4, S4, w4⟩
    · have e : i = ds.length := by omega
      exact .inl ⟨wk.stop i m' H' st hk (by omega), g', m', s1.trans st, S', he e⟩
end
end Z

/-! Z4: list comprehensions; methods and operators of lists and tuples. -/
namespace Z
open PySem PySem.Spec PyProof.Rows L2

/-! ### a comprehension's own slots -/
def wipe2 (g : Sl) : List Nat → Sl
  | [] => g
  | v :: vs => (wipe2 g vs).set v none
theorem SlotOk.unset {K : PySem.W.Frag} {ω : Bx} {g : Sl} {σ : St} {G : Hp} (s : SlotOk K ω g σ G) {i : Nat} : SlotOk K ω (g.set i none) (σ.set i none) G := by
  refine ⟨s.tie, by rw [List.length_set, List.length_set]; exact s.len, fun j e h => ?_⟩
  by_cases hj : i = j
  · subst hj
    by_cases hl : i < g.length
    · rw [List.getElem?_set_self hl] at h; cases h
    · rw [List.getElem?_eq_none (by rw [List.length_set]; omega)] at h; cases h
  · rw [List.getElem?_set_ne hj] at h
    obtain ⟨w, h1, h2⟩ := s.val j e h
    exact ⟨w, by rw [List.getElem?_set_ne hj]; exact h1, h2⟩
theorem SlotOk.wipe {K : PySem.W.Frag} {ω : Bx} {g : Sl} {σ : St} {G : Hp} (s : SlotOk K ω g σ G) : ∀ vs : List Nat, SlotOk K ω (wipe2 g vs) (L2.wipe σ vs) G
  | [] => s
  | v :: vs => (SlotOk.wipe s vs).unset
theorem wipe_set {σ : St} {i : Nat} {x : Option V} : ∀ {vs : List Nat}, i ∈ vs → L2.wipe (σ.set i x) vs = L2.wipe σ vs
  | v :: vs, h => by
    unfold L2.wipe
    by_cases hv : i ∈ vs
    · rw [wipe_set hv]
    · have e : i = v := by rcases List.mem_cons.mp h with e | e; exact e; exact absurd e hv
      subst e
      have gen : ∀ ws : List Nat, i ∉ ws → L2.wipe (σ.set i x) ws = (L2.wipe σ ws).set i x := by
        intro ws
        induction ws with
        | nil => intro _; rfl
        | cons w ws ih =>
          intro hw
          have h1 : i ≠ w := fun e => hw (by rw [e]; exact List.mem_cons_self)
          unfold L2.wipe
          rw [ih fun z => hw (List.mem_cons_of_mem _ z), List.set_comm _ _ h1]
      rw [gen vs hv, List.set_set]

/-! ### targets that stay within the own slots -/
structure PGc (X : Cx) (ω : Bx) (tg : Expr) (vs : List Nat) (t : TG2) : Prop where
  sem : ∀ {σ : St} {H : Hp} {g : Sl} {m : M} {d : D} {v : V} {Q : Sl → M → Prop}, SlotOk X.K ω g σ (hid m H) → MemOk X.K m H → Rep X.K (hid m H) v d → t d g m Q → semG X tg v σ H (fun σ' H' => P2S X.K ω m H Q σ' H' ∧ L2.wipe σ' vs = L2.wipe σ vs)
structure PGcs (X : Cx) (ω : Bx) (ts : List Expr) (vs : List Nat) (t : TGs2) : Prop where
  sem : ∀ {σ : St} {H : Hp} {g : Sl} {m : M} {ds : List D} {ws : List V} {Q : Sl → M → Prop}, SlotOk X.K ω g σ (hid m H) → MemOk X.K m H → Reps X.K (hid m H) ws ds → t ds g m Q → semGs X ts ws σ H (fun σ' H' => P2S X.K ω m H Q σ' H' ∧ L2.wipe σ' vs = L2.wipe σ vs)
section
variable {X : Cx} {ω : Bx} {tg : Expr} {ts : List Expr} {pos : Pos} {vs : List Nat}
theorem qgc_name {i : Nat} {x : Str} (hN : X.N.Nodup) (hi : X.N[i]? = some x) (hx : Loc X.env.scope x) (hv : i ∈ vs) (hf : X.fn x = true ∨ X.env.scope.names.lookup x = some .local := by first | exact .inl rfl | exact .inr rfl | assumption) : PGc X ω (.Name x pos) vs (gName2 i) :=
  ⟨fun S hm r q pins s u I ru => (pg_name hN hi hx hf).run pins s _ _ _ u _ I ru ⟨⟨_, _, .refl hm, S.set r, q⟩, wipe_set hv⟩⟩
theorem qgcs_nil : PGcs X ω [] vs gNil2 := ⟨fun S hm r z pins s us I ru => by
  obtain ⟨e, q⟩ := gNil2.out z
  subst e
  cases r
  exact pgs_nil.run pins s _ _ _ us _ I ru ⟨rfl, ⟨_, _, .refl hm, S, q⟩, rfl⟩⟩
theorem qgcs_cons {e : Expr} {es : List Expr} {t : TG2} {u : TGs2} (h1 : PGc X ω e vs t) (h2 : PGcs X ω es vs u)
    (hs : (assignEach (e :: es) X.env).map (·.2) = assign e X.env :: (assignEach es X.env).map (·.2) := by rfl) : PGcs X ω (e :: es) vs (gCons2 t u) :=
  ⟨fun {σ H g m ds ws Q} S hm r z pins s us I ru => by
    obtain ⟨d1, dr, e, q⟩ := gCons2.out z
    subst e
    cases r with
    | cons r1 r2 =>
      refine (pgs_cons pg_sem pgs_sem hs).run pins s _ _ _ us _ I ru ⟨_, _, rfl, (h1.sem S hm r1 q).mono fun σ' H' ⟨⟨g', m', s', S', q'⟩, w1⟩ => ?_⟩
      exact (h2.sem S' s'.mem (r2.mono s'.ex) q').mono fun _ _ ⟨h, w2⟩ => ⟨P2S.go s' h, w2.trans w1⟩⟩
theorem qgc_tup {es : List Expr} {k : Nat} {t : TGs2} {n : Nat} (hc : X.calm = true) (h : PGcs X ω es vs t)
    (hn : (assignEach es X.env).length = n := by rfl) (hst : (assignEach es X.env).findIdx? (·.1) = none := by rfl) : PGc X ω (.Tuple es k pos) vs (gTup2 n t) :=
  ⟨fun {σ H g m d v Q} S hm r ⟨ds, e, hl, q⟩ pins s u I ru => by
    obtain ⟨a, ws, rfl, h1, h2⟩ := tupOf r e
    exact (pg_tup hc pgs_sem hn hst).run pins s _ _ _ u _ I ru ⟨a, ws, rfl, h1, h2.length.trans hl, h.sem S hm h2 q⟩⟩
structure PTs2 (X : Cx) (ω : Bx) (ifs : List Expr) (t : TT2) : Prop where
  sem : ∀ {σ : St} {H : Hp} {g : Sl} {m : M} {Q : Bool → M → Prop}, SlotOk X.K ω g σ (hid m H) → MemOk X.K m H → t g m Q → ∀ pins s, Inv X pins σ H s →
    wpAny (model X.prog X.w) X.A (forIn ifs true fun c r => if r = true then do let ok ← isTrue c X.env (eval c X.env); pure (ForInStep.yield ok) else pure (ForInStep.yield r)) (TP X pins σ (P2T X.K m H Q)) X.xe s
def tYes2 : TT2 := fun _ m Q => Q true m
theorem qts_nil : PTs2 X ω [] tYes2 := ⟨fun S hm q pins s I => pts_nil.run pins s _ _ _ I ⟨_, .refl hm, q⟩⟩
theorem qts_one {c : Expr} {t : TT2} (h : PT2 X ω c t) : PTs2 X ω [c] t := ⟨fun S hm q pins s I => (pts_one pt_sem).run pins s _ _ _ I (h.sem S hm q)⟩
end

/-! ### [e for x in xs if c] -/
/-- W by the turn, the new list so far, what is owned besides; while an item is reckoned the new list is owned at Dl -/
@[irreducible] def LcG (tg : TG2) (tt : TT2) (te : TE2) (vs : List Nat) (g : Sl) (Q : Kd) (ds : List D) (keep : M → Prop) (m1 : M) : Prop := Box <| ds.length ≤ sizeLine ∧ ∃ W : Nat → List D → M → Prop, W 0 [] m1 ∧ ∀ i acc m', W i acc m' →
  (∀ Dl, m' Dl = none → keep (upM m' Dl (.lst acc)) ∧ ∀ d, ds[i]? = some d → tg d (wipe2 g vs) (upM m' Dl (.lst acc)) fun g2 m2 => tt g2 m2 fun b m3 =>
    if b = true then te g2 m3 fun y m4 => ∃ m5, m4 = upM m5 Dl (.lst acc) ∧ m5 Dl = none ∧ W (i + 1) (acc ++ [y]) m5 else ∃ m5, m3 = upM m5 Dl (.lst acc) ∧ m5 Dl = none ∧ W (i + 1) acc m5) ∧ (i = ds.length → Q (.lst acc) m')
theorem LcG.out {tg : TG2} {tt : TT2} {te : TE2} {vs : List Nat} {g : Sl} {Q : Kd} {ds : List D} {keep : M → Prop} {m1 : M} (h : LcG tg tt te vs g Q ds keep m1) : ds.length ≤ sizeLine ∧ ∃ W : Nat → List D → M → Prop, W 0 [] m1 ∧ ∀ i acc m', W i acc m' →
  (∀ Dl, m' Dl = none → keep (upM m' Dl (.lst acc)) ∧ ∀ d, ds[i]? = some d → tg d (wipe2 g vs) (upM m' Dl (.lst acc)) fun g2 m2 => tt g2 m2 fun b m3 =>
    if b = true then te g2 m3 fun y m4 => ∃ m5, m4 = upM m5 Dl (.lst acc) ∧ m5 Dl = none ∧ W (i + 1) (acc ++ [y]) m5 else ∃ m5, m3 = upM m5 Dl (.lst acc) ∧ m5 Dl = none ∧ W (i + 1) acc m5) ∧ (i = ds.length → Q (.lst acc) m') := by unfold LcG at h; replace h := h.out; exact h
def tLc2 (ti : TI2) (tg : TG2) (tt : TT2) (te : TE2) (vs : List Nat) : TE2 := fun g m Q => ti g m fun ds keep m1 => LcG tg tt te vs g Q ds keep m1
section
variable {X : Cx} {ω : Bx}
/-- a comprehension's list given up: it is a value -/
theorem Step.asVal {K : PySem.W.Frag} {m m' : M} {H H' : Hp} {p : Addr} {ds : List D} (s : Step K m H (Z.upM m' p (.lst ds)) H') (hp : m' p = none) : Step K m H m' H' ∧ Rep K (hid m' H') (.ref p) (.lst ds) := by
  have st : Step K (Z.upM m' p (.lst ds)) H' m' H' := Step.sub s.mem fun a c h => by rw [upM_ne (ne_ofM h hp)]; exact h
  obtain ⟨vs, h1, h2⟩ := s.mem p _ upM_same
  exact ⟨s.trans st, .lst (hid_of hp h1) (h2.mono st.ex)⟩
theorem q_lc {elt tg iter : Expr} {ifs : List Expr} {scope : Scope} {own : List (Str × Nat)} {pos : Pos} {ti : TI2} {g : TG2} {tt : TT2} {te : TE2} (hc : X.calm = true) (hN : X.N.Nodup) (hi : PI2 X ω tg iter ti) (ok : BlkOk X.N X.env.scope scope own)
    (hg : ∀ (s : Shared) (H : Hp) (C : Addr) (cl : List (Str × Addr)) (fp : List Addr), PGc (X.blk s H scope (compEnvC scope cl C X.env) fp) ω tg (own.map (·.2)) g)
    (ht : ∀ (s : Shared) (H : Hp) (C : Addr) (cl : List (Str × Addr)) (fp : List Addr), PTs2 (X.blk s H scope (compEnvC scope cl C X.env) fp) ω ifs tt)
    (he : ∀ (s : Shared) (H : Hp) (C : Addr) (cl : List (Str × Addr)) (fp : List Addr), PE2 (X.blk s H scope (compEnvC scope cl C X.env) fp) ω elt te) (hs : ∀ x, foldedSetIterable iter X.env x = pure x := by intro _; rfl) :
    PE2 X ω (.ListComp elt [⟨tg, iter, ifs, 0⟩] scope pos) (tLc2 ti g tt te (own.map (·.2))) := by
  have h := pe_lc (X := X) (elt := elt) (tg := tg) (iter := iter) (ifs := ifs) (scope := scope) (own := own) (pos := pos)
    (g := fun v σ H Q => ∀ s0 H0 C cl fp, semG (X.blk s0 H0 scope (compEnvC scope cl C X.env) fp) tg v σ H Q)
    (tt := fun σ H Q => ∀ s0 H0 C cl fp pins s, Inv (X.blk s0 H0 scope (compEnvC scope cl C X.env) fp) pins σ H s → wpAny (model X.prog X.w) X.A (forIn ifs true fun c r => if r = true then do let ok ← isTrue c (compEnvC scope cl C X.env) (eval c (compEnvC scope cl C X.env)); pure (ForInStep.yield ok) else pure (ForInStep.yield r)) (TP (X.blk s0 H0 scope (compEnvC scope cl C X.env) fp) pins σ Q) (fun _ _ => False) s)
    (te := fun σ H Q => ∀ s0 H0 C cl fp, semE (X.blk s0 H0 scope (compEnvC scope cl C X.env) fp) elt σ H Q)
    hc hN (pi_sem (X := X) (tg := tg) (iter := iter)) ok
    (fun s0 H0 C cl fp => ⟨fun pins s σ H v u Q I r z => z s0 H0 C cl fp pins s u I r⟩) (fun s0 H0 C cl fp => ⟨fun pins s σ H Q I z => z s0 H0 C cl fp pins s I⟩) (fun s0 H0 C cl fp => ⟨fun pins s σ H Q I z => z s0 H0 C cl fp pins s I⟩) hs
  refine h.to2 fun σ H gg m Q S hm q => (hi.sem S hm q).mono fun J H1 ⟨ds, keep, m1, s1, wk, q1⟩ => fun Dl hD => ?_
  obtain ⟨hlen, W, w0, turn⟩ := LcG.out q1
  refine ⟨fun i n H' => n = ds.length - i ∧ i ≤ ds.length ∧ ∃ acc m', m' Dl = none ∧ acc.length ≤ i ∧ Step X.K m1 H1 (upM m' Dl (.lst acc)) H' ∧ W i acc m',
    ⟨ds.length, by simp, Nat.zero_le _, [], m1, s1.mem.fresh hD, Nat.le_refl _, Step.newM (c := .lst []) s1.mem hD ⟨[], upd_same, .nil⟩, w0⟩, ?_⟩
  rintro i n H' ⟨rfl, hi', acc, m', hmD, hal, st, w'⟩
  obtain ⟨hk, he'⟩ := turn i acc m' w'
  obtain ⟨kp, ht'⟩ := hk Dl hmD
  by_cases hlt : i < ds.length
  · obtain ⟨hgo, hy⟩ := wk.go i _ H' st kp hlt
    refine .inr ⟨hgo, fun H2 => ∃ acc m', m' Dl = none ∧ acc.length ≤ i + 1 ∧ Step X.K m1 H1 (upM m' Dl (.lst acc)) H2 ∧ W (i + 1) acc m', fun H2 ⟨acc2, m2, a, b, c, d⟩ => ⟨ds.length - (i + 1), by omega, rfl, hlt, acc2, m2, a, b, c, d⟩, fun v H2 y => ?_⟩
    obtain ⟨d, hd, st2, rv⟩ := hy v H2 y
    have st12 := st.trans st2
    intro s0 H0 C cl fp
    have SW : SlotOk X.K ω (wipe2 gg (own.map (·.2))) (L2.wipe σ (own.map (·.2))) (hid (upM m' Dl (.lst acc)) H2) := ((S.mono s1.ex).mono st12.ex).wipe _
    refine ((hg s0 H0 C cl fp).sem SW st12.mem rv (ht' d hd)).mono fun σ3 H3 ⟨⟨g3, m3, s3, S3, q3⟩, hw⟩ => ⟨?_, ?_⟩
    · rw [hw]
      have ww : ∀ vs : List Nat, L2.wipe (L2.wipe σ vs) vs = L2.wipe σ vs := fun vs => by
        have gen : ∀ us : List Nat, (∀ u ∈ us, u ∈ vs) → L2.wipe (L2.wipe σ us) vs = L2.wipe σ vs := by
          intro us
          induction us with
          | nil => intro _; rfl
          | cons u us ih =>
            intro hu
            show L2.wipe ((L2.wipe σ us).set u none) vs = _
            rw [wipe_set (hu u List.mem_cons_self)]
            exact ih fun z hz => hu z (List.mem_cons_of_mem _ hz)
        exact gen vs fun _ z => z
      exact ww _
    · intro s0 H0 C cl fp pins s I
      refine thn ((ht s0 H0 C cl fp).sem S3 s3.mem q3 pins s I) fun b s4 ⟨H4, I4, m4, st4, q4⟩ => ⟨H4, I4, ?_⟩
      have st14 := (st12.trans s3).trans st4
      cases b with
      | true =>
        rw [if_pos rfl] at q4
        refine iteT ?_
        intro s0 H0 C cl fp
        refine ((he s0 H0 C cl fp).sem (S3.mono st4.ex) st4.mem q4).mono fun yv H5 ⟨yd, m5', st5, ry, m5, e5, hm5, w5⟩ => ?_
        subst e5
        have st15 := st14.trans st5
        obtain ⟨accV, ha, hr⟩ := st15.mem Dl _ upM_same
        refine ⟨accV, ha, by rw [hr.length]; omega, acc ++ [yd], m5, hm5, by rw [List.length_append, List.length_singleton]; omega, ?_, w5⟩
        have stn := Step.upM (c := .lst (acc ++ [yd])) (o := .lst (accV ++ [yv])) st15.mem upM_same ⟨_, upd_same, hr.append (.cons ry .nil)⟩
        rw [upM_upM] at stn
        exact st15.trans stn
      | false =>
        rw [if_neg Bool.false_ne_true] at q4
        refine iteF ?_
        obtain ⟨m5, e5, hm5, w5⟩ := q4
        subst e5
        exact ⟨acc, m5, hm5, by omega, st14, w5⟩
  · have e : i = ds.length := by omega
    have ⟨sv, rp⟩ := Step.asVal st hmD
    exact .inl ⟨wk.stop i _ H' st kp (by omega), _, m', s1.trans sv, rp, he' e⟩
end

/-! ### operators of lists, tuples, texts -/
section
variable {X : Cx} {ω : Bx} {a b : Expr} {ta tb : TE2} {pos : Pos} {K : PySem.W.Frag}
def oCat : R22 := fun x y m Q => ∃ xs ys, res m x = .lst xs ∧ res m y = .lst ys ∧ xs.length + ys.length ≤ sizeLine ∧ Q (.lst (xs ++ ys)) m
theorem cv_cat : Cv2 K rCat oCat := fun H m dx dy x y Q Q' hm rx ry ⟨xs, ys, e1, e2, hl, q⟩ k => by
  obtain ⟨a1, v1, rfl, h1, r1⟩ := lstT rx hm e1
  obtain ⟨a2, v2, rfl, h2, r2⟩ := lstT ry hm e2
  exact ⟨a1, a2, v1, v2, rfl, rfl, h1, h2, by rw [r1.length, r2.length]; exact hl, fun p hp => k _ _ (.new hm hp (.lst (Step.new_at hm hp) ((r1.append r2).mono (Step.new hm hp).ex)) q)⟩
theorem Reps.flat {G : Hp} {vs : List V} {ds : List D} (r : Reps K G vs ds) : ∀ n : Nat, Reps K G (List.replicate n vs).flatten (List.replicate n ds).flatten
  | 0 => .nil
  | n + 1 => by
    rw [List.replicate_succ, List.replicate_succ, List.flatten_cons, List.flatten_cons]
    exact r.append (Reps.flat r n)
def oRep : R22 := fun x y m Q => ∃ xs k, res m x = .lst xs ∧ y = .int k ∧ -(2 ^ 63) ≤ k ∧ k < 2 ^ 63 ∧ xs.length * k.toNat ≤ sizeLine ∧ Q (.lst (List.replicate k.toNat xs).flatten) m
theorem cv_rep : Cv2 K rRep oRep := fun H m dx dy x y Q Q' hm rx ry ⟨xs, n, e1, e2, h1, h2, hl, q⟩ k => by
  subst e2; cases ry
  obtain ⟨a1, v1, rfl, h3, r1⟩ := lstT rx hm e1
  exact ⟨a1, n, v1, rfl, rfl, h3, h1, h2, by rw [r1.length]; exact hl, fun p hp => k _ _ (.new hm hp (.lst (Step.new_at hm hp) ((r1.flat _).mono (Step.new hm hp).ex)) q)⟩
end

/-! ### methods of lists -/
abbrev RM2 := D → List D → M → Kd → Prop
def CvM (K : PySem.W.Frag) (T : String) (r : V → List V → Hp → VK → Prop) (r2 : RM2) : Prop := ∀ (H : Hp) (m : M) (d : D) (v : V) (ds : List D) (vs : List V) (Q : Kd) (Q' : VK), MemOk K m H → Rep K (hid m H) v d → Reps K (hid m H) vs ds → r2 d ds m Q → (∀ v H', P2 K m H Q v H' → Q' v H') → r v vs H Q'
/-- the receiver is of that type -/
def CvT (K : PySem.W.Frag) (T : String) (ok : D → M → Prop) : Prop := ∀ (H : Hp) (m : M) (d : D) (v : V), MemOk K m H → Rep K (hid m H) v d → ok d m → tyV K T v H
def tBM2 (ok : D → M → Prop) (r : RM2) (to : TE2) (t : TA2) : TE2 := fun g m Q => to g m fun d m1 => ok d m1 ∧ t g m1 fun ds m2 => r d ds m2 Q
section
variable {X : Cx} {ω : Bx} {o e : Expr} {es : List Expr} {to : TE2} {t : TA2} {name : Str} {apos cpos : Pos} {T id : String} {r : V → List V → Hp → VK → Prop} {r2 : RM2} {okd : D → M → Prop}
theorem q_bm (pa : PlainAttrs T) (slot : Slot T name id) (hty : typeOf (.builtin id) = pure (.type "method_descriptor")) (hm : MtR X id r) (hc : CvM X.K T r r2) (hct : CvT X.K T okd) (ho : PE2 X ω o to) (ha : PA2 X ω (e :: es) t)
    (hbase : attributeBase o name X.env (eval o X.env) = eval o X.env := by rfl)
    (hfew : ((backTo cpos (starEach (e :: es) X.env)).all (fun x => !x.1) && (backToKw cpos (keywordEach [] X.env)).all (fun x => x.1.isSome)
      && decide ((e :: es).length + ([] : List Keyword).length + (if ([] : List Keyword).isEmpty then 0 else 1) < 30)) = true := by rfl)
    (hline : (apos.endLine == cpos.line) = true := by rfl) (hs : starEach (e :: es) X.env = (false, eval e X.env) :: starEach es X.env := by rfl) (hplain : (backTo cpos (starEach es X.env)).any (·.1) = false := by rfl) :
    PE2 X ω (.Call (.Attribute o name apos) (e :: es) [] cpos) (tBM2 okd r2 to t) :=
  (pe_bm pa slot hty hm pe_sem pa_sem hbase hfew hline hs hplain).to2 fun σ H g m Q S hmm q => (ho.sem S hmm q).mono fun v H1 ⟨d, m1, s1, r1, hok, q1⟩ =>
    ⟨hct H1 m1 d v s1.mem r1 hok, (ha.sem (S.mono s1.ex) s1.mem q1).mono fun vs H2 ⟨ds, m2, s2, rs, q2⟩ => hc H2 m2 d v ds vs Q _ s2.mem (r1.mono s2.ex) rs q2 fun _ _ h => P2.go (s1.trans s2) h⟩
end
section
variable {K : PySem.W.Frag}
def isL : D → M → Prop := fun d m => ∃ ds, lsD (res m d) = some ds
theorem ct_lst : CvT K "list" isL := fun H m d v hm r ⟨ds, e⟩ => by
  obtain ⟨a, vs, rfl, h1, h2⟩ := lstOf r hm e
  exact .inl ⟨rfl, vs, h1⟩
def mAppend : RM2 := fun d ds m Q => ∃ p xs y, d = .ref p ∧ ds = [y] ∧ m p = some (.lst xs) ∧ xs.length < sizeLine ∧ Q .non (upM m p (.lst (xs ++ [y])))
theorem cm_append : CvM K "list" rAppend mAppend := fun H m d v ds vs Q Q' hm r rs ⟨p, xs, y, e1, e2, hp, hl, q⟩ k => by
  subst e1; subst e2
  cases rs with
  | cons ry r0 =>
    cases r0
    obtain ⟨ws, h1, h2⟩ := hm p _ hp
    have hv : v = .ref p := by cases r; rfl
    subst hv
    exact ⟨p, ws, _, rfl, rfl, h1, by rw [h2.length]; exact hl, k _ _ ⟨.non, _, Step.upM (c := .lst (xs ++ [y])) hm hp ⟨_, upd_same, h2.append (.cons ry .nil)⟩, .non, q⟩⟩
end
section
variable {X : Cx} {ω : Bx} {o e : Expr} {to te : TE2} {apos cpos : Pos}
theorem q_append (ho : PE2 X ω o to) (he : PE2 X ω e te) (hbase : attributeBase o "append" X.env (eval o X.env) = eval o X.env := by rfl)
    (hline : (apos.endLine == cpos.line) = true := by rfl) (hs : starEach [e] X.env = (false, eval e X.env) :: starEach [] X.env := by rfl)
    (hfew : ((backTo cpos (starEach [e] X.env)).all (fun x => !x.1) && (backToKw cpos (keywordEach [] X.env)).all (fun x => x.1.isSome)
      && decide ([e].length + ([] : List Keyword).length + (if ([] : List Keyword).isEmpty then 0 else 1) < 30)) = true := by rfl) :
    PE2 X ω (.Call (.Attribute o "append" apos) [e] [] cpos) (tBM2 isL mAppend to (tCons2 te tNil2)) :=
  q_bm PySem.F.plainAttrs_list PySem.F.slot_list_append PySem.F.type_list_append mt_append cm_append ct_lst ho (qa_cons he qa_nil hs) hbase hfew hline hs
end

/-! ### slices -/
section
variable {X : Cx} {ω : Bx} {K : PySem.W.Frag}
abbrev TO2 := Sl → M → (Option Int → M → Prop) → Prop
structure PO2 (X : Cx) (ω : Bx) (e : Option Expr) (t : TO2) : Prop where
  ex : ∃ u : TO, PO X e u ∧ ∀ {σ : St} {H : Hp} {g : Sl} {m : M} {Q : Option Int → M → Prop} {Q' : Option Int → Hp → Prop}, SlotOk X.K ω g σ (hid m H) → MemOk X.K m H → t g m Q → (∀ o m' H', Step X.K m H m' H' → Q o m' → Q' o H') → u σ H Q'
def tNoPart2 : TO2 := fun _ m Q => Q none m
theorem qo_none : PO2 X ω none tNoPart2 := ⟨_, po_none, fun S hm q k => k _ _ _ (.refl hm) q⟩
def cutD {α : Type} (xs : List α) (lo hi : Option Int) : List α := (xs.drop (HT.sIx xs.length 0 lo)).take (HT.sIx xs.length xs.length hi - HT.sIx xs.length 0 lo)
theorem Reps.cut {G : Hp} {vs : List V} {ds : List D} (r : Reps K G vs ds) (lo hi : Option Int) : Reps K G (cutV vs lo hi) (cutD ds lo hi) := by
  unfold cutV cutD
  rw [r.length]
  exact (r.drop _).take _
def CvS (K : PySem.W.Frag) (r : V → Option Int → Option Int → Hp → VK → Prop) (r2 : D → Option Int → Option Int → M → Kd → Prop) : Prop := ∀ (H : Hp) (m : M) (d : D) (v : V) (lo hi : Option Int) (Q : Kd) (Q' : VK), MemOk K m H → Rep K (hid m H) v d → r2 d lo hi m Q → (∀ v H', P2 K m H Q v H' → Q' v H') → r v lo hi H Q'
def tSl2 (r : D → Option Int → Option Int → M → Kd → Prop) (te : TE2) (tl th : TO2) : TE2 := fun g m Q => te g m fun x m1 => tl g m1 fun l m2 => th g m2 fun u m3 => r x l u m3 Q
theorem q_slice {e : Expr} {lo hi : Option Expr} {p2 pos : Pos} {te : TE2} {tl th : TO2} {r : V → Option Int → Option Int → Hp → VK → Prop} {r2 : D → Option Int → Option Int → M → Kd → Prop} (hr : SlR X r) (hc : CvS X.K r r2) (he : PE2 X ω e te) (hl : PO2 X ω lo tl) (hh : PO2 X ω hi th) :
    PE2 X ω (.Subscript e (.Slice lo hi none p2) pos) (tSl2 r2 te tl th) := by
  obtain ⟨ul, pl, cl⟩ := hl.ex
  obtain ⟨uh, ph, ch⟩ := hh.ex
  refine (pe_slice hr pe_sem pl ph).to2 fun σ H g m Q S hm q => (he.sem S hm q).mono fun v H1 ⟨d, m1, s1, r1, q1⟩ => cl (S.mono s1.ex) s1.mem q1 fun o m2 H2 s2 q2 => ch ((S.mono s1.ex).mono s2.ex) s2.mem q2 fun o3 m3 H3 s3 q3 => ?_
  exact hc H3 m3 d v o o3 Q _ s3.mem ((r1.mono s2.ex).mono s3.ex) q3 fun _ _ h => P2.go ((s1.trans s2).trans s3) h
/-- of a list: a new one -/
def sLst : D → Option Int → Option Int → M → Kd → Prop := fun x lo hi m Q => ∃ xs, lsD (res m x) = some xs ∧ Q (.lst (cutD xs lo hi)) m
theorem cs_lst : CvS K (rSlL K) sLst := fun H m d v lo hi Q Q' hm r ⟨xs, e, q⟩ k => by
  obtain ⟨a, vs, rfl, h1, h2⟩ := lstOf r hm e
  exact ⟨a, vs, rfl, h1, fun p hp => k _ _ (.new hm hp (.lst (Step.new_at hm hp) ((h2.cut lo hi).mono (Step.new hm hp).ex)) q)⟩
end
end Z

/-! Z5: one rule for each form of the text; what is asked is read off the data. -/
namespace Z
open PySem PySem.Spec PyProof.Rows L2

/-- by a truth -/
@[irreducible] def br (c : Bool) (a b : Prop) : Prop := Box <| match c with | true => a | false => b
theorem br_true {a b : Prop} : br true a b = a := propext ⟨fun h => by unfold br at h; exact h.out, fun h => by unfold br; exact ⟨h⟩⟩
theorem br_false {a b : Prop} : br false a b = b := propext ⟨fun h => by unfold br at h; exact h.out, fun h => by unfold br; exact ⟨h⟩⟩
theorem br_t {a b : Prop} (h : br true a b) : a := by rw [br_true] at h; exact h
theorem br_f {a b : Prop} (h : br false a b) : b := by rw [br_false] at h; exact h
theorem brt {a b : Prop} (h : a) : br true a b := by rw [br_true]; exact h
theorem brf {a b : Prop} (h : b) : br false a b := by rw [br_false]; exact h
theorem br2 {c : Bool} {a b : Prop} (h1 : c = true → a) (h2 : c = false → b) : br c a b := by
  cases c with
  | true => rw [br_true]; exact h1 rfl
  | false => rw [br_false]; exact h2 rfl
theorem brT {c : Bool} {a b : Prop} (h : c = true) (x : a) : br c a b := by rw [h, br_true]; exact x
theorem brF {c : Bool} {a b : Prop} (h : c = false) (x : b) : br c a b := by rw [h, br_false]; exact x
/-! ### names -/
def tV (i : Nat) : TE2 := fun g m Q => match g[i]? with | some (some d) => Q d m | _ => False
theorem tV_of {i : Nat} {g : Sl} {m : M} {Q : Kd} (h : tV i g m Q) : tVar2 i g m Q := by
  unfold tV at h
  split at h
  · exact ⟨_, by assumption, h⟩
  · exact h.elim
theorem PE2.imp {X : Cx} {ω : Bx} {e : Expr} {t u : TE2} (h : PE2 X ω e t) (k : ∀ g m Q, u g m Q → t g m Q) : PE2 X ω e u := ⟨fun S hm q => h.sem S hm (k _ _ _ q)⟩
theorem PT2.imp {X : Cx} {ω : Bx} {e : Expr} {t u : TT2} (h : PT2 X ω e t) (k : ∀ g m Q, u g m Q → t g m Q) : PT2 X ω e u := ⟨fun S hm q => h.sem S hm (k _ _ _ q)⟩
theorem PS2.imp {X : Cx} {ω : Bx} {e : Stmt} {t u : TS2} (h : PS2 X ω e t) (k : ∀ E g m, u E g m → t E g m) : PS2 X ω e u := ⟨fun S hm q => h.sem S hm (k _ _ _ q)⟩
theorem vU {X : Cx} {ω : Bx} {pos : Pos} (i : Nat) {x : Str} (hN : X.N[i]? = some x := by rfl) (hv : Vis X.env.scope x := by first | exact Or.inl rfl | exact Or.inr (Or.inl rfl) | exact Or.inr (Or.inr rfl)) (hd : (x == ("__debug__" : Str)) = false := by decide)
    (hcd : (x == ("__classdict__" : Str)) = false := by decide) : PE2 X ω (.Name x pos) (tV i) := (q_var hN hv hd hcd).imp fun g m Q h => tV_of h
/-- a builtin type as a value -/
theorem tyU {X : Cx} {ω : Bx} {pos : Pos} {x : Str} {T : String} (hg : Gl X x) (hm : X.mg x = none) (hv : bootBuiltins x = some (.type T)) (hn : x ≠ "__name__" := by decide) (hd : (x == ("__debug__" : Str)) = false := by decide) : PE2 X ω (.Name x pos) (tC2 (.ty T)) :=
  q_bltn (v := .ty T) hg hm hv rfl (fun _ => .ty T) hn hd
/-- a module's constant, as data -/
structure ConstAt (K : PySem.W.Frag) (mg : Str → Option Value) (x : Str) (d : D) : Prop where
  ex : ∃ (v : V) (u : Value), mg x = some u ∧ RelV v u ∧ ∀ G, Rep K G v d
theorem cU {X : Cx} {ω : Bx} {pos : Pos} {x : Str} {d : D} (c : ConstAt X.K X.mg x d) (hg : Gl X x) (hd : (x == ("__debug__" : Str)) = false := by decide) : PE2 X ω (.Name x pos) (tC2 d) := by
  obtain ⟨v, u, h1, h2, h3⟩ := c.ex
  exact q_glob hg h1 h2 h3 hd

/-! ### operators -/
section
variable {X : Cx} {ω : Bx} {a b c : Expr} {ta tb : TE2} {pos : Pos} {K : PySem.W.Frag}
def oAddU : R22 := fun x y m Q => match res m x, res m y with
  | .int i, .int j => Q (.int (i + j)) m
  | .str i, .str j => i.length + j.length ≤ sizeLine ∧ Q (.str (i ++ j)) m
  | .lst i, .lst j => i.length + j.length ≤ sizeLine ∧ Q (.lst (i ++ j)) m
  | .tup i, .tup j => i.length + j.length ≤ sizeLine ∧ Q (.tup (i ++ j)) m
  | _, _ => False
def rAddU (K : PySem.W.Frag) : R2 := fun x y H Q => rI0 (fun i j => .int (i + j)) x y H Q ∨ (∃ i j, x = .str i ∧ y = .str j ∧ i.length + j.length ≤ sizeLine ∧ Q (.str (i ++ j)) H) ∨ rCat x y H Q ∨ rCatA K x y H Q
theorem repI {H : Hp} {m : M} {v : V} {d : D} (r : Rep K (hid m H) v d) (hm : MemOk K m H) {i : Int} (e : res m d = .int i) : v = .int i := by
  have q := repRes r hm
  rw [e] at q
  cases q
  rfl
theorem repS {H : Hp} {m : M} {v : V} {d : D} (r : Rep K (hid m H) v d) (hm : MemOk K m H) {i : Str} (e : res m d = .str i) : v = .str i := by
  have q := repRes r hm
  rw [e] at q
  cases q
  rfl
/-- a tuple read is the value itself -/
theorem repT {H : Hp} {m : M} {v : V} {d : D} (r : Rep K (hid m H) v d) {ds : List D} (e : res m d = .tup ds) : Rep K (hid m H) v (.tup ds) := by
  cases r with
  | tup a b => cases e; exact .tup a b
  | ptu a0 b0 c0 => cases e; exact .tup (.inl (.inr ⟨_, a0⟩)) c0
  | ref b =>
    unfold res at e
    cases q : m b with
    | none => simp only [q] at e; cases e
    | some c => cases c <;> (simp only [q] at e; cases e)
  | _ => cases e
theorem cv_catA {H : Hp} {m : M} {dx dy : D} {x y : V} {Q : Kd} {Q' : VK} {xs ys : List D} (hm : MemOk K m H) (rx : Rep K (hid m H) x dx) (ry : Rep K (hid m H) y dy) (e1 : res m dx = .tup xs) (e2 : res m dy = .tup ys) (hl : xs.length + ys.length ≤ sizeLine)
    (q : Q (.tup (xs ++ ys)) m) (k : ∀ v H', P2 K m H Q v H' → Q' v H') : rCatA K x y H Q' := by
  have tx := repT rx e1
  have ty := repT ry e2
  obtain ⟨a1, v1, rfl, h1, r1⟩ := tupOf rx e1
  obtain ⟨a2, v2, rfl, h2, r2⟩ := tupOf ry e2
  refine ⟨a1, a2, v1, v2, rfl, rfl, h1, h2, by rw [r1.length, r2.length]; exact hl, fun e => ?_, fun _ e => ?_, fun _ _ p hp => ?_⟩
  · subst e
    cases r1
    exact k _ _ (.same hm ty q)
  · subst e
    cases r2
    rw [List.append_nil] at q
    exact k _ _ (.same hm tx q)
  · exact k _ _ (.new hm hp (.tup (SqT.of (Step.new_at hm hp)) ((r1.append r2).mono (Step.new hm hp).ex)) q)
theorem cv_addU : Cv2 K (rAddU K) oAddU := fun H m dx dy x y Q Q' hm rx ry h k => by
  unfold oAddU at h
  split at h
  · rename_i i j e1 e2
    exact .inl ⟨i, j, repI rx hm e1, repI ry hm e2, k _ _ (.same hm (.int _) h)⟩
  · rename_i i j e1 e2
    exact .inr (.inl ⟨i, j, repS rx hm e1, repS ry hm e2, h.1, k _ _ (.same hm (.str _) h.2)⟩)
  · rename_i i j e1 e2
    exact .inr (.inr (.inl (cv_cat H m dx dy x y Q Q' hm rx ry ⟨i, j, e1, e2, h.1, h.2⟩ k)))
  · rename_i i j e1 e2
    exact .inr (.inr (.inr (cv_catA hm rx ry e1 e2 h.1 h.2 k)))
  · exact h.elim
theorem op_addU : OpR X (binaryOp .Add) (rAddU X.K) := op_add.or (op_add_str.or (op_cat.or op_catA))
theorem addU (ha : PE2 X ω a ta) (hb : PE2 X ω b tb) : PE2 X ω (.BinOp a .Add b pos) (tOp2 oAddU ta tb) := q_op op_addU cv_addU ha hb
/-- a text times an int -/
def rRepS : R2 := fun x y H Q => ∃ (z : Str) (n : Int), x = .str z ∧ y = .int n ∧ n ≤ 100000 ∧ -100000 ≤ n ∧ z.length ≤ 100 ∧ Q (.str ⟨(List.replicate n.toNat z.cps.toList).flatten.toArray⟩) H
theorem fold_rep (c : Array Nat) : ∀ (n : Nat) (acc : Array Nat), (List.replicate n c).foldl (· ++ ·) acc = acc ++ ((List.replicate n c.toList).flatten).toArray
  | 0, acc => by simp
  | n + 1, acc => by
    rw [List.replicate_succ, List.foldl_cons, fold_rep c n, List.replicate_succ, List.flatten_cons]
    apply Array.toList_inj.mp
    simp
theorem op_repS : OpR X (binaryOp .Mult) rRepS := by
  intro pins s σ H x y v u Q I rx ry h
  obtain ⟨z, n, rfl, rfl, h1, h2, h3, q⟩ := h
  obtain ⟨t, rfl⟩ := rx
  obtain ⟨t', rfl⟩ := ry
  have fin : ∀ (w : Value) (k : Nat), RelV (.str ⟨(List.replicate n.toNat z.cps.toList).flatten.toArray⟩) w → EP X pins σ Q w { s with toks := k } := fun w k r => ⟨_, H, I.tok _, r, q⟩
  have hs : sizeLine = 16777216 := sizeLine_eq
  have hmul : z.length * n.toNat ≤ 100 * 100000 := Nat.mul_le_mul h3 (by omega)
  refine PySem.P.mul_str ?_ ?_ ?_ ?_
  · rw [decide_eq_false (by omega), decide_eq_false (by omega)] <;> rfl
  · intro h4 h5 h6
    have e1 : (1 : Int) ≤ n := by omega
    have e2 : ((2 : Int) ^ 63 - 1) / n ≥ (2 ^ 63 - 1) / 100000 := by
      have e3 : (2 ^ 63 - 1 : Int) / 100000 * n ≤ 2 ^ 63 - 1 := by
        have : (2 ^ 63 - 1 : Int) / 100000 * n ≤ (2 ^ 63 - 1 : Int) / 100000 * 100000 := Int.mul_le_mul_of_nonneg_left h1 (by decide)
        omega
      exact (Int.le_ediv_iff_mul_le (by omega)).mpr e3
    omega
  · intro h4 h5
    unfold Builtin.Str.tooLong
    first
      | exact decide_eq_false (by omega)
      | (rw [hs]; exact decide_eq_false (by omega))
      | (simp; omega)
  · by_cases hn : n < 1
    · rw [if_pos hn]
      refine ⟨by decide, fin _ (s.toks + 1) ⟨s.toks, ?_⟩⟩
      have e0 : n.toNat = 0 := by omega
      rw [e0] <;> rfl
    · rw [if_neg hn]
      by_cases hb : (n == 1 || z.length == 0) = true
      · rw [if_pos hb]
        refine fin _ s.toks ⟨t, ?_⟩
        have ez : (⟨(List.replicate n.toNat z.cps.toList).flatten.toArray⟩ : Str) = z := by
          rw [Bool.or_eq_true] at hb
          rcases hb with hb | hb
          · have e1 : n = 1 := by simpa using hb
            subst e1
            apply Str.ext'
            simp
          · have e1 : z.cps.toList = [] := by
              have : z.cps.size = 0 := by
                have := (beq_iff_eq.mp hb)
                exact this
              exact List.eq_nil_of_length_eq_zero (by simpa using this)
            apply Str.ext'
            rw [e1]
            have : (List.replicate n.toNat ([] : List Nat)).flatten = [] := by simp
            rw [this]
            apply Array.toList_inj.mp
            rw [e1]
        rw [ez]
      · rw [if_neg hb]
        rw [fold_rep, Array.empty_append]
        refine ⟨?_, fin _ _ ⟨_, rfl⟩⟩
        have : ((List.replicate n.toNat z.cps.toList).flatten.toArray).size ≤ 10000000 := by
          rw [List.size_toArray, PyProof.Rows.lm_len_rep_flat, Array.length_toList, Nat.mul_comm]
          exact hmul
        first
          | exact this.trans (by decide)
          | (show ((List.replicate n.toNat z.cps.toList).flatten.toArray).size ≤ sizeLine; omega)
          | omega
end
end Z

/-! Z6: one rule for each form of the text, further. -/
namespace Z
open PySem PySem.Spec PyProof.Rows L2
section
variable {X : Cx} {ω : Bx} {a b c : Expr} {ta tb : TE2} {pos : Pos} {K : PySem.W.Frag}
/-! ### times -/
theorem tuple_one (l : Addr) (xs : Array Value) (n : Nat) (dd : Option Addr) (sl : Array (Option Value)) (u : Tok) :
    Meets (Builtin.«tuple.__mul__» ⟨[.ref l, .int 1 u], []⟩) (fun _ R s => s.heap.get? l = some { cls := .type "tuple", dict := dd, data := .seq xs n, slots := sl } ∧ R (.ok (.ret (Value.ref l))) s) :=
  .of_wp fun prog w A R s h => by
    obtain ⟨hp, g, d, tk, os⟩ := s
    obtain ⟨hl, h⟩ := h
    have f1 := AutoSeq1.idx_int
    have c1 : (xs.isEmpty || (1 : Int) == 1) = true := by rw [Bool.or_eq_true]; exact .inr rfl
    wp_walk using wpAny_loadPart' hl
    exact ⟨_, rfl, h⟩
def rRep1 (K : PySem.W.Frag) : R2 := fun x y H Q => ∃ l xs, x = .ref l ∧ y = .int 1 ∧ SqT K H l xs ∧ Q (.ref l) H
theorem op_rep1 : OpR X (binaryOp .Mult) (rRep1 X.K) := by
  intro pins s σ H x y v u Q I rx ry h
  obtain ⟨l, xs, rfl, rfl, hT, q⟩ := h
  cases rx
  obtain ⟨t, rfl⟩ := ry
  obtain ⟨its, r, ⟨⟨cls, dd, data, sl⟩, ho, hc, n, hd⟩, hs⟩ := I.tuple hT
  simp only at hc hd
  subst hc hd
  refine wpAny_binaryOp_repeat_ref (T := "tuple") (U := "int") (by decide) ⟨_, ho, rfl⟩ (fun s' => typeIs_int s' 1 t) noFill_tuple_mul F.fills_int_mul F.slot_int_rmul repeat_tuple F.slot_int_index.lookup
    (call_meets F.slot_int_rmul (typeIs_int s 1 t) F.entry_int_rmul (F.args_int_rmul_2 _ _) (int_rmul_tuple 1 t l its.toArray n dd sl)
      ⟨ho, rfl, ⟨_, ho, rfl⟩, call_meets F.slot_tuple_mul ⟨_, ho, rfl⟩ F.entry_tuple_mul (F.args_tuple_mul_2 _ _) (tuple_one l its.toArray n dd sl t) ⟨ho, ?_⟩⟩)
  exact ⟨.ref l, H, I.tok _, rfl, q⟩
@[irreducible] def oMulU : R22 := fun x y m Q => Box <| match res m x, y with
  | .int i, .int j => COk i j ∧ Q (.int (i * j)) m
  | .str z, .int n => (n ≤ 100000 ∧ -100000 ≤ n ∧ z.length ≤ 100) ∧ Q (.str ⟨(List.replicate n.toNat z.cps.toList).flatten.toArray⟩) m
  | .lst xs, .int k => (-(2 ^ 63) ≤ k ∧ k < 2 ^ 63 ∧ xs.length * k.toNat ≤ sizeLine) ∧ Q (.lst (List.replicate k.toNat xs).flatten) m
  | .tup xs, .int k => (xs ≠ [] ∧ 1 ≤ k ∧ k ≤ 1000 ∧ xs.length ≤ 1000) ∧ Q (.tup (List.replicate k.toNat xs).flatten) m
  | _, _ => False
def rMulU (K : PySem.W.Frag) : R2 := fun x y H Q => rI COk (fun i j => .int (i * j)) x y H Q ∨ rRepS x y H Q ∨ rRep x y H Q ∨ rRepT K x y H Q ∨ rRep1 K x y H Q
theorem cv_mulU : Cv2 K (rMulU K) oMulU := fun H m dx dy x y Q Q' hm rx ry h k => by
  unfold oMulU at h; replace h := h.out
  split at h
  · rename_i i j e1
    cases ry
    exact .inl ⟨i, j, repI rx hm e1, rfl, h.1, k _ _ (.same hm (.int _) h.2)⟩
  · rename_i i j e1
    cases ry
    exact .inr (.inl ⟨i, j, repS rx hm e1, rfl, h.1.1, h.1.2.1, h.1.2.2, k _ _ (.same hm (.str _) h.2)⟩)
  · rename_i i j e1
    exact .inr (.inr (.inl (cv_rep H m dx _ x y Q Q' hm rx ry ⟨i, j, e1, rfl, h.1.1, h.1.2.1, h.1.2.2, h.2⟩ k)))
  · rename_i i j e1
    cases ry
    by_cases hj : j = 1
    · subst hj
      have rt := repT rx e1
      obtain ⟨a1, v1, rfl, h1, r1⟩ := tupOf rx e1
      refine .inr (.inr (.inr (.inr ⟨a1, v1, rfl, rfl, h1, k _ _ (.same hm rt ?_)⟩)))
      have := h.2
      simpa using this
    obtain ⟨a1, v1, rfl, h1, r1⟩ := tupOf rx e1
    refine .inr (.inr (.inr (.inl ⟨a1, j, v1, rfl, rfl, h1, fun z => ?_, by have := h.1.2.1; omega, h.1.2.2.1, by rw [r1.length]; exact h.1.2.2.2, fun p hp => k _ _ (.new hm hp (.tup (SqT.of (Step.new_at hm hp)) ((r1.flat _).mono (Step.new hm hp).ex)) h.2)⟩)))
    subst z
    cases r1
    exact h.1.1 rfl
  · exact h.elim
theorem op_mulU : OpR X (binaryOp .Mult) (rMulU X.K) := op_mulA.or (op_repS.or (op_rep.or (op_repT.or op_rep1)))
theorem mulU (ha : PE2 X ω a ta) (hb : PE2 X ω b tb) : PE2 X ω (.BinOp a .Mult b pos) (tOp2 oMulU ta tb) := q_op op_mulU cv_mulU ha hb
/-! ### ints alone -/
@[irreducible] def oI (C : Int → Int → Prop) (g : Int → Int → D) : R22 := fun x y m Q => Box <| match x, y with
  | .int i, .int j => C i j ∧ Q (g i j) m
  | _, _ => False
theorem cv_oI {C : Int → Int → Prop} {f : Int → Int → Int} : Cv2 K (rI C fun i j => .int (f i j)) (oI C fun i j => .int (f i j)) := fun H m dx dy x y Q Q' hm rx ry h k => by
  unfold oI at h; replace h := h.out
  split at h
  · cases rx; cases ry
    exact ⟨_, _, rfl, rfl, h.1, k _ _ (.same hm (.int _) h.2)⟩
  · exact h.elim
abbrev oDivU : R22 := oI CDivW fun i j => .int (i / j)
abbrev oModU : R22 := oI (fun _ j => 0 < j) fun i j => .int (i % j)
abbrev oPowU : R22 := oI CPow fun i j => .int (i ^ j.toNat)
def oSubU : R22 := fun x y m Q => match x, y with
  | .int i, .int j => Q (.int (i - j)) m
  | _, _ => False
theorem cv_subU : Cv2 K (rI0 fun i j => .int (i - j)) oSubU := fun H m dx dy x y Q Q' hm rx ry h k => by
  unfold oSubU at h
  split at h
  · cases rx; cases ry
    exact ⟨_, _, rfl, rfl, k _ _ (.same hm (.int _) h)⟩
  · exact h.elim
theorem divU (ha : PE2 X ω a ta) (hb : PE2 X ω b tb) : PE2 X ω (.BinOp a .FloorDiv b pos) (tOp2 oDivU ta tb) := q_op op_fdivW cv_oI ha hb
theorem modU (ha : PE2 X ω a ta) (hb : PE2 X ω b tb) : PE2 X ω (.BinOp a .Mod b pos) (tOp2 oModU ta tb) := q_op op_mod cv_oI ha hb
theorem powU (ha : PE2 X ω a ta) (hb : PE2 X ω b tb) : PE2 X ω (.BinOp a .Pow b pos) (tOp2 oPowU ta tb) := q_op op_pow cv_oI ha hb
theorem subU (ha : PE2 X ω a ta) (hb : PE2 X ω b tb) : PE2 X ω (.BinOp a .Sub b pos) (tOp2 oSubU ta tb) := q_op op_sub cv_subU ha hb
def uNeg : D → M → Kd → Prop := fun x m Q => match x with
  | .int i => Q (.int (-i)) m
  | _ => False
theorem negU (ha : PE2 X ω a ta) : PE2 X ω (.UnaryOp .USub a pos) (tUn2 uNeg ta) :=
  (pe_un un_neg pe_sem).to2 fun σ H g m Q S hm q => (ha.sem S hm q).mono fun v H1 ⟨d, m1, s1, r1, q1⟩ => by
    unfold uNeg at q1
    dsimp only at q1
    split at q1
    · cases r1
      exact ⟨_, rfl, P2.go s1 (.same s1.mem (.int _) q1)⟩
    · exact q1.elim
/-! ### order: ints, texts -/
def oCmp (f : Int → Int → Bool) (h : List Nat → List Nat → Bool) : R22 := fun x y m Q => match x, y with
  | .int i, .int j => Q (.bl (f i j)) m
  | .str i, .str j => Q (.bl (h i.cps.toList j.cps.toList)) m
  | _, _ => False
def rCmp (f : Int → Int → Bool) (h : List Nat → List Nat → Bool) : R2 := fun x y H Q => rI0 (fun i j => .bl (f i j)) x y H Q ∨ ∃ i j, x = .str i ∧ y = .str j ∧ Q (.bl (h i.cps.toList j.cps.toList)) H
theorem cv_cmp {f : Int → Int → Bool} {h : List Nat → List Nat → Bool} : Cv2 K (rCmp f h) (oCmp f h) := fun H m dx dy x y Q Q' hm rx ry q k => by
  unfold oCmp at q
  split at q
  · cases rx; cases ry
    exact .inl ⟨_, _, rfl, rfl, k _ _ (.same hm (.bl _) q)⟩
  · cases rx; cases ry
    exact .inr ⟨_, _, rfl, rfl, k _ _ (.same hm (.bl _) q)⟩
  · exact q.elim
abbrev oLtU : R22 := oCmp (fun i j => decide (i < j)) fun i j => decide (i < j)
abbrev oGtU : R22 := oCmp (fun i j => decide (j < i)) fun i j => decide (j < i)
abbrev oGeU : R22 := oCmp (fun i j => decide (j ≤ i)) fun i j => !decide (i < j)
theorem op_ltU : OpR X (compareOp .Lt) (rCmp (fun i j => decide (i < j)) fun i j => decide (i < j)) := op_lt.or op_lt_str
theorem op_leU : OpR X (compareOp .LtE) (rCmp (fun i j => decide (i ≤ j)) fun i j => !decide (j < i)) := op_le.or op_le_str
theorem op_gtU : OpR X (compareOp .Gt) (rCmp (fun i j => decide (j < i)) fun i j => decide (j < i)) := op_gt.or op_gt_str
theorem op_geU : OpR X (compareOp .GtE) (rCmp (fun i j => decide (j ≤ i)) fun i j => !decide (i < j)) := op_ge.or op_ge_str
theorem ltU (ha : PE2 X ω a ta) (hb : PE2 X ω b tb) : PE2 X ω (.Compare a [.Lt] [b] pos) (tOp2 oLtU ta tb) := q_cmp op_ltU cv_cmp ha hb (nomark _)
theorem gtU (ha : PE2 X ω a ta) (hb : PE2 X ω b tb) : PE2 X ω (.Compare a [.Gt] [b] pos) (tOp2 oGtU ta tb) := q_cmp op_gtU cv_cmp ha hb (nomark _)
/-- a value that is a bool, as a test -/
def tTU (t : TE2) : TT2 := fun g m Q => t g m fun x m1 => match x with | .bl k => Q k m1 | _ => False
theorem testC {op : CmpOp} {r : R2} {r2 : R22} (ho : OpR X (compareOp op) r) (hc : Cv2 X.K r r2) (ha : PE2 X ω a ta) (hb : PE2 X ω b tb) (hm : behindInMarks op b = false) : PT2 X ω (.Compare a [op] [b] pos) (tTU (tOp2 r2 ta tb)) :=
  (pt_cmpR ho pe_sem pe_sem hm).to2 fun σ H g m Q S hm q =>
    (ha.sem S hm q).mono fun x H1 ⟨dx, m1, s1, r1, q1⟩ => (hb.sem (S.mono s1.ex) s1.mem q1).mono fun y H2 ⟨dy, m2, s2, r2', q2⟩ =>
      hc H2 m2 dx dy x y _ _ s2.mem (r1.mono s2.ex) r2' q2 fun v H' ⟨d, m', s', rv, q'⟩ => by
        dsimp only at q'
        split at q'
        · cases rv
          exact ⟨_, rfl, m', (s1.trans s2).trans s', q'⟩
        · exact q'.elim
theorem testV {e : Expr} {t : TE2} (h : PE2 X ω e t) (he : ∀ whole, isTrue e X.env whole = (do let v ← whole; standAt e.pos; holding [v] (truthy v)) := by intro _; rfl) : PT2 X ω e (tTU t) :=
  (pt_val pe_sem he).to2 fun σ H g m Q S hm q => (h.sem S hm q).mono fun v H1 ⟨d, m1, s1, r1, q1⟩ => by
    dsimp only at q1
    split at q1
    · cases r1
      exact ⟨_, rfl, m1, s1, q1⟩
    · exact q1.elim
theorem tltU (ha : PE2 X ω a ta) (hb : PE2 X ω b tb) : PT2 X ω (.Compare a [.Lt] [b] pos) (tTU (tOp2 oLtU ta tb)) := testC op_ltU cv_cmp ha hb (nomark _)
theorem tgtU (ha : PE2 X ω a ta) (hb : PE2 X ω b tb) : PT2 X ω (.Compare a [.Gt] [b] pos) (tTU (tOp2 oGtU ta tb)) := testC op_gtU cv_cmp ha hb (nomark _)
theorem tgeU (ha : PE2 X ω a ta) (hb : PE2 X ω b tb) : PT2 X ω (.Compare a [.GtE] [b] pos) (tTU (tOp2 oGeU ta tb)) := testC op_geU cv_cmp ha hb (nomark _)
theorem teqU {k : Nat} (hr : Room k X.A) (ha : PE2 X ω a ta) (hb : PE2 X ω b tb) : PT2 X ω (.Compare a [.Eq] [b] pos) (tTU (tOp2 oEq ta tb)) := testC (op_eqD hr.units) cv_eq ha hb (nomark _)
theorem tneU {k : Nat} (hr : Room k X.A) (ha : PE2 X ω a ta) (hb : PE2 X ω b tb) : PT2 X ω (.Compare a [.NotEq] [b] pos) (tTU (tOp2 oNe ta tb)) := testC (op_neD hr.units) cv_ne ha hb (nomark _)
/-! ### is: None, truths -/
def oIsNotU : R22 := fun x y m Q => match y with
  | .non => Q (.bl (!isNon x)) m
  | .bl j => match x with | .bl i => Q (.bl (!decide (i = j))) m | _ => False
  | _ => False
theorem cv_isNotU : Cv2 K (fun x y H Q => (y = .non ∧ Q (.bl (!decide (x = .non))) H) ∨ rNotB x y H Q) oIsNotU := fun H m dx dy x y Q Q' hm rx ry h k => by
  unfold oIsNotU at h
  split at h
  · cases ry
    exact .inl ⟨rfl, by rw [isNon_rep rx]; exact k _ _ (.same hm (.bl _) h)⟩
  · split at h
    · cases rx; cases ry
      exact .inr ⟨_, _, rfl, rfl, k _ _ (.same hm (.bl _) h)⟩
    · exact h.elim
  · exact h.elim
theorem tisNotU (ha : PE2 X ω a ta) (hb : PE2 X ω b tb) : PT2 X ω (.Compare a [.IsNot] [b] pos) (tTU (tOp2 oIsNotU ta tb)) := testC (op_notN.or op_notBl) cv_isNotU ha hb (nomark _)
/-! ### in: flat things in a list or a tuple, one sign in a text -/
def flatD : D → Bool | .non => true | .bl _ => true | .int _ => true | .str _ => true | _ => false
def vOf : D → V | .non => .non | .bl b => .bl b | .int i => .int i | .str x => .str x | .ty n => .ty n | .ref a => .ref a | _ => .non
theorem flat_rep {G : Hp} {x : V} {d : D} (r : Rep K G x d) (h : flatD d = true) : x = vOf d ∧ flatV x = true := by
  cases r <;> first | exact ⟨rfl, rfl⟩ | (exact absurd h (by simp [flatD]))
theorem flat_reps {G : Hp} : ∀ {vs : List V} {ds : List D}, Reps K G vs ds → ds.all flatD = true → vs = ds.map vOf ∧ vs.all flatV = true
  | _, _, .nil, _ => ⟨rfl, rfl⟩
  | _, _, .cons r t, h => by
    rw [List.all_cons, Bool.and_eq_true] at h
    have ⟨h1, h2⟩ := flat_rep r h.1
    have ⟨h3, h4⟩ := flat_reps t h.2
    refine ⟨by rw [List.map_cons, ← h1, ← h3], by rw [List.all_cons, h2, h4]; rfl⟩
def inD (x : D) (xs : List D) : Bool := inV (vOf x) (xs.map vOf)
@[irreducible] def oInU (neg : Bool) : R22 := fun x y m Q => Box <| match res m y with
  | .str z => match x with
    | .str ⟨⟨[c]⟩⟩ => Q (.bl (if neg then !decide (c ∈ z.cps.toList) else decide (c ∈ z.cps.toList))) m
    | _ => False
  | .tup ds => (flatD x = true ∧ ds.all flatD = true) ∧ Q (.bl (if neg then !inD x ds else inD x ds)) m
  | .lst ds => (flatD x = true ∧ ds.all flatD = true) ∧ Q (.bl (if neg then !inD x ds else inD x ds)) m
  | .rol ds => (flatD x = true ∧ ds.all flatD = true) ∧ Q (.bl (if neg then !inD x ds else inD x ds)) m
  | _ => False
def rInU (K : PySem.W.Frag) (neg : Bool) : R2 := fun x y H Q => (∃ (c : Nat) (z : Str), x = .str ⟨#[c]⟩ ∧ y = .str z ∧ Q (.bl (if neg then !decide (c ∈ z.cps.toList) else decide (c ∈ z.cps.toList))) H) ∨ rIn K neg x y H Q
theorem cv_inU {neg : Bool} : Cv2 K (rInU K neg) (oInU neg) := fun H m dx dy x y Q Q' hm rx ry h k => by
  have seq : ∀ ds : List D, itsD (res m dy) = some ds → (flatD dx = true ∧ ds.all flatD = true) ∧ Q (.bl (if neg then !inD dx ds else inD dx ds)) m → rInU K neg x y H Q' := fun ds e ⟨⟨h1, h2⟩, h3⟩ => by
    obtain ⟨a, vs, rfl, h4, h5⟩ := itsOf ry hm e
    have ⟨e1, f1⟩ := flat_rep rx h1
    have ⟨e2, f2⟩ := flat_reps h5 h2
    refine .inr ⟨a, vs, rfl, h4, f1, f2, ?_⟩
    have q := k _ _ (.same hm (.bl _) h3)
    rw [e1, e2]
    exact q
  unfold oInU at h; replace h := h.out
  split at h
  · rename_i z e
    split at h
    · cases rx
      exact .inl ⟨_, z, rfl, repS ry hm e, k _ _ (.same hm (.bl _) h)⟩
    · exact h.elim
  · rename_i ds e
    exact seq ds (by rw [e] <;> rfl) h
  · rename_i ds e
    exact seq ds (by rw [e] <;> rfl) h
  · rename_i ds e
    exact seq ds (by rw [e] <;> rfl) h
  · exact h.elim
theorem op_inU : OpR X (compareOp .In) (rInU X.K false) := OpR.or (fun pins s σ H x y v u Q I rx ry h => op_in_sign pins s σ H x y v u Q I rx ry h) op_in_seq
theorem op_notInU : OpR X (compareOp .NotIn) (rInU X.K true) := OpR.or (fun pins s σ H x y v u Q I rx ry h => op_notIn_sign pins s σ H x y v u Q I rx ry h) op_notIn_seq
theorem inU (ha : PE2 X ω a ta) (hb : PE2 X ω b tb) (hm : behindInMarks .In b = false) : PE2 X ω (.Compare a [.In] [b] pos) (tOp2 (oInU false) ta tb) := q_cmp op_inU cv_inU ha hb hm
theorem tinU (ha : PE2 X ω a ta) (hb : PE2 X ω b tb) (hm : behindInMarks .In b = false) : PT2 X ω (.Compare a [.In] [b] pos) (tTU (tOp2 (oInU false) ta tb)) := testC op_inU cv_inU ha hb hm
theorem tnotInU (ha : PE2 X ω a ta) (hb : PE2 X ω b tb) (hm : behindInMarks .NotIn b = false) : PT2 X ω (.Compare a [.NotIn] [b] pos) (tTU (tOp2 (oInU true) ta tb)) := testC op_notInU cv_inU ha hb hm

/-! ### items -/
@[irreducible] def oIxU : R22 := fun x y m Q => Box <| match res m x, y with
  | .tup ds, .int i => ∃ d, atI ds i = some d ∧ Q d m
  | .lst ds, .int i => ∃ d, atI ds i = some d ∧ Q d m
  | .rol ds, .int i => ∃ d, atI ds i = some d ∧ Q d m
  | .str z, .int i => ∃ c, z.length ≤ sizeLine ∧ atI z.cps.toList i = some c ∧ Q (.str ⟨#[c]⟩) m
  | _, _ => False
theorem cv_ixU : Cv2 K (rIx K) oIxU := fun H m dx dy x y Q Q' hm rx ry h k => by
  unfold oIxU at h; replace h := h.out
  split at h
  · rename_i ds i e
    obtain ⟨d, h1, h2⟩ := h
    exact .inr (.inl (cv_ixT H m dx _ x y Q Q' hm rx ry ⟨ds, i, d, e, rfl, h1, h2⟩ k))
  · rename_i ds i e
    obtain ⟨d, h1, h2⟩ := h
    exact .inl (cv_ixL H m dx _ x y Q Q' hm rx ry ⟨ds, i, d, by rw [e] <;> rfl, rfl, h1, h2⟩ k)
  · rename_i ds i e
    obtain ⟨d, h1, h2⟩ := h
    exact .inl (cv_ixL H m dx _ x y Q Q' hm rx ry ⟨ds, i, d, by rw [e] <;> rfl, rfl, h1, h2⟩ k)
  · rename_i z i e
    obtain ⟨c, h1, h2, h3⟩ := h
    cases ry
    exact .inr (.inr ⟨z, i, c, repS rx hm e, rfl, h1, h2, k _ _ (.same hm (.str _) h3)⟩)
  · exact h.elim
theorem ixU (ha : PE2 X ω a ta) (hb : PE2 X ω b tb) (hs : PlainIx b) : PE2 X ω (.Subscript a b pos) (tOp2 oIxU ta tb) := q_ix ix_seq cv_ixU ha hb hs
/-! ### slices -/
@[irreducible] def sU : D → Option Int → Option Int → M → Kd → Prop := fun x lo hi m Q => Box <| match res m x with
  | .lst xs => Q (.lst (cutD xs lo hi)) m
  | .rol xs => Q (.lst (cutD xs lo hi)) m
  | .tup xs => Q (.tup (cutD xs lo hi)) m
  | .str z => z.length ≤ sizeLine ∧ Q (.str (cutS z lo hi)) m
  | _ => False
theorem cs_U : CvS K (fun x lo hi H Q => rSlL K x lo hi H Q ∨ rSlA K x lo hi H Q ∨ rSlS x lo hi H Q) sU := fun H m d v lo hi Q Q' hm r h k => by
  unfold sU at h; replace h := h.out
  split at h
  · rename_i xs e
    exact .inl (cs_lst H m d v lo hi Q Q' hm r ⟨xs, by rw [e] <;> rfl, h⟩ k)
  · rename_i xs e
    exact .inl (cs_lst H m d v lo hi Q Q' hm r ⟨xs, by rw [e] <;> rfl, h⟩ k)
  · rename_i xs e
    have tr := repT r e
    obtain ⟨a1, v1, rfl, h1, r1⟩ := tupOf r e
    refine .inr (.inl ⟨a1, v1, rfl, h1, fun ⟨h2, h3⟩ => ?_, fun _ p hp => k _ _ (.new hm hp (.tup (SqT.of (Step.new_at hm hp)) ((r1.cut lo hi).mono (Step.new hm hp).ex)) h)⟩)
    rw [r1.length] at h2 h3
    have ec : cutD xs lo hi = xs := by
      unfold cutD
      rw [h2, h3, List.drop_zero, Nat.sub_zero, List.take_length]
    rw [ec] at h
    exact k _ _ (.same hm tr h)
  · rename_i z e
    exact .inr (.inr ⟨z, repS r hm e, h.1, k _ _ (.same hm (.str _) h.2)⟩)
  · exact h.elim
theorem slU {e : Expr} {lo hi : Option Expr} {p2 pos : Pos} {te : TE2} {tl th : TO2} (he : PE2 X ω e te) (hl : PO2 X ω lo tl) (hh : PO2 X ω hi th) : PE2 X ω (.Subscript e (.Slice lo hi none p2) pos) (tSl2 sU te tl th) :=
  q_slice (SlR.or sl_list (SlR.or sl_tupA sl_str)) cs_U he hl hh
def tPartU (t : TE2) : TO2 := fun g m Q => t g m fun x m1 => match x with | .int i => Q (some i) m1 | _ => False
theorem poU {e : Expr} {te : TE2} (h : PE2 X ω e te) : PO2 X ω (some e) (tPartU te) := ⟨_, po_some pe_sem, fun S hm q k => (h.sem S hm q).mono fun v H1 ⟨d, m1, s1, r1, q1⟩ => by
  dsimp only at q1
  split at q1
  · cases r1
    exact ⟨_, rfl, k _ _ _ s1 q1⟩
  · exact q1.elim⟩
end

/-! ### and, or, not, if by br -/
section
variable {X : Cx} {ω : Bx} {a b c : Expr} {rest : List Expr} {t u : TT2} {ta tb : TE2} {pos : Pos}
def tAndU (t u : TT2) : TT2 := fun g m Q => t g m fun c m1 => br c (u g m1 Q) (Q false m1)
def tOrU (t u : TT2) : TT2 := fun g m Q => t g m fun c m1 => br c (Q true m1) (u g m1 Q)
theorem PW2.imp {e : Expr} {t u : TT2} (h : PW2 X ω e t) (k : ∀ g m Q, u g m Q → t g m Q) : PW2 X ω e u := ⟨fun S hm q => h.sem S hm (k _ _ _ q)⟩
theorem andW (ha : PT2 X ω a t) (hb : PW2 X ω (.BoolOp .And (b :: rest) pos) u) : PW2 X ω (.BoolOp .And (a :: b :: rest) pos) (tAndU t u) :=
  (pw_and pt_sem pw_sem).to2 fun σ H g m Q S hm q => (ha.sem S hm q).mono fun k H1 ⟨m1, s1, q1⟩ => by
    cases k with
    | true => have q1 := br_t q1; refine iteT ?_; exact semW.mono (hb.sem (S.mono s1.ex) s1.mem q1) fun _ _ h => P2T.go s1 h
    | false => have q1 := br_f q1; refine iteF ?_; exact ⟨m1, s1, q1⟩
theorem orW (ha : PT2 X ω a t) (hb : PW2 X ω (.BoolOp .Or (b :: rest) pos) u) : PW2 X ω (.BoolOp .Or (a :: b :: rest) pos) (tOrU t u) :=
  (pw_or pt_sem pw_sem).to2 fun σ H g m Q S hm q => (ha.sem S hm q).mono fun k H1 ⟨m1, s1, q1⟩ => by
    cases k with
    | false => have q1 := br_f q1; refine iteF ?_; exact semW.mono (hb.sem (S.mono s1.ex) s1.mem q1) fun _ _ h => P2T.go s1 h
    | true => have q1 := br_t q1; refine iteT ?_; exact ⟨m1, s1, q1⟩
def tAndVU (ta tb : TE2) : TE2 := fun g m Q => ta g m fun x m1 => match x with | .bl c => br c (tb g m1 Q) (Q (.bl false) m1) | _ => False
def tOrVU (ta tb : TE2) : TE2 := fun g m Q => ta g m fun x m1 => match x with | .bl c => br c (Q (.bl true) m1) (tb g m1 Q) | _ => False
def tNotVU (ta : TE2) : TE2 := fun g m Q => ta g m fun x m1 => match x with | .bl c => Q (.bl (!c)) m1 | _ => False
theorem andV (ha : PE2 X ω a ta) (hb : PE2 X ω (.BoolOp .And (b :: rest) pos) tb) : PE2 X ω (.BoolOp .And (a :: b :: rest) pos) (tAndVU ta tb) :=
  (pe_and pe_sem pe_sem).to2 fun σ H g m Q S hm q => (ha.sem S hm q).mono fun x H1 ⟨d, m1, s1, r1, q1⟩ => by
    dsimp only at q1
    split at q1
    · rename_i c
      cases r1
      refine ⟨c, rfl, ?_⟩
      cases c with
      | true => have q1 := br_t q1; refine iteT ?_; exact (hb.sem (S.mono s1.ex) s1.mem q1).mono fun _ _ h => P2.go s1 h
      | false => have q1 := br_f q1; refine iteF ?_; exact P2.go s1 (.same s1.mem (.bl _) q1)
    · exact q1.elim
theorem orV (ha : PE2 X ω a ta) (hb : PE2 X ω (.BoolOp .Or (b :: rest) pos) tb) : PE2 X ω (.BoolOp .Or (a :: b :: rest) pos) (tOrVU ta tb) :=
  (pe_or pe_sem pe_sem).to2 fun σ H g m Q S hm q => (ha.sem S hm q).mono fun x H1 ⟨d, m1, s1, r1, q1⟩ => by
    dsimp only at q1
    split at q1
    · rename_i c
      cases r1
      refine ⟨c, rfl, ?_⟩
      cases c with
      | false => have q1 := br_f q1; refine iteF ?_; exact (hb.sem (S.mono s1.ex) s1.mem q1).mono fun _ _ h => P2.go s1 h
      | true => have q1 := br_t q1; refine iteT ?_; exact P2.go s1 (.same s1.mem (.bl _) q1)
    · exact q1.elim
theorem notV (ha : PE2 X ω a ta) : PE2 X ω (.UnaryOp .Not a pos) (tNotVU ta) :=
  (pe_not pe_sem).to2 fun σ H g m Q S hm q => (ha.sem S hm q).mono fun x H1 ⟨d, m1, s1, r1, q1⟩ => by
    dsimp only at q1
    split at q1
    · cases r1
      exact ⟨_, rfl, P2.go s1 (.same s1.mem (.bl _) q1)⟩
    · exact q1.elim
def tIfSU (c : TT2) (t u : TS2) : TS2 := fun E g m => c g m fun b m1 => br b (t E g m1) (u E g m1)
theorem ifS {t u : TS2} {c : Expr} {a b : List Stmt} {tc : TT2} (hc : PT2 X ω c tc) (ha : PSs2 X ω a t) (hb : PSs2 X ω b u) : PS2 X ω (.If c a b pos) (tIfSU tc t u) :=
  (ps_if pt_sem pss_sem pss_sem).to2 fun σ H g m E S hm q => (hc.sem S hm q).mono fun k H1 ⟨m1, s1, q1⟩ => by
    cases k with
    | true => have q1 := br_t q1; refine iteT ?_; exact cE_go s1 (ha.sem (S.mono s1.ex) s1.mem q1)
    | false => have q1 := br_f q1; refine iteF ?_; exact cE_go s1 (hb.sem (S.mono s1.ex) s1.mem q1)
def tWhileU (c : TT2) (tb : TS2) : TS2 := fun E g m => ∃ W : Nat → Sl → M → Prop, (∃ n, W n g m) ∧ ∀ n g m, W n g m →
  c g m fun b m1 => br b (tb { E with nx := fun g' m' => ∃ n', n' < n ∧ W n' g' m', ct := fun g' m' => ∃ n', n' < n ∧ W n' g' m', bk := E.nx } g m1) (E.nx g m1)
theorem whileS {c : Expr} {body : List Stmt} {tc : TT2} {tb : TS2} (hp : PassesOwn (model X.prog X.w) X.A X.env X.xe) (hc : PT2 X ω c tc) (hb : PSs2 X ω body tb) : PS2 X ω (.While c body [] pos) (tWhileU tc tb) :=
  (ps_while hp pt_sem pss_sem).to2 fun σ H g m E S hm ⟨W, ⟨n0, w0⟩, turn⟩ => by
    refine ⟨fun n σ' H' => ∃ g' m', Step X.K m H m' H' ∧ SlotOk X.K ω g' σ' (hid m' H') ∧ W n g' m', ⟨n0, g, m, .refl hm, S, w0⟩, ?_⟩
    rintro n σ1 H1 ⟨g1, m1, s1, S1, w1⟩
    refine (hc.sem S1 s1.mem (turn n g1 m1 w1)).mono fun b H2 ⟨m2, s2, q2⟩ => ?_
    cases b with
    | true =>
      have q2 := br_t q2
      refine iteT ⟨fun σ' H' => ∃ n', n' < n ∧ ∃ g' m', Step X.K m H m' H' ∧ SlotOk X.K ω g' σ' (hid m' H') ∧ W n' g' m', fun _ _ h => h, ?_⟩
      refine semSs.mono (hb.sem (S1.mono s2.ex) s2.mem q2) ?_ (fun _ _ q => P2.go (s1.trans s2) q) (fun _ _ q => P2S.go (s1.trans s2) q) ?_
      · rintro σ3 H3 ⟨g3, m3, s3, S3, n3, l3, w3⟩
        exact ⟨n3, l3, g3, m3, (s1.trans s2).trans s3, S3, w3⟩
      · rintro σ3 H3 ⟨g3, m3, s3, S3, n3, l3, w3⟩
        exact ⟨n3, l3, g3, m3, (s1.trans s2).trans s3, S3, w3⟩
    | false =>
      have q2 := br_f q2
      exact iteF ⟨g1, m2, s1.trans s2, S1.mono s2.ex, q2⟩
end

/-! ### built-ins by what they are given -/
section
variable {K : PySem.W.Frag}
def kAbs : RC2 := fun xs m Q => match xs with | [.int i] => Q (.int (if i < 0 then -i else i)) m | _ => False
theorem kc_abs : CvC K (fun xs H Q => ∃ i, xs = [.int i] ∧ Q (.int (if i < 0 then -i else i)) H) kAbs := fun H m ds vs Q Q' hm r h k => by
  unfold kAbs at h
  split at h
  · exact cc_abs H m _ vs Q Q' hm r ⟨_, rfl, h⟩ k
  · exact h.elim
def kMax2 : RC2 := fun xs m Q => match xs with | [.int i, .int j] => Q (.int (if j > i then j else i)) m | _ => False
theorem kc_max2 : CvC K (fun xs H Q => ∃ i j, xs = [.int i, .int j] ∧ Q (.int (if j > i then j else i)) H) kMax2 := fun H m ds vs Q Q' hm r h k => by
  unfold kMax2 at h
  split at h
  · exact cc_max2 H m _ vs Q Q' hm r ⟨_, _, rfl, h⟩ k
  · exact h.elim
/-- int of an int, a bool, a text -/
def kInt : RC2 := fun xs m Q => match xs with
  | [.int i] => Q (.int i) m
  | [.bl k] => Q (.int (if k then 1 else 0)) m
  | [.str a] => ∃ n, PySem.intText? a = some n ∧ a.length ≤ 640 ∧ Q (.int n) m
  | _ => False
theorem kc_int : CvC K (fun xs H Q => ((∃ i, xs = [.int i] ∧ Q (.int i) H) ∨ ∃ k, xs = [.bl k] ∧ Q (.int (if k then 1 else 0)) H) ∨ ∃ a n, xs = [.str a] ∧ PySem.intText? a = some n ∧ a.length ≤ 640 ∧ Q (.int n) H) kInt := fun H m ds vs Q Q' hm r h k => by
  unfold kInt at h
  split at h
  · exact .inl (cc_int1 H m _ vs Q Q' hm r (.inl ⟨_, rfl, h⟩) k)
  · exact .inl (cc_int1 H m _ vs Q Q' hm r (.inr ⟨_, rfl, h⟩) k)
  · obtain ⟨n, h1, h2, h3⟩ := h
    cases r with | cons r1 r2 => cases r1; cases r2; exact .inr ⟨_, n, rfl, h1, h2, k _ _ (.same hm (.int _) h3)⟩
  · exact h.elim
def kStr : RC2 := fun xs m Q => match xs with | [.int i] => i.natAbs.log2 < 1920 ∧ Q (.str (toString i)) m | _ => False
theorem kc_str : CvC K (fun xs H Q => ∃ i : Int, xs = [V.int i] ∧ i.natAbs.log2 < 1920 ∧ Q (V.str (toString i)) H) kStr := fun H m ds vs Q Q' hm r h k => by
  unfold kStr at h
  split at h
  · exact cc_strI H m _ vs Q Q' hm r ⟨_, rfl, h.1, h.2⟩ k
  · exact h.elim
/-- len: of a list, a tuple, a text -/
@[irreducible] def kLen : RC2 := fun xs m Q => Box <| match xs with
  | [x] => match res m x with
    | .str z => z.length ≤ sizeLine ∧ Q (.int z.length) m
    | .tup ds => Q (.int ds.length) m
    | .lst ds => Q (.int ds.length) m
    | .rol ds => Q (.int ds.length) m
    | _ => False
  | _ => False
theorem kc_len : CvC K (fun xs H Q => ∃ x n, xs = [x] ∧ LenV K x H n ∧ Q (.int n) H) kLen := fun H m ds vs Q Q' hm r h k => by
  unfold kLen at h; replace h := h.out
  split at h
  · rename_i x
    split at h
    · rename_i z e
      exact cc_len H m _ vs Q Q' hm r ⟨x, z.length, rfl, by rw [e]; exact if_pos h.1, h.2⟩ k
    · rename_i z e
      exact cc_len H m _ vs Q Q' hm r ⟨x, _, rfl, by rw [e] <;> rfl, h⟩ k
    · rename_i z e
      exact cc_len H m _ vs Q Q' hm r ⟨x, _, rfl, by rw [e] <;> rfl, h⟩ k
    · rename_i z e
      exact cc_len H m _ vs Q Q' hm r ⟨x, _, rfl, by rw [e] <;> rfl, h⟩ k
    · exact h.elim
  · exact h.elim
@[irreducible] def kSum : RC2 := fun xs m Q => Box <| match xs with | [x] => ∃ ns : List Int, lsD (res m x) = some (ns.map D.int) ∧ Q (.int ns.sum) m | _ => False
theorem kc_sum : CvC K (rSum K) kSum := fun H m ds vs Q Q' hm r h k => by
  unfold kSum at h; replace h := h.out
  split at h
  · obtain ⟨ns, h1, h2⟩ := h
    exact cc_sum H m _ vs Q Q' hm r ⟨_, ns, rfl, h1, h2⟩ k
  · exact h.elim
@[irreducible] def kAll : RC2 := fun xs m Q => Box <| match xs with | [x] => ∃ bs : List Bool, lsD (res m x) = some (bs.map D.bl) ∧ Q (.bl (bs.all id)) m | _ => False
@[irreducible] def kAny : RC2 := fun xs m Q => Box <| match xs with | [x] => ∃ bs : List Bool, lsD (res m x) = some (bs.map D.bl) ∧ Q (.bl (bs.any id)) m | _ => False
theorem kc_all : CvC K (rAll K) kAll := fun H m ds vs Q Q' hm r h k => by
  unfold kAll at h; replace h := h.out
  split at h
  · obtain ⟨ns, h1, h2⟩ := h
    exact cc_all H m _ vs Q Q' hm r ⟨_, ns, rfl, h1, h2⟩ k
  · exact h.elim
@[irreducible] def kIts (f : List D → D) : RC2 := fun xs m Q => Box <| match xs with
  | [x] => match res m x with
    | .lst ds => Q (f ds) m
    | .rol ds => Q (f ds) m
    | .tup ds => Q (f ds) m
    | _ => False
  | _ => False
abbrev kTuple : RC2 := kIts .tup
abbrev kList : RC2 := kIts .lst
theorem kIts_of {f : List D → D} {ds : List D} {m : M} {Q : Kd} (h : kIts f ds m Q) : ∃ x es, ds = [x] ∧ itsD (res m x) = some es ∧ Q (f es) m := by
  unfold kIts at h; replace h := h.out
  split at h
  · rename_i x
    split at h
    · rename_i es e
      exact ⟨x, es, rfl, by rw [e] <;> rfl, h⟩
    · rename_i es e
      exact ⟨x, es, rfl, by rw [e] <;> rfl, h⟩
    · rename_i es e
      exact ⟨x, es, rfl, by rw [e] <;> rfl, h⟩
    · exact h.elim
  · exact h.elim
theorem kc_tuple : CvC K (fun xs H Q => ∃ p ys, xs = [.ref p] ∧ ((SqL K H p ys ∧ ∀ l, H l = none → Q (.ref l) (upd H l (.tup ys))) ∨ (SqT K H p ys ∧ Q (.ref p) H))) kTuple := fun H m ds vs Q Q' hm r h k => cc_tuple H m ds vs Q Q' hm r (kIts_of h) k
theorem kc_list : CvC K (fun xs H Q => ∃ p ys, xs = [.ref p] ∧ (SqL K H p ys ∨ SqT K H p ys) ∧ ∀ l, H l = none → Q (.ref l) (upd H l (.lst ys))) kList := fun H m ds vs Q Q' hm r h k => cc_list H m ds vs Q Q' hm r (kIts_of h) k
def Ty.of : String → Option Ty
  | "bool" => some .bl | "int" => some .int | "str" => some .str | "tuple" => some .tup | "list" => some .lst | "dict" => some .dic | _ => none
end
end Z

/-! Z7: defs of the text, calls, built-ins by their names. -/
namespace Z
open PySem PySem.Spec PyProof.Rows L2

/-- a def as it stands behind the top -/
structure DefAt (K : PySem.W.Frag) (mg : Str → Option Value) (x : Str) (st : Stmt) (ps : List Str) : Prop where
  ex : ∃ (f : Addr) (fd : FuncData), FunZ K x x st f fd ∧ mg x = some (.ref f) ∧ Binds K fd ps []
/-- .. and what it promises -/
structure DefOk (P : Program) (w : World) (K : PySem.W.Frag) (mg : Str → Option Value) (base : Heap) (k : Nat) (x : Str) (sp : Sp2) : Prop where
  ex : ∃ (f : Addr) (fd : FuncData) (ps : List Str), FnOk P w K mg base CX0 k f fd ps (lift K sp) ∧ mg x = some (.ref f) ∧ PySem.W.keepIn K (.ref f) = true ∧ Binds K fd ps []
section
variable {P : Program} {w : World} {K : PySem.W.Frag} {mg : Str → Option Value} {base : Heap}
/-- the slots at a def's entry -/
def st0 (n : Nat) (ds : List D) : Sl := ds.map some ++ List.replicate (n - ds.length) none
theorem DefOk.imp {x : Str} {k : Nat} {sp sp' : Sp2} (h : DefOk P w K mg base k x sp) (i : ∀ ds m Q E, sp' ds m Q E → sp ds m Q E) : DefOk P w K mg base k x sp' := by
  obtain ⟨f, fd, ps, F, h1, h2, h3⟩ := h.ex
  exact ⟨f, fd, ps, F.imp fun vs H Q E ⟨ds, m, Q2, E2, a, b, c, d, e⟩ => ⟨ds, m, Q2, E2, a, b, i _ _ _ _ c, d, e⟩, h1, h2, h3⟩
end
def tCallU (sp : Sp2) (t : TA2) : TE2 := fun g m Q => t g m fun ds m1 => sp ds m1 Q no2
section
variable {X : Cx} {ω : Bx} {k kk : Nat} {sp : Sp2} {x : Str} {p pos : Pos} {e e2 : Expr} {es : List Expr} {t : TA2} {te te2 : TE2}
theorem callU (D : DefOk X.prog X.w X.K X.mg X.base k x sp) (hr : Room kk X.A) (hg : Gl X x) (ha : PA2 X ω (e :: es) t) (hk : k ≤ kk := by decide) (hdb : (x == ("__debug__" : Str)) = false := by decide)
    (he : starEach (e :: es) X.env = (false, eval e X.env) :: starEach es X.env := by rfl) (hpl : (backTo pos (starEach es X.env)).any (·.1) = false := by rfl) : PE2 X ω (.Call (.Name x p) (e :: es) [] pos) (tCallU sp t) := by
  obtain ⟨f, fd, ps, F, h1, h2, h3⟩ := D.ex
  exact (q_call (dd := []) F (hr.mono hk) hg h1 h2 h3 .nil (fun _ => .nil) ha hdb he hpl).imp fun g m Q h => by
    show t g m fun ds m1 => sp (ds ++ []) m1 Q no2
    simp only [List.append_nil]
    exact h
theorem bt_len : bootBuiltins "len" = some (.builtin "len") := by decide +kernel
theorem bt_abs : bootBuiltins "abs" = some (.builtin "abs") := by decide +kernel
theorem bt_max : bootBuiltins "max" = some (.builtin "max") := by decide +kernel
theorem bt_sum : bootBuiltins "sum" = some (.builtin "sum") := by decide +kernel
theorem bt_all : bootBuiltins "all" = some (.builtin "all") := by decide +kernel
theorem bt_isinstance : bootBuiltins "isinstance" = some (.builtin "isinstance") := by decide +kernel
theorem bt_int : bootBuiltins "int" = some (.type "int") := by decide +kernel
theorem bt_str : bootBuiltins "str" = some (.type "str") := by decide +kernel
theorem bt_bool : bootBuiltins "bool" = some (.type "bool") := by decide +kernel
theorem bt_tuple : bootBuiltins "tuple" = some (.type "tuple") := by decide +kernel
theorem bt_list : bootBuiltins "list" = some (.type "list") := by decide +kernel
theorem lenU (hg : Gl X "len") (hm : X.mg "len" = none) (ha : PA2 X ω (e :: es) t) (he : starEach (e :: es) X.env = (false, eval e X.env) :: starEach es X.env := by rfl) (hpl : (backTo pos (starEach es X.env)).any (·.1) = false := by rfl) : PE2 X ω (.Call (.Name "len" p) (e :: es) [] pos) (tCB2 kLen t) :=
  q_callB call_len kc_len hg hm bt_len ha (by decide) (by decide) he hpl
theorem absU (hg : Gl X "abs") (hm : X.mg "abs" = none) (ha : PA2 X ω (e :: es) t) (he : starEach (e :: es) X.env = (false, eval e X.env) :: starEach es X.env := by rfl) (hpl : (backTo pos (starEach es X.env)).any (·.1) = false := by rfl) : PE2 X ω (.Call (.Name "abs" p) (e :: es) [] pos) (tCB2 kAbs t) :=
  q_callB call_abs kc_abs hg hm bt_abs ha (by decide) (by decide) he hpl
theorem maxU (hc : X.calm = true) (hg : Gl X "max") (hm : X.mg "max" = none) (ha : PA2 X ω (e :: es) t) (he : starEach (e :: es) X.env = (false, eval e X.env) :: starEach es X.env := by rfl) (hpl : (backTo pos (starEach es X.env)).any (·.1) = false := by rfl) : PE2 X ω (.Call (.Name "max" p) (e :: es) [] pos) (tCB2 kMax2 t) :=
  q_callB (call_max2 hc) kc_max2 hg hm bt_max ha (by decide) (by decide) he hpl
theorem sumU (hc : X.calm = true) (hg : Gl X "sum") (hm : X.mg "sum" = none) (ha : PA2 X ω (e :: es) t) (he : starEach (e :: es) X.env = (false, eval e X.env) :: starEach es X.env := by rfl) (hpl : (backTo pos (starEach es X.env)).any (·.1) = false := by rfl) : PE2 X ω (.Call (.Name "sum" p) (e :: es) [] pos) (tCB2 kSum t) :=
  q_callB (cr_sum hc) kc_sum hg hm bt_sum ha (by decide) (by decide) he hpl
theorem allU (hc : X.calm = true) (hg : Gl X "all") (hm : X.mg "all" = none) (ha : PA2 X ω (e :: es) t) (he : starEach (e :: es) X.env = (false, eval e X.env) :: starEach es X.env := by rfl) (hpl : (backTo pos (starEach es X.env)).any (·.1) = false := by rfl) : PE2 X ω (.Call (.Name "all" p) (e :: es) [] pos) (tCB2 kAll t) :=
  q_callB (cr_all hc) kc_all hg hm bt_all ha (by decide) (by decide) he hpl
theorem intU (hg : Gl X "int") (hm : X.mg "int" = none) (ha : PA2 X ω (e :: es) t) (he : starEach (e :: es) X.env = (false, eval e X.env) :: starEach es X.env := by rfl) (hpl : (backTo pos (starEach es X.env)).any (·.1) = false := by rfl) : PE2 X ω (.Call (.Name "int" p) (e :: es) [] pos) (tCB2 kInt t) :=
  q_callTy (call_int1.or call_int_str) kc_int hg hm bt_int ha (by decide) (by decide) he hpl
theorem strU (hg : Gl X "str") (hm : X.mg "str" = none) (ha : PA2 X ω (e :: es) t) (he : starEach (e :: es) X.env = (false, eval e X.env) :: starEach es X.env := by rfl) (hpl : (backTo pos (starEach es X.env)).any (·.1) = false := by rfl) : PE2 X ω (.Call (.Name "str" p) (e :: es) [] pos) (tCB2 kStr t) :=
  q_callTy call_str_int kc_str hg hm bt_str ha (by decide) (by decide) he hpl
theorem tupleU (hg : Gl X "tuple") (hm : X.mg "tuple" = none) (ha : PA2 X ω (e :: es) t) (he : starEach (e :: es) X.env = (false, eval e X.env) :: starEach es X.env := by rfl) (hpl : (backTo pos (starEach es X.env)).any (·.1) = false := by rfl) : PE2 X ω (.Call (.Name "tuple" p) (e :: es) [] pos) (tCB2 kTuple t) :=
  q_callTy call_tuple_of kc_tuple hg hm bt_tuple ha (by decide) (by decide) he hpl
theorem listU (hg : Gl X "list") (hm : X.mg "list" = none) (ha : PA2 X ω (e :: es) t) (he : starEach (e :: es) X.env = (false, eval e X.env) :: starEach es X.env := by rfl) (hpl : (backTo pos (starEach es X.env)).any (·.1) = false := by rfl) : PE2 X ω (.Call (.Name "list" p) (e :: es) [] pos) (tCB2 kList t) :=
  q_callTy call_list_of kc_list hg hm bt_list ha (by decide) (by decide) he hpl
end
/-! ### the law's end -/
/-- what is asked of the law's def -/
def spLaw : Sp2 := fun ds m Q _ => ∃ ns : List Int, ds = [.rol (ns.map D.int)] ∧ ns.length ≤ 63 ∧ ∀ m', Q (.bl true) m'
theorem only_hid {H : Hp} (h : Only H) {K : PySem.W.Frag} {a : Addr} {xs : List V} (s : SqL K H a xs) : SqL K (hid noM H) a xs := by rw [hid_no]; exact s
end Z

/-! Z8: walks over sequences, comprehensions stored, chains, the law's end. -/
namespace Z
open PySem PySem.Spec PyProof.Rows L2

/-! ### a list or a tuple walked -/
def iSeqV (K : PySem.W.Frag) (tl : TE) : TI := fun σ H R => tl σ H fun x H1 => (∃ a, x = .ref a ∧ (((∃ xs, SqL K H1 a xs) ∧ R (Itl K a) H1) ∨ ((∃ xs, SqT K H1 a xs) ∧ R (Itt K a) H1))) ∨ ∃ z, x = .str z ∧ R (Its z) H1
section
variable {X : Cx} {ω : Bx} {tg l : Expr} {pos : Pos}
theorem pi_seq {tl : TE} (hl : PE X l tl) : PI X tg l (iSeqV X.K tl) := by
  refine ⟨fun pins s σ H R I h => ?_⟩
  refine thn (hl.run pins s σ H _ I h) fun v s1 ⟨x, H1, I1, r1, q1⟩ => ?_
  rcases q1 with ⟨a, e, q⟩ | ⟨z, ez, q⟩
  case inr =>
    subst ez
    obtain ⟨tz, rfl⟩ := r1
    have there : ∀ (o : Obj), o.isFreed = false → (s1.heap.push o).get? s1.heap.objs.size = some o := fun o h => Heap.get?_push_size _ h
    cases ascii : z.cps.all (· < 128) with
    | false => exact wpAny_pyIter_wide ascii (pi_one (tk := s1.toks) I1 _ (turn_str _ z tz "str_iterator" (.inr rfl)) ⟨_, there _ rfl, rfl, rfl⟩ q)
    | true => exact wpAny_pyIter_ascii ascii (pi_one (tk := s1.toks) I1 _ (turn_str _ z tz "str_ascii_iterator" (.inl rfl)) ⟨_, there _ rfl, rfl, rfl⟩ q)
  subst e
  cases r1
  rcases q with ⟨⟨xs, hq⟩, q⟩ | ⟨⟨xs, hq⟩, q⟩
  · obtain ⟨its, rv, p, hz⟩ := I1.list hq
    refine wpAny_pyIter_list p.isList ?_
    refine ⟨s1.heap.objs.size, [s1.heap.objs.size], _, _, H1, rfl, I1.kept (t' := s1.toks) fun b o e => Heap.get?_push_of_some _ e, turn_list a _, ⟨_, Heap.get?_push_size _ rfl, rfl, rfl⟩, fun b hb => ?_, q⟩
    have e : b = s1.heap.objs.size := by simpa using hb
    subst e
    exact I1.fpOk (Nat.le_refl _) (I1.hok.fresh (Nat.le_refl _))
  · obtain ⟨its, rv, p, hz⟩ := I1.tuple hq
    refine wpAny_pyIter_tuple (show s1.heap.IsTuple a its.toArray from p) ?_
    refine ⟨s1.heap.objs.size, [s1.heap.objs.size], _, _, H1, rfl, I1.kept (t' := s1.toks) fun b o e => Heap.get?_push_of_some _ e, turn_tuple a _, ⟨_, Heap.get?_push_size _ rfl, rfl, rfl⟩, fun b hb => ?_, q⟩
    have e : b = s1.heap.objs.size := by simpa using hb
    subst e
    exact I1.fpOk (Nat.le_refl _) (I1.hok.fresh (Nat.le_refl _))
/-- a text's signs -/
def sgD (z : Str) : List D := z.cps.toList.map fun c => .str ⟨#[c]⟩
/-- the list must stand as it is at each turn; a tuple, a text does -/
@[irreducible] def seqK (R : List D → (M → Prop) → M → Prop) (d : D) (m1 : M) : Prop := Box <| match res m1 d with
  | .tup ds => R ds (fun _ => True) m1
  | .lst ds => R ds (fun m' => lsD (res m' d) = some ds) m1
  | .rol ds => R ds (fun m' => lsD (res m' d) = some ds) m1
  | .str z => R (sgD z) (fun _ => True) m1
  | _ => False
theorem seqK_str {R : List D → (M → Prop) → M → Prop} {d : D} {m1 : M} {z : Str} (e : res m1 d = .str z) (h : R (sgD z) (fun _ => True) m1) : seqK R d m1 := by unfold seqK; refine ⟨?_⟩; rw [e]; exact h
theorem seqK_tup {R : List D → (M → Prop) → M → Prop} {d : D} {m1 : M} {ds : List D} (e : res m1 d = .tup ds) (h : R ds (fun _ => True) m1) : seqK R d m1 := by unfold seqK; refine ⟨?_⟩; rw [e]; exact h
theorem seqK_lst {R : List D → (M → Prop) → M → Prop} {d : D} {m1 : M} {ds : List D} (e : lsD (res m1 d) = some ds) (h : R ds (fun m' => lsD (res m' d) = some ds) m1) : seqK R d m1 := by
  unfold seqK; refine ⟨?_⟩
  split
  · rename_i q; rw [q] at e; cases e
  · rename_i q; rw [q] at e; cases e; exact h
  · rename_i q; rw [q] at e; cases e; exact h
  · rename_i q; rw [q] at e; cases e
  · rename_i q1 q2 q3 q4
    unfold lsD at e
    split at e
    · exact absurd (by assumption) (q2 _)
    · exact absurd (by assumption) (q3 _)
    · cases e
def iSeqU (tl : TE2) : TI2 := fun g m R => tl g m fun d m1 => seqK R d m1
theorem seqU {tl : TE2} (hl : PE2 X ω l tl) : PI2 X ω tg l (iSeqU tl) :=
  (pi_seq pe_sem).to2 fun σ H g m R S hm q => (hl.sem S hm q).mono fun v H1 ⟨d, m1, s1, r1, q1⟩ => by
    have lst : ∀ ds, lsD (res m1 d) = some ds → R ds (fun m' => lsD (res m' d) = some ds) m1 → ∃ a, v = .ref a ∧ (((∃ xs, SqL X.K H1 a xs) ∧ (∃ ds keep m', Step X.K m H m' H1 ∧ Walks2 X.K (Itl X.K a) ds keep m' H1 ∧ R ds keep m')) ∨ ((∃ xs, SqT X.K H1 a xs) ∧ (∃ ds keep m', Step X.K m H m' H1 ∧ Walks2 X.K (Itt X.K a) ds keep m' H1 ∧ R ds keep m'))) := fun ds e q1 => by
      obtain ⟨a, vs, rfl, h1, h2⟩ := lstOf r1 s1.mem e
      refine ⟨a, rfl, .inl ⟨⟨vs, h1⟩, ds, _, m1, s1, ⟨fun i m' H' st hk hi => ?_, fun i m' H' st hk hi => ?_⟩, q1⟩⟩
      · obtain ⟨b, ws, e2, h3, h4⟩ := lstOf (r1.mono st.ex) st.mem hk
        cases e2
        obtain ⟨d', w, hd, hw, rw'⟩ := h4.inj_get hi
        refine ⟨⟨ws, w, h3, hw⟩, fun v H'' y => ?_⟩
        obtain ⟨rfl, hy⟩ := y
        have := hy ws h3
        rw [hw] at this; cases this
        exact ⟨d', hd, .refl st.mem, rw'⟩
      · obtain ⟨b, ws, e2, h3, h4⟩ := lstOf (r1.mono st.ex) st.mem hk
        cases e2
        exact ⟨ws, h3, by rw [h4.length]; exact hi⟩
    dsimp only at q1
    unfold seqK at q1; replace q1 := q1.out
    split at q1
    · rename_i ds e
      have hx := repT r1 e
      obtain ⟨a, vs, rfl, h1, h2⟩ := tupOf r1 e
      refine .inl ⟨a, rfl, .inr ⟨⟨vs, h1⟩, ds, _, m1, s1, ⟨fun i m' H' st hk hi => ?_, fun i m' H' st hk hi => ?_⟩, q1⟩⟩
      · obtain ⟨b, ws, e2, h3, h4⟩ := tupOf (m := m') (hx.mono st.ex) rfl
        cases e2
        obtain ⟨d', w, hd, hw, rw'⟩ := h4.inj_get hi
        refine ⟨⟨ws, w, h3, hw⟩, fun v H'' y => ?_⟩
        obtain ⟨rfl, hy⟩ := y
        have := hy ws h3
        rw [hw] at this; cases this
        exact ⟨d', hd, .refl st.mem, rw'⟩
      · obtain ⟨b, ws, e2, h3, h4⟩ := tupOf (m := m') (hx.mono st.ex) rfl
        cases e2
        exact ⟨ws, h3, by rw [h4.length]; exact hi⟩
    · rename_i ds e
      exact .inl (lst ds (by rw [e] <;> rfl) q1)
    · rename_i ds e
      exact .inl (lst ds (by rw [e] <;> rfl) q1)
    · rename_i z e
      have hv : v = .str z := repS r1 s1.mem e
      refine .inr ⟨z, hv, sgD z, _, m1, s1, ⟨fun i m' H' st hk hi => ?_, fun i m' H' st hk hi => ?_⟩, q1⟩
      · unfold sgD at hi
        rw [List.length_map, Array.length_toList] at hi
        refine ⟨hi, fun w H'' y => ?_⟩
        obtain ⟨rfl, c, hc, rfl⟩ := y
        exact ⟨_, by unfold sgD; rw [List.getElem?_map, Array.getElem?_toList, hc] <;> rfl, .refl st.mem, .str _⟩
      · unfold sgD at hi
        rw [List.length_map, Array.length_toList] at hi
        exact hi
    · exact q1.elim
/-- range by what it is given -/
def iRngU (ta : TA2) : TI2 := fun g m R => ta g m fun ds m1 => match ds with
  | [.int j] => (-(2 ^ 62) ≤ j ∧ j < 2 ^ 62) ∧ R (rngD 0 j.toNat) (fun _ => True) m1
  | _ => False
theorem rngU {a : Expr} {ta : TA2} {p pos : Pos} (hg : Gl X "range") (hm : X.mg "range" = none) (ha : PA2 X ω [a] ta) (hs : starEach [a] X.env = [(false, eval a X.env)] := by rfl) : PI2 X ω tg (.Call (.Name "range" p) [a] [] pos) (iRngU ta) :=
  (pi_range1 hg hm pa_sem hs).to2 fun σ H g m R S hm q => (ha.sem S hm q).mono fun vs H1 ⟨ds, m1, s1, r1, q1⟩ => by
    dsimp only at q1
    split at q1
    · cases r1 with | cons r1 r2 => cases r1; cases r2; exact ⟨_, rfl, q1.1.1, q1.1.2, _, _, m1, s1, walks_rng, q1.2⟩
    · exact q1.elim
end

/-! ### a comprehension stored to a local on one line -/
section
variable {X : Cx} {ω : Bx}
theorem setLc {i : Nat} {y : Str} {py : Pos} {elt tg iter : Expr} {ifs : List Expr} {scope : Scope} {own : List (Str × Nat)} {pos spos : Pos} {ti : TI2} {g : TG2} {tt : TT2} {te : TE2} (hc : X.calm = true) (hN : X.N.Nodup) (hy : X.N[i]? = some y) (hyl : X.env.scope.names.lookup y = some .local)
    (hsw : swapsWith (.ListComp elt [⟨tg, iter, ifs, 0⟩] scope pos) (some (.Name y py)) spos.line X.env = pure true) (hi : PI2 X ω tg iter ti) (ok : BlkOk X.N X.env.scope scope own)
    (hg : ∀ (s : Shared) (H : Hp) (C : Addr) (cl : List (Str × Addr)) (fp : List Addr), PGc (X.blk s H scope (compEnvC scope cl C X.env) fp) ω tg (own.map (·.2)) g)
    (ht : ∀ (s : Shared) (H : Hp) (C : Addr) (cl : List (Str × Addr)) (fp : List Addr), PTs2 (X.blk s H scope (compEnvC scope cl C X.env) fp) ω ifs tt)
    (he : ∀ (s : Shared) (H : Hp) (C : Addr) (cl : List (Str × Addr)) (fp : List Addr), PE2 (X.blk s H scope (compEnvC scope cl C X.env) fp) ω elt te) (hs : ∀ x, foldedSetIterable iter X.env x = pure x := by intro _; rfl) :
    PS2 X ω (.Assign [.Name y py] (.ListComp elt [⟨tg, iter, ifs, 0⟩] scope pos) spos) (tAsg2 (tLc2 ti g tt te (own.map (·.2))) (gName2 i)) := by
  have h := ps_setLc (X := X) (i := i) (y := y) (py := py) (spos := spos) (elt := elt) (tg := tg) (iter := iter) (ifs := ifs) (scope := scope) (own := own) (pos := pos)
    (g := fun v σ H Q => ∀ s0 H0 C cl fp, semG (X.blk s0 H0 scope (compEnvC scope cl C X.env) fp) tg v σ H Q)
    (tt := fun σ H Q => ∀ s0 H0 C cl fp pins s, Inv (X.blk s0 H0 scope (compEnvC scope cl C X.env) fp) pins σ H s → wpAny (model X.prog X.w) X.A (forIn ifs true fun c r => if r = true then do let ok ← isTrue c (compEnvC scope cl C X.env) (eval c (compEnvC scope cl C X.env)); pure (ForInStep.yield ok) else pure (ForInStep.yield r)) (TP (X.blk s0 H0 scope (compEnvC scope cl C X.env) fp) pins σ Q) (fun _ _ => False) s)
    (te := fun σ H Q => ∀ s0 H0 C cl fp, semE (X.blk s0 H0 scope (compEnvC scope cl C X.env) fp) elt σ H Q)
    hc hN hy hyl hsw (pi_sem (X := X) (tg := tg) (iter := iter)) ok
    (fun s0 H0 C cl fp => ⟨fun pins s σ H v u Q I r z => z s0 H0 C cl fp pins s u I r⟩) (fun s0 H0 C cl fp => ⟨fun pins s σ H Q I z => z s0 H0 C cl fp pins s I⟩) (fun s0 H0 C cl fp => ⟨fun pins s σ H Q I z => z s0 H0 C cl fp pins s I⟩) hs
  refine h.to2 fun σ H gg m E S hm q => ?_
  show tLc _ _ _ _ _ σ H (fun x H1 => gName i x σ H1 (cE X.K ω m H E).nx)
  refine (hi.sem S hm q).mono fun J H1 ⟨ds, keep, m1, s1, wk, q1⟩ => fun Dl hD => ?_
  obtain ⟨hlen, W, w0, turn⟩ := LcG.out q1
  refine ⟨fun i n H' => n = ds.length - i ∧ i ≤ ds.length ∧ ∃ acc m', m' Dl = none ∧ acc.length ≤ i ∧ Step X.K m1 H1 (upM m' Dl (.lst acc)) H' ∧ W i acc m',
    ⟨ds.length, by simp, Nat.zero_le _, [], m1, s1.mem.fresh hD, Nat.le_refl _, Step.newM (c := .lst []) s1.mem hD ⟨[], upd_same, .nil⟩, w0⟩, ?_⟩
  rintro j n H' ⟨rfl, hi', acc, m', hmD, hal, st, w'⟩
  obtain ⟨hk, he'⟩ := turn j acc m' w'
  obtain ⟨kp, ht'⟩ := hk Dl hmD
  by_cases hlt : j < ds.length
  · obtain ⟨hgo, hy⟩ := wk.go j _ H' st kp hlt
    refine .inr ⟨hgo, fun H2 => ∃ acc m', m' Dl = none ∧ acc.length ≤ j + 1 ∧ Step X.K m1 H1 (upM m' Dl (.lst acc)) H2 ∧ W (j + 1) acc m', fun H2 ⟨acc2, m2, a, b, c, d⟩ => ⟨ds.length - (j + 1), by omega, rfl, hlt, acc2, m2, a, b, c, d⟩, fun v H2 y => ?_⟩
    obtain ⟨d, hd, st2, rv⟩ := hy v H2 y
    have st12 := st.trans st2
    intro s0 H0 C cl fp
    have SW : SlotOk X.K ω (wipe2 gg (own.map (·.2))) (L2.wipe σ (own.map (·.2))) (hid (upM m' Dl (.lst acc)) H2) := ((S.mono s1.ex).mono st12.ex).wipe _
    refine ((hg s0 H0 C cl fp).sem SW st12.mem rv (ht' d hd)).mono fun σ3 H3 ⟨⟨g3, m3, s3, S3, q3⟩, hw⟩ => ⟨?_, ?_⟩
    · rw [hw]
      have ww : ∀ vs : List Nat, L2.wipe (L2.wipe σ vs) vs = L2.wipe σ vs := fun vs => by
        have gen : ∀ us : List Nat, (∀ u ∈ us, u ∈ vs) → L2.wipe (L2.wipe σ us) vs = L2.wipe σ vs := by
          intro us
          induction us with
          | nil => intro _; rfl
          | cons u us ih =>
            intro hu
            show L2.wipe ((L2.wipe σ us).set u none) vs = _
            rw [wipe_set (hu u List.mem_cons_self)]
            exact ih fun z hz => hu z (List.mem_cons_of_mem _ hz)
        exact gen vs fun _ z => z
      exact ww _
    · intro s0 H0 C cl fp pins s I
      refine thn ((ht s0 H0 C cl fp).sem S3 s3.mem q3 pins s I) fun b s4 ⟨H4, I4, m4, st4, q4⟩ => ⟨H4, I4, ?_⟩
      have st14 := (st12.trans s3).trans st4
      cases b with
      | true =>
        rw [if_pos rfl] at q4
        refine iteT ?_
        intro s0 H0 C cl fp
        refine ((he s0 H0 C cl fp).sem (S3.mono st4.ex) st4.mem q4).mono fun yv H5 ⟨yd, m5', st5, ry, m5, e5, hm5, w5⟩ => ?_
        subst e5
        have st15 := st14.trans st5
        obtain ⟨accV, ha, hr⟩ := st15.mem Dl _ upM_same
        refine ⟨accV, ha, by rw [hr.length]; omega, acc ++ [yd], m5, hm5, by rw [List.length_append, List.length_singleton]; omega, ?_, w5⟩
        have stn := Step.upM (c := .lst (acc ++ [yd])) (o := .lst (accV ++ [yv])) st15.mem upM_same ⟨_, upd_same, hr.append (.cons ry .nil)⟩
        rw [upM_upM] at stn
        exact st15.trans stn
      | false =>
        rw [if_neg Bool.false_ne_true] at q4
        refine iteF ?_
        obtain ⟨m5, e5, hm5, w5⟩ := q4
        subst e5
        exact ⟨acc, m5, hm5, by omega, st14, w5⟩
  · have e : j = ds.length := by omega
    have ⟨sv, rp⟩ := Step.asVal st hmD
    have st' := s1.trans sv
    exact .inl ⟨wk.stop j _ H' st kp (by omega), ⟨_, m', st', (S.mono st'.ex).set rp, he' e⟩⟩

/-! ### a op b op c -/
def tChainU (r r' : R22) (ta tb tc : TE2) : TE2 := fun g m Q => ta g m fun x m1 => tb g m1 fun y m2 => r x y m2 fun z m3 => match z with
  | .bl k => br k (tc g m3 fun w m4 => r' y w m4 Q) (Q (.bl false) m3)
  | _ => False
theorem chainV {a b c : Expr} {ta tb tc : TE2} {pos : Pos} {op op' : CmpOp} {r r' : R2} {r2 r2' : R22} (ho : OpR X (compareOp op) r) (ho' : OpR X (compareOp op') r') (hcv : Cv2 X.K r r2) (hcv' : Cv2 X.K r' r2') (ha : PE2 X ω a ta) (hb : PE2 X ω b tb) (hc : PE2 X ω c tc)
    (hm : lastMarks [op, op'] [b, c] = false := by with_unfolding_all rfl) : PE2 X ω (.Compare a [op, op'] [b, c] pos) (tChainU r2 r2' ta tb tc) :=
  (pe_chain ho ho' pe_sem pe_sem pe_sem hm).to2 fun σ H g m Q S hmm q =>
    (ha.sem S hmm q).mono fun x H1 ⟨dx, m1, s1, r1, q1⟩ => (hb.sem (S.mono s1.ex) s1.mem q1).mono fun y H2 ⟨dy, m2, s2, ry, q2⟩ =>
      hcv H2 m2 dx dy x y _ _ s2.mem (r1.mono s2.ex) ry q2 fun v H3 ⟨dv, m3, s3, rv, q3⟩ => by
        dsimp only at q3
        split at q3
        · rename_i k
          cases rv
          refine ⟨k, rfl, ?_⟩
          cases k with
          | true => have q3 := br_t q3; exact iteT ((hc.sem (((S.mono s1.ex).mono s2.ex).mono s3.ex) s3.mem q3).mono fun w H4 ⟨dw, m4, s4, rw', q4⟩ => hcv' H4 m4 dy dw y w _ _ s4.mem ((ry.mono s3.ex).mono s4.ex) rw' q4 fun _ _ h => P2.go (((s1.trans s2).trans s3).trans s4) h)
          | false => have q3 := br_f q3; exact iteF (P2.go ((s1.trans s2).trans s3) (.same s3.mem (.bl _) q3))
        · exact q3.elim
theorem chainT {a b c : Expr} {ta tb tc : TE2} {pos : Pos} {op op' : CmpOp} {r r' : R2} {r2 r2' : R22} (ho : OpR X (compareOp op) r) (ho' : OpR X (compareOp op') r') (hcv : Cv2 X.K r r2) (hcv' : Cv2 X.K r' r2') (ha : PE2 X ω a ta) (hb : PE2 X ω b tb) (hc : PE2 X ω c tc)
    (hm : lastMarks [op, op'] [b, c] = false := by with_unfolding_all rfl) : PT2 X ω (.Compare a [op, op'] [b, c] pos) (tTU (tChainU r2 r2' ta tb tc)) :=
  (pt_chain ho ho' pe_sem pe_sem pe_sem hm).to2 fun σ H g m Q S hmm q =>
    (ha.sem S hmm q).mono fun x H1 ⟨dx, m1, s1, r1, q1⟩ => (hb.sem (S.mono s1.ex) s1.mem q1).mono fun y H2 ⟨dy, m2, s2, ry, q2⟩ =>
      hcv H2 m2 dx dy x y _ _ s2.mem (r1.mono s2.ex) ry q2 fun v H3 ⟨dv, m3, s3, rv, q3⟩ => by
        dsimp only at q3
        split at q3
        · rename_i k
          cases rv
          refine ⟨k, rfl, ?_⟩
          cases k with
          | true => have q3 := br_t q3; exact iteT ((hc.sem (((S.mono s1.ex).mono s2.ex).mono s3.ex) s3.mem q3).mono fun w H4 ⟨dw, m4, s4, rw', q4⟩ => hcv' H4 m4 dy dw y w _ _ s4.mem ((ry.mono s3.ex).mono s4.ex) rw' q4 fun v5 H5 ⟨d5, m5, s5, r5, q5⟩ => by
              dsimp only at q5
              split at q5
              · cases r5
                exact ⟨_, rfl, _, (((s1.trans s2).trans s3).trans s4).trans s5, q5⟩
              · exact q5.elim)
          | false => have q3 := br_f q3; exact iteF ⟨false, rfl, m3, (s1.trans s2).trans s3, q3⟩
        · exact q3.elim
end

/-! ### the law's end -/
theorem walkZ {l : PySem.W.OpenLaw} {k : Nat} {q : Program} {loose : List Str} {XP : (Str → Option Value) → Heap → Prop} {YP : World → Heap → Prop} {d : DefRec} {K : Params → PySem.W.Frag} {x : Str}
    (hn : l.most = some 63) (hdf : d.params.defaults = []) (hr : Room k callerA)
    (hY : ∀ (w : World) (h : Heap), YP w h → (K w.params).In h)
    (F : ∀ (w : World) (mg : Str → Option Value) (fa : Addr) (h : Heap), (K w.params).In h → h.Ns mainGlobals mg → mg d.name = some (.ref fa) →
      ∃ fd : FuncData, (∀ (s : Shared) (u : Value), BindsTo s fd ⟨[u], []⟩ [(x, u)]) ∧
        ∀ base : Heap, (K w.params).In base → base.Ns mainGlobals mg → FnOk l.prog w (K w.params) mg base CX0 k fa fd [x] (lift (K w.params) spLaw)) :
    PySem.W.WalkO q loose XP YP l.row.toRowW d [] (fun f vs => PySem.call f vs) :=
  L2.walk_of (n := 63) (K := K) (CX := fun _ => CX0) (sp := fun w => lift (K w.params) spLaw) hn (by decide) hdf hr hY F
    (fun w H a ns hl hO hS => ⟨[.rol (ns.map D.int)], noM, fun d _ => d = .bl true, no2, .no, .cons (.rol (only_hid hO hS) (Reps.of_ints ns)) .nil, ⟨ns, rfl, hl, fun _ => rfl⟩, fun v H' ⟨d, m', _, r, e⟩ => by
      subst e
      cases r
      rfl, fun _ _ _ _ z => z⟩) (fun _ _ _ _ _ h => h)
end Z

/-! Z9: promises by the number of what is given. -/
namespace Z
open PySem PySem.Spec PyProof.Rows L2
def sp1 (p : D → M → Kd → Prop) : Sp2 := fun ds m Q _ => match ds with | [a] => p a m Q | _ => False
def sp2 (p : D → D → M → Kd → Prop) : Sp2 := fun ds m Q _ => match ds with | [a, b] => p a b m Q | _ => False
def sp3 (p : D → D → D → M → Kd → Prop) : Sp2 := fun ds m Q _ => match ds with | [a, b, c] => p a b c m Q | _ => False
def sp4 (p : D → D → D → D → M → Kd → Prop) : Sp2 := fun ds m Q _ => match ds with | [a, b, c, d] => p a b c d m Q | _ => False
section
variable {P : Program} {w : World} {K : PySem.W.Frag} {mg : Str → Option Value} {base : Heap} {x : Str} {st : Stmt} {f : Addr} {fd : FuncData} {N ps : List Str} {k : Nat}
theorem DefAt.ok {sp : Sp2} (A : DefAt K mg x st ps) (h : ∀ f fd, FunZ K x x st f fd → FnOk P w K mg base CX0 k f fd ps (lift K sp)) : DefOk P w K mg base k x sp := by
  obtain ⟨f, fd, F, hm, hb⟩ := A.ex
  exact ⟨f, fd, ps, h f fd F, hm, F.kp, hb⟩
abbrev BodyAt (P : Program) (w : World) (K : PySem.W.Frag) (mg : Str → Option Value) (base : Heap) (N : List Str) (x : Str) (st : Stmt) (f : Addr) (k : Nat) (R : TS2 → Prop) : Prop :=
  ∀ (cdv : Value) (A : Around) (outer : List Env) (s : Shared) (H : Hp) (E : XK), Room k (A.deeper (envOfC x (defScope st) s.heap.objs.size f cdv)) →
      ∃ t, PSs2 (cxOf CX0 P w K mg base N x (defScope st) f cdv A outer s H E).nox Bx.no (defBody st) t ∧ R t
abbrev Ew (Q : Kd) : Ends2 := { nx := fun _ m' => Q .non m', rt := Q }
theorem fn1 {p : D → M → Kd → Prop} (F : FunZ K x x st f fd) (S : FnScope N ps (defScope st)) (hl : ps.length = 1) (body : BodyAt P w K mg base N x st f k fun t => ∀ a m Q, p a m Q → t (Ew Q) (st0 N.length [a]) m) : FnOk P w K mg base CX0 (k + 1) f fd ps (lift K (sp1 p)) := by
  refine fun_ok F S (fun ds m Q E h => ?_) fun cdv A outer s H E hr => ?_
  · unfold sp1 at h
    split at h
    · exact hl.symm
    · exact h.elim
  · obtain ⟨t, h1, h2⟩ := body cdv A outer s H E hr
    refine ⟨t, h1, fun ds m Q E2 h => ?_⟩
    unfold sp1 at h
    split at h
    · exact h2 _ _ _ h
    · exact h.elim
theorem fn2 {p : D → D → M → Kd → Prop} (F : FunZ K x x st f fd) (S : FnScope N ps (defScope st)) (hl : ps.length = 2) (body : BodyAt P w K mg base N x st f k fun t => ∀ a b m Q, p a b m Q → t (Ew Q) (st0 N.length [a, b]) m) : FnOk P w K mg base CX0 (k + 1) f fd ps (lift K (sp2 p)) := by
  refine fun_ok F S (fun ds m Q E h => ?_) fun cdv A outer s H E hr => ?_
  · unfold sp2 at h
    split at h
    · exact hl.symm
    · exact h.elim
  · obtain ⟨t, h1, h2⟩ := body cdv A outer s H E hr
    refine ⟨t, h1, fun ds m Q E2 h => ?_⟩
    unfold sp2 at h
    split at h
    · exact h2 _ _ _ _ h
    · exact h.elim
theorem fn3 {p : D → D → D → M → Kd → Prop} (F : FunZ K x x st f fd) (S : FnScope N ps (defScope st)) (hl : ps.length = 3) (body : BodyAt P w K mg base N x st f k fun t => ∀ a b c m Q, p a b c m Q → t (Ew Q) (st0 N.length [a, b, c]) m) : FnOk P w K mg base CX0 (k + 1) f fd ps (lift K (sp3 p)) := by
  refine fun_ok F S (fun ds m Q E h => ?_) fun cdv A outer s H E hr => ?_
  · unfold sp3 at h
    split at h
    · exact hl.symm
    · exact h.elim
  · obtain ⟨t, h1, h2⟩ := body cdv A outer s H E hr
    refine ⟨t, h1, fun ds m Q E2 h => ?_⟩
    unfold sp3 at h
    split at h
    · exact h2 _ _ _ _ _ h
    · exact h.elim
theorem fn4 {p : D → D → D → D → M → Kd → Prop} (F : FunZ K x x st f fd) (S : FnScope N ps (defScope st)) (hl : ps.length = 4) (body : BodyAt P w K mg base N x st f k fun t => ∀ a b c d m Q, p a b c d m Q → t (Ew Q) (st0 N.length [a, b, c, d]) m) : FnOk P w K mg base CX0 (k + 1) f fd ps (lift K (sp4 p)) := by
  refine fun_ok F S (fun ds m Q E h => ?_) fun cdv A outer s H E hr => ?_
  · unfold sp4 at h
    split at h
    · exact hl.symm
    · exact h.elim
  · obtain ⟨t, h1, h2⟩ := body cdv A outer s H E hr
    refine ⟨t, h1, fun ds m Q E2 h => ?_⟩
    unfold sp4 at h
    split at h
    · exact h2 _ _ _ _ _ _ h
    · exact h.elim
/-- the law's def, any promise of one argument -/
theorem fnL (F : FunZ K x x st f fd) (S : FnScope N ps (defScope st)) (hl : ps.length = 1) (body : BodyAt P w K mg base N x st f k fun t => ∀ (ns : List Int) m Q, ns.length ≤ 63 → (∀ m', Q (.bl true) m') → t (Ew Q) (st0 N.length [.rol (ns.map D.int)]) m) : FnOk P w K mg base CX0 (k + 1) f fd ps (lift K spLaw) := by
  refine fun_ok F S (fun ds m Q E ⟨ns, h, _⟩ => ?_) fun cdv A outer s H E hr => ?_
  · rw [h]; exact hl.symm
  · obtain ⟨t, h1, h2⟩ := body cdv A outer s H E hr
    refine ⟨t, h1, fun ds m Q E2 ⟨ns, e, hn, q⟩ => ?_⟩
    subst e
    exact h2 ns m Q hn q
end
end Z

/-! Z10: dicts. -/
namespace Z
open PySem PySem.Spec PyProof.Rows L2
section
variable {X : Cx} {ω : Bx} {pos : Pos}
/-- {} -/
def tDnew : TE2 := fun _ m Q => Q (.dic [] []) m
theorem q_dnew : PE2 X ω (.Dict [] [] pos) tDnew := pe_dnewK.to2 fun σ H g m Q S hm q => fun p hp => .new hm hp (.dic (vs := []) (.inl (Step.new_at hm hp)) rfl .nil) q
/-- the pairs of a display -/
def tPairs2 : List (TE2 × TE2) → Sl → M → (List (D × D) → M → Prop) → Prop
  | [], _, m, Q => Q [] m
  | (tk, tv) :: r, g, m, Q => tk g m fun x m1 => tv g m1 fun y m2 => tPairs2 r g m2 fun ps m3 => Q ((x, y) :: ps) m3
structure PPs2 (X : Cx) (ω : Bx) (pos : Pos) (keys : List (Option Expr)) (values : List Expr) (trs : List (TE2 × TE2)) : Prop where
  ex : ∃ us : List (TE × TE), PPs X pos keys values us ∧ ∀ {σ : St} {H : Hp} {g : Sl} {m : M} {Q : List (D × D) → M → Prop} {Q' : List (V × V) → Hp → Prop}, SlotOk X.K ω g σ (hid m H) → MemOk X.K m H → tPairs2 trs g m Q →
    (∀ ps m' H' ps', Step X.K m H m' H' → Reps X.K (hid m' H') (ps'.map (·.1)) (ps.map (·.1)) → Reps X.K (hid m' H') (ps'.map (·.2)) (ps.map (·.2)) → Q ps m' → Q' ps' H') → tPairs us σ H Q'
def keyD : D → Option Key | .int i => some (.inl i) | .str x => some (.inr x) | _ => none
end
end Z

/-! Z11: isinstance with a built-in type; steps of readings. -/
namespace Z
open PySem PySem.Spec PyProof.Rows L2
section
variable {X : Cx} {ω : Bx} {p pos : Pos} {e e2 : Expr} {te : TE2}
@[irreducible] def isiK (T : Ty) (Q : Kd) (x : D) (m1 : M) : Prop := Box <| match tyD m1 x with | some t => Q (.bl (isT t T)) m1 | none => False
theorem isiK_of {T t : Ty} {Q : Kd} {x : D} {m1 : M} (e : tyD m1 x = some t) (q : Q (.bl (isT t T)) m1) : isiK T Q x m1 := by unfold isiK; refine ⟨?_⟩; rw [e]; exact q
def tIsi (T : Ty) (te : TE2) : TE2 := fun g m Q => te g m fun x m1 => isiK T Q x m1
theorem isiB (T : Ty) (hT : T ≠ .non) (hg : Gl X "isinstance") (hm : X.mg "isinstance" = none) (ha : PE2 X ω e te) (hb : PE2 X ω e2 (tC2 (.ty T.name))) (he : starEach [e, e2] X.env = (false, eval e X.env) :: starEach [e2] X.env := by rfl) (he2 : starEach [e2] X.env = (false, eval e2 X.env) :: starEach [] X.env := by rfl) (hpl : (backTo pos (starEach [e2] X.env)).any (·.1) = false := by rfl) :
    PE2 X ω (.Call (.Name "isinstance" p) [e, e2] [] pos) (tIsi T te) := by
  have h := q_callB (pos := pos) (p := p) call_isi (cc_isi (K := X.K)) hg hm bt_isinstance (qa_cons ha (qa_cons hb qa_nil he2) he) (by decide) (by decide) he hpl
  refine ⟨fun {σ H g m Q} S hmm q => ?_⟩
  have q' : te g m fun x m1 => isiK T Q x m1 := q
  have hb' := (pe_callB (pos := pos) (p := p) call_isi hg hm bt_isinstance (pa_cons (pe_sem (X := X) (e := e)) (pa_cons (pe_sem (X := X) (e := e2)) pa_nil he2) he) (by decide) (by decide) he hpl)
  intro pins s I
  refine hb'.run pins s σ H _ I ?_
  refine (ha.sem S hmm q').mono fun v H1 ⟨d, m1, s1, r1, q1⟩ => ?_
  refine (hb.sem (Q := fun d2 m2 => d2 = .ty T.name ∧ m2 = m1) (S.mono s1.ex) s1.mem ⟨rfl, rfl⟩).mono fun v2 H2 ⟨d2, m2, s2, r2, e2', em⟩ => ?_
  subst e2'; subst em
  have r1' := r1.mono s2.ex
  cases et : tyD m2 d with
  | none => unfold isiK at q1; replace q1 := q1.out; rw [et] at q1; exact q1.elim
  | some t =>
    unfold isiK at q1; replace q1 := q1.out
    rw [et] at q1
    exact cc_isi H2 m2 [d, .ty T.name] [v, v2] Q _ s2.mem (.cons r1' (.cons r2 .nil)) ⟨d, T, t, rfl, hT, et, q1⟩ fun _ _ h => P2.go (s1.trans s2) h
end
/-! ### readings, where a value is known by an equation -/
section
variable {m : M} {Q : Kd} {x y : D}
theorem kLen_tup {ds : List D} (e : res m x = .tup ds) (q : Q (.int ds.length) m) : kLen [x] m Q := by unfold kLen; refine ⟨?_⟩; simp only [e]; exact q
theorem kLen_lst {ds : List D} (e : res m x = .lst ds) (q : Q (.int ds.length) m) : kLen [x] m Q := by unfold kLen; refine ⟨?_⟩; simp only [e]; exact q
theorem kLen_str {z : Str} (e : res m x = .str z) (h : z.length ≤ sizeLine) (q : Q (.int z.length) m) : kLen [x] m Q := by unfold kLen; refine ⟨?_⟩; simp only [e]; exact ⟨h, q⟩
theorem ix_t {ds : List D} {i : Int} {d : D} (e : res m x = .tup ds) (h : atI ds i = some d) (q : Q d m) : oIxU x (.int i) m Q := by unfold oIxU; refine ⟨?_⟩; simp only [e]; exact ⟨d, h, q⟩
theorem ix_l {ds : List D} {i : Int} {d : D} (e : res m x = .lst ds) (h : atI ds i = some d) (q : Q d m) : oIxU x (.int i) m Q := by unfold oIxU; refine ⟨?_⟩; simp only [e]; exact ⟨d, h, q⟩
theorem ix_n {ds : List D} {i : Nat} {d : D} (e : itsD (res m x) = some ds) (h : ds[i]? = some d) (q : Q d m) : oIxU x (.int (i : Int)) m Q := by
  unfold oIxU; refine ⟨?_⟩
  cases e' : res m x with
  | tup es => rw [e'] at e; cases e; exact ⟨d, atI_nat h, q⟩
  | lst es => rw [e'] at e; cases e; exact ⟨d, atI_nat h, q⟩
  | rol es => rw [e'] at e; cases e; exact ⟨d, atI_nat h, q⟩
  | _ => rw [e'] at e; cases e
theorem eq_of {b : Bool} (h1 : okD 60 (res m x) = true) (h2 : okD 60 (res m y) = true) (e : eqD (res m x) (res m y) = b) (q : Q (.bl b) m) : oEq x y m Q := by unfold oEq; refine ⟨?_⟩; exact ⟨h1, h2, by rw [e]; exact q⟩
theorem ne_of {b : Bool} (h1 : okD 60 (res m x) = true) (h2 : okD 60 (res m y) = true) (e : eqD (res m x) (res m y) = b) (q : Q (.bl (!b)) m) : oNe x y m Q := by unfold oNe; refine ⟨?_⟩; exact ⟨h1, h2, by rw [e]; exact q⟩
theorem eqD_int {i j : Int} : eqD (.int i) (.int j) = decide (i = j) := by simp only [eqD, py, PyData.eqv]; exact Bool.beq_eq_decide_eq _ _
theorem eqD_str {i j : Str} : eqD (.str i) (.str j) = decide (i = j) := by simp only [eqD, py, PyData.eqv]; exact Bool.beq_eq_decide_eq _ _
/-- == of two ints, as it is asked -/
theorem eqI {i j : Int} (q : Q (.bl (decide (i = j))) m) : oEq (.int i) (.int j) m Q := eq_of (m := m) (x := .int i) (y := .int j) rfl rfl eqD_int q
theorem neI {i j : Int} (q : Q (.bl (!decide (i = j))) m) : oNe (.int i) (.int j) m Q := ne_of (m := m) (x := .int i) (y := .int j) rfl rfl eqD_int q
theorem res_up {c : C} {p : Addr} (h : m p = none) {e : D} (q : res m x = e) (hr : ∀ a, e ≠ .ref a) : res (upM m p c) x = e := by
  cases x with
  | ref b =>
    by_cases hb : b = p
    · subst hb
      unfold res at q
      simp only [h] at q
      exact absurd q.symm (hr _)
    · rw [← q]
      unfold res
      simp only [upM_ne hb]
  | _ => exact q
theorem ty_up {c : C} {p : Addr} (h : m p = none) {t : Ty} (q : tyD m x = some t) : tyD (upM m p c) x = some t := by
  have e : res (upM m p c) x = res m x := res_up h rfl fun a ha => by
    unfold tyD at q
    rw [ha] at q
    cases q
  unfold tyD at q ⊢
  rw [e]
  exact q
end
/-! ### comprehensions of pure items -/
/-- what may be owned besides while an item is reckoned -/
def Ext (m mm : M) : Prop := ∃ Dl acc, m Dl = none ∧ mm = upM m Dl (.lst acc)
theorem Ext.ty {m mm : M} (h : Ext m mm) {x : D} {t : Ty} (q : tyD m x = some t) : tyD mm x = some t := by
  obtain ⟨Dl, acc, h1, rfl⟩ := h
  exact ty_up h1 q
theorem Ext.res {m mm : M} (h : Ext m mm) {x e : D} (q : Z.res m x = e) (hr : ∀ a, e ≠ .ref a) : Z.res mm x = e := by
  obtain ⟨Dl, acc, h1, rfl⟩ := h
  exact res_up h1 q hr
theorem Ext.at {m mm : M} (h : Ext m mm) {p : Addr} {c : C} (q : m p = some c) : mm p = some c := by
  obtain ⟨Dl, acc, h1, rfl⟩ := h
  rw [upM_ne (ne_ofM q h1)]
  exact q
theorem lc_gen {tg : TG2} {tt : TT2} {te : TE2} {vs : List Nat} {g : Sl} {m1 : M} {ds : List D} {keep : M → Prop} {Q : Kd} (en : D → Sl) (p : D → Bool) (F : D → D) (hl : ds.length ≤ sizeLine) (hk : ∀ mm, Ext m1 mm → keep mm)
    (hg : ∀ d ∈ ds, ∀ mm, Ext m1 mm → ∀ k : Sl → M → Prop, k (en d) mm → tg d (wipe2 g vs) mm k) (ht : ∀ d ∈ ds, ∀ mm, Ext m1 mm → ∀ k : Bool → M → Prop, k (p d) mm → tt (en d) mm k)
    (he : ∀ d ∈ ds, p d = true → ∀ mm, Ext m1 mm → ∀ k : Kd, k (F d) mm → te (en d) mm k) (hq : Q (.lst ((ds.filter p).map F)) m1) : LcG tg tt te vs g Q ds keep m1 := by
  unfold LcG; refine ⟨?_⟩
  refine ⟨hl, fun i acc m' => acc = ((ds.take i).filter p).map F ∧ m' = m1, ⟨rfl, rfl⟩, ?_⟩
  rintro i acc m' ⟨rfl, rfl⟩
  refine ⟨fun Dl hD => ⟨hk _ ⟨Dl, _, hD, rfl⟩, fun d hd => ?_⟩, fun e => by rw [e, List.take_length]; exact hq⟩
  have hm := List.mem_of_getElem? hd
  have et : ds.take (i + 1) = ds.take i ++ [d] := by rw [List.take_add_one, hd] <;> rfl
  refine hg d hm _ ⟨Dl, _, hD, rfl⟩ _ (ht d hm _ ⟨Dl, _, hD, rfl⟩ _ ?_)
  by_cases hp : p d = true
  · rw [if_pos hp]
    refine he d hm hp _ ⟨Dl, _, hD, rfl⟩ _ ⟨m', rfl, hD, ?_, rfl⟩
    rw [et, List.filter_append, List.filter_cons, if_pos hp, List.map_append]
    rfl
  · rw [if_neg hp]
    refine ⟨m', rfl, hD, ?_, rfl⟩
    rw [et, List.filter_append, List.filter_cons, if_neg hp, List.map_append]
    exact (List.append_nil _).symm
theorem lc_map {te : TE2} {j : Nat} {g : Sl} {m1 : M} {ds : List D} {keep : M → Prop} {Q : Kd} (F : D → D) (hl : ds.length ≤ sizeLine) (hk : ∀ mm, Ext m1 mm → keep mm)
    (he : ∀ d ∈ ds, ∀ mm, Ext m1 mm → ∀ k : Kd, k (F d) mm → te ((wipe2 g [j]).set j (some d)) mm k) (hq : Q (.lst (ds.map F)) m1) : LcG (gName2 j) tYes2 te [j] g Q ds keep m1 := by
  refine lc_gen (fun d => (wipe2 g [j]).set j (some d)) (fun _ => true) F hl hk (fun d _ mm _ k h => h) (fun d _ mm _ k h => h) (fun d hd _ mm hm k h => he d hd mm hm k h) ?_
  rw [List.filter_eq_self.mpr fun _ _ => rfl]
  exact hq
theorem kAll_of {m : M} {Q : Kd} {x : D} (bs : List Bool) (e : lsD (res m x) = some (bs.map D.bl)) (q : Q (.bl (bs.all id)) m) : kAll [x] m Q := by unfold kAll; refine ⟨?_⟩; exact ⟨bs, e, q⟩
theorem kSum_of {m : M} {Q : Kd} {x : D} (ns : List Int) (e : lsD (res m x) = some (ns.map D.int)) (q : Q (.int ns.sum) m) : kSum [x] m Q := by unfold kSum; refine ⟨?_⟩; exact ⟨ns, e, q⟩
end Z

/-! Z12: what the laws share: drawing states, sizes. -/
namespace Z
open PySem PySem.Spec PyProof.Rows L2
theorem cokL {i j : Int} (h : -(2 ^ 64) < i ∧ i < 2 ^ 64) : COk i j := .inl (.inl h)
theorem cokR {i j : Int} (h : -(2 ^ 64) < j ∧ j < 2 ^ 64) : COk i j := .inl (.inr h)
theorem szN (n : Nat) (h : n ≤ 16777216 := by decide) : n ≤ sizeLine := h
theorem lg_lt {n k : Nat} (hk : 0 < k) (hn : n < 2 ^ k) : n.log2 < k := by
  by_cases h0 : n = 0
  · subst h0; simpa using hk
  · exact (Nat.log2_lt h0).mpr hn
theorem lg9 {n k : Nat} (hn : n < 2 ^ k) (hk : k ≤ 9000 := by decide) : n.log2 < 9000 := by
  refine lg_lt (by decide) (Nat.lt_of_lt_of_le hn (Nat.pow_le_pow_right (by decide) hk))
theorem lg_mono {n m k : Nat} (h : n ≤ m) (h2 : m.log2 < k) : n.log2 < k := by
  by_cases h0 : n = 0
  · subst h0; rw [Nat.log2_zero]; omega
  · exact (Nat.log2_lt h0).mpr (Nat.lt_of_le_of_lt h ((Nat.log2_lt (by omega)).mp h2))
theorem gcd_pos_r {a b : Int} (h : 0 < b) : 0 < (Int.gcd a b : Int) := by
  have : 0 < Nat.gcd a.natAbs b.natAbs := Nat.gcd_pos_of_pos_right _ (by omega)
  exact Int.ofNat_lt.mpr this
theorem gcd_le_r {a b : Int} (h : 0 < b) : Int.gcd a b ≤ b.natAbs := Nat.gcd_le_right _ (by omega)
theorem gcd_abs {a b : Int} : Int.gcd (if a < 0 then -a else a) b = Int.gcd a b := by
  split
  · exact Int.neg_gcd
  · rfl
theorem gcd_step {i j : Int} (hi : 0 ≤ i) (hj : 0 < j) : Int.gcd j (i % j) = Int.gcd i j := by
  obtain ⟨a, rfl⟩ := Int.eq_ofNat_of_zero_le hi
  obtain ⟨b, rfl⟩ := Int.eq_ofNat_of_zero_le (Int.le_of_lt hj)
  show Nat.gcd b ((a : Int) % (b : Int)).natAbs = Nat.gcd a b
  rw [show ((a : Int) % (b : Int)).natAbs = a % b from rfl, Nat.gcd_comm b, ← Nat.gcd_rec, Nat.gcd_comm]
/-- a pair in lowest terms -/
def low (a b : Int) : D := .tup [.int (a / Int.gcd a b), .int (b / Int.gcd a b)]
theorem res_at {m : M} {p : Addr} {ds : List D} (h : m p = some (.lst ds)) : res m (.ref p) = .lst ds := by
  unfold res
  simp only [h]
section
variable {m : M} {Q : Kd} {x y : D}
theorem kLen_rol {ds : List D} (e : res m x = .rol ds) (q : Q (.int ds.length) m) : kLen [x] m Q := by unfold kLen; refine ⟨?_⟩; simp only [e]; exact q
theorem modI {i j : Int} (h : 0 < j) (q : Q (.int (i % j)) m) : oModU (.int i) (.int j) m Q := by unfold oModU oI; refine ⟨?_⟩; exact ⟨h, q⟩
theorem divI {i j : Int} (h : 0 < j) (h2 : j.natAbs.log2 < 9000) (q : Q (.int (i / j)) m) : oDivU (.int i) (.int j) m Q := by unfold oDivU oI; refine ⟨?_⟩; exact ⟨⟨h, h2⟩, q⟩
theorem mulI {i j : Int} (h : COk i j) (q : Q (.int (i * j)) m) : oMulU (.int i) (.int j) m Q := by unfold oMulU; refine ⟨?_⟩; exact ⟨h, q⟩
theorem mulS {z : Str} {n : Int} (h1 : n ≤ 100000) (h2 : -100000 ≤ n) (h3 : z.length ≤ 100) (q : Q (.str ⟨(List.replicate n.toNat z.cps.toList).flatten.toArray⟩) m) : oMulU (.str z) (.int n) m Q := by unfold oMulU; refine ⟨?_⟩; exact ⟨⟨h1, h2, h3⟩, q⟩
theorem powI {i j : Int} (h : 0 ≤ j) (h2 : j ≤ 1000000) (h3 : i.natAbs < 2 ^ 64) (q : Q (.int (i ^ j.toNat)) m) : oPowU (.int i) (.int j) m Q := by unfold oPowU oI; refine ⟨?_⟩; exact ⟨⟨h, h2, h3⟩, q⟩
end
theorem eqD_pair {a b c d : Int} : eqD (.tup [.int a, .int b]) (.tup [.int c, .int d]) = (decide (a = c) && decide (b = d)) := by
  simp [eqD, py, pys, PyData.eqv, PyData.eqvAll, Bool.beq_eq_decide_eq]
theorem low_is {a b : Int} (hb : 0 < b) : (decide (a / (Int.gcd a b : Int) = a) && decide (b / (Int.gcd a b : Int) = b)) = decide (Int.gcd a b = 1) := by
  have hg := gcd_pos_r (a := a) hb
  generalize Int.gcd a b = g at *
  by_cases h : g = 1
  · subst h; simp
  · have h1 : ¬ b / (g : Int) = b := by
      intro e
      have : b / (g : Int) < b := Int.ediv_lt_self_of_pos_of_ne_one hb (by omega)
      omega
    simp [h, h1]
theorem rng_of {lo : Int} {n i : Nat} {d : D} (h : (rngD lo n)[i]? = some d) : i < n ∧ d = .int (lo + (i : Int)) := by
  have hi : i < n := by
    by_cases q : i < n
    · exact q
    · rw [List.getElem?_eq_none (by rw [rngD_len]; omega)] at h; cases h
  rw [rngD_get hi] at h
  cases h
  exact ⟨hi, rfl⟩
theorem rng0_of {n i : Nat} {d : D} (h : (rngD 0 n)[i]? = some d) : i < n ∧ d = .int (i : Int) := by
  obtain ⟨h1, h2⟩ := rng_of h
  rw [Int.zero_add] at h2
  exact ⟨h1, h2⟩
/-! ### a power of ten from its text -/
/-! ### a drawing state, as data -/
def DrSt (ds : List D) : Prop := ∃ a b c : Int, ds = [.int a, .int b, .int c] ∧ 0 ≤ b ∧ (a = 0 ∨ a ≠ 0 ∧ b < 2147483647)
def StAt (p : Addr) (m m' : M) : Prop := ∃ ds, DrSt ds ∧ m' = upM m p (.lst ds)
theorem StAt.at {p : Addr} {m m' : M} (h : StAt p m m') : ∃ ds, DrSt ds ∧ m' p = some (.lst ds) := by
  obtain ⟨ds, h1, rfl⟩ := h
  exact ⟨ds, h1, upM_same⟩
theorem StAt.self {p : Addr} {m m' : M} (h : StAt p m m') : StAt p m' m' := by
  obtain ⟨ds, h1, rfl⟩ := h
  exact ⟨ds, h1, upM_upM.symm⟩
theorem StAt.trans {p : Addr} {m m' m2 : M} (h : StAt p m m') (h2 : StAt p m' m2) : StAt p m m2 := by
  obtain ⟨ds, h1, rfl⟩ := h
  obtain ⟨ds2, h2, rfl⟩ := h2
  exact ⟨ds2, h2, upM_upM⟩
theorem StAt.ne {p a : Addr} {m m' : M} (h : StAt p m m') (ha : a ≠ p) : m' a = m a := by
  obtain ⟨ds, h1, rfl⟩ := h
  exact upM_ne ha
theorem StAt.mk {p : Addr} {m : M} {ds : List D} (h : m p = some (.lst ds)) (s : DrSt ds) : StAt p m m := ⟨ds, s, by
  funext b
  by_cases e : b = p
  · subst e; rw [h, upM_same]
  · rw [upM_ne e]⟩
end Z

/-! Z13: a statement that is never reached; zip. -/
namespace Z
open PySem PySem.Spec PyProof.Rows L2
def tNever2 : TS2 := fun _ _ _ => False
theorem qs_never {X : Cx} {ω : Bx} {s : Stmt} : PS2 X ω s tNever2 := ⟨fun S hm q => q.elim⟩
/-- pairs, as zip yields them -/
def zipD (xs ys : List D) : List D := (xs.zip ys).map fun p => .tup [p.1, p.2]
@[irreducible] def zipK (R : List D → (M → Prop) → M → Prop) (a b : D) (m1 : M) : Prop := Box <| match res m1 a, res m1 b with
  | .tup xs, .tup ys => R (zipD xs ys) (fun _ => True) m1
  | x, y => ∃ xs ys, lsD x = some xs ∧ lsD y = some ys ∧ R (zipD xs ys) (fun m' => lsD (res m' a) = some xs ∧ lsD (res m' b) = some ys) m1
section
variable {X : Cx} {ω : Bx} {e e2 : Expr}
theorem Reps.two {K : PySem.W.Frag} {G : Hp} {vs : List V} {a b : D} (r : Reps K G vs [a, b]) : ∃ v w, vs = [v, w] ∧ Rep K G v a ∧ Rep K G w b := by
  cases r with
  | cons r1 r2 =>
    cases r2 with
    | cons r2 r3 =>
      cases r3
      exact ⟨_, _, rfl, r1, r2⟩
end
end Z

/-! Z14: fractions as data; comprehensions over a row of known things. -/
namespace Z
open PySem PySem.Spec PyProof.Rows L2
theorem LcG.mk {tg : TG2} {tt : TT2} {te : TE2} {vs : List Nat} {g : Sl} {Q : Kd} {ds : List D} {keep : M → Prop} {m1 : M} (hl : ds.length ≤ sizeLine) (W : Nat → List D → M → Prop) (h0 : W 0 [] m1) (h : ∀ i acc m', W i acc m' →
  (∀ Dl, m' Dl = none → keep (upM m' Dl (.lst acc)) ∧ ∀ d, ds[i]? = some d → tg d (wipe2 g vs) (upM m' Dl (.lst acc)) fun g2 m2 => tt g2 m2 fun b m3 =>
    if b = true then te g2 m3 fun y m4 => ∃ m5, m4 = upM m5 Dl (.lst acc) ∧ m5 Dl = none ∧ W (i + 1) (acc ++ [y]) m5 else ∃ m5, m3 = upM m5 Dl (.lst acc) ∧ m5 Dl = none ∧ W (i + 1) acc m5) ∧ (i = ds.length → Q (.lst acc) m')) : LcG tg tt te vs g Q ds keep m1 := by
  unfold LcG; refine ⟨?_⟩; exact ⟨hl, W, h0, h⟩
theorem lc_genA {α : Type} {tg : TG2} {tt : TT2} {te : TE2} {vs : List Nat} {g : Sl} {m1 : M} {ds : List D} {keep : M → Prop} {Q : Kd} (as : List α) (f : α → D) (e : ds = as.map f) (en : α → Sl) (p : α → Bool) (F : α → D) (hl : as.length ≤ sizeLine) (hk : ∀ mm, Ext m1 mm → keep mm)
    (hg : ∀ a ∈ as, ∀ mm, Ext m1 mm → ∀ k : Sl → M → Prop, k (en a) mm → tg (f a) (wipe2 g vs) mm k) (ht : ∀ a ∈ as, ∀ mm, Ext m1 mm → ∀ k : Bool → M → Prop, k (p a) mm → tt (en a) mm k)
    (he : ∀ a ∈ as, p a = true → ∀ mm, Ext m1 mm → ∀ k : Kd, k (F a) mm → te (en a) mm k) (hq : Q (.lst ((as.filter p).map F)) m1) : LcG tg tt te vs g Q ds keep m1 := by
  subst e
  refine LcG.mk (by rw [List.length_map]; exact hl) (fun i acc m' => acc = ((as.take i).filter p).map F ∧ m' = m1) ⟨rfl, rfl⟩ ?_
  rintro i acc m' ⟨rfl, rfl⟩
  refine ⟨fun Dl hD => ⟨hk _ ⟨Dl, _, hD, rfl⟩, fun d hd => ?_⟩, fun e => by rw [e, List.length_map, List.take_length]; exact hq⟩
  rw [List.getElem?_map] at hd
  cases ha : as[i]? with
  | none => rw [ha] at hd; cases hd
  | some a =>
    rw [ha] at hd
    cases hd
    have hm := List.mem_of_getElem? ha
    have et : as.take (i + 1) = as.take i ++ [a] := by rw [List.take_add_one, ha] <;> rfl
    refine hg a hm _ ⟨Dl, _, hD, rfl⟩ _ (ht a hm _ ⟨Dl, _, hD, rfl⟩ _ ?_)
    by_cases hp : p a = true
    · rw [if_pos hp]
      refine he a hm hp _ ⟨Dl, _, hD, rfl⟩ _ ⟨m', rfl, hD, ?_, rfl⟩
      rw [et, List.filter_append, List.filter_cons, if_pos hp, List.map_append]
      rfl
    · rw [if_neg hp]
      refine ⟨m', rfl, hD, ?_, rfl⟩
      rw [et, List.filter_append, List.filter_cons, if_neg hp, List.map_append]
      exact (List.append_nil _).symm
/-- every thing yields one -/
theorem lc_mapA {α : Type} {tg : TG2} {te : TE2} {vs : List Nat} {g : Sl} {m1 : M} {ds : List D} {keep : M → Prop} {Q : Kd} (as : List α) (f : α → D) (e : ds = as.map f) (en : α → Sl) (F : α → D) (hl : as.length ≤ sizeLine) (hk : ∀ mm, Ext m1 mm → keep mm)
    (hg : ∀ a ∈ as, ∀ mm, Ext m1 mm → ∀ k : Sl → M → Prop, k (en a) mm → tg (f a) (wipe2 g vs) mm k) (he : ∀ a ∈ as, ∀ mm, Ext m1 mm → ∀ k : Kd, k (F a) mm → te (en a) mm k) (hq : Q (.lst (as.map F)) m1) : LcG tg tYes2 te vs g Q ds keep m1 := by
  refine lc_genA as f e en (fun _ => true) F hl hk hg (fun a _ mm _ k h => h) (fun a h _ mm hm k q => he a h mm hm k q) ?_
  rw [List.filter_eq_self.mpr fun _ _ => rfl]
  exact hq
/-! ### fractions -/
abbrev Fr := Int × Int
def nD (p : Fr) : D := .tup [.int p.1, .int p.2]
def lowP (a b : Int) : Fr := (a / Int.gcd a b, b / Int.gcd a b)
theorem low_nD (a b : Int) : low a b = nD (lowP a b) := rfl
/-- a number in lowest terms -/
def Lo (p : Fr) : Prop := 0 < p.2 ∧ Int.gcd p.1 p.2 = 1
def Bd (N : Nat) (p : Fr) : Prop := p.1.natAbs < 2 ^ N ∧ p.2.natAbs < 2 ^ N
theorem Bd.mono {N N' : Nat} {p : Fr} (h : Bd N p) (hn : N ≤ N') : Bd N' p := ⟨Nat.lt_of_lt_of_le h.1 (Nat.pow_le_pow_right (by decide) hn), Nat.lt_of_lt_of_le h.2 (Nat.pow_le_pow_right (by decide) hn)⟩
theorem lowP_lo {a b : Int} (hb : 0 < b) : Lo (lowP a b) := by
  have hg := gcd_pos_r (a := a) hb
  exact ⟨Int.ediv_pos_of_pos_of_dvd hb (by omega) (Int.gcd_dvd_right ..), Int.gcd_ediv_gcd_ediv_gcd (by omega)⟩
theorem lowP_bd {a b : Int} {N : Nat} (h : Bd N (a, b)) : Bd N (lowP a b) := ⟨Nat.lt_of_le_of_lt (Int.natAbs_ediv_le_natAbs _ _) h.1, Nat.lt_of_le_of_lt (Int.natAbs_ediv_le_natAbs _ _) h.2⟩
theorem lowP_eq {a b : Int} (hb : 0 < b) : (lowP a b).1 * b = a * (lowP a b).2 := by
  have hg := gcd_pos_r (a := a) hb
  show a / _ * b = a * (b / _)
  obtain ⟨u, hu⟩ := Int.gcd_dvd_left a b
  obtain ⟨v, hv⟩ := Int.gcd_dvd_right a b
  generalize (Int.gcd a b : Int) = g at *
  rw [hu, hv, Int.mul_ediv_cancel_left _ (by omega), Int.mul_ediv_cancel_left _ (by omega)]
  rw [← Int.mul_assoc, Int.mul_comm u g]
theorem bdMul {a b : Int} {i j : Nat} (h1 : a.natAbs < 2 ^ i) (h2 : b.natAbs < 2 ^ j) : (a * b).natAbs < 2 ^ (i + j) := by
  rw [Int.natAbs_mul, Nat.pow_add]
  exact Nat.mul_lt_mul'' h1 h2
theorem bdAdd {a b : Int} {i : Nat} (h1 : a.natAbs < 2 ^ i) (h2 : b.natAbs < 2 ^ i) : (a + b).natAbs < 2 ^ (i + 1) := by
  rw [Nat.pow_succ]
  have := Int.natAbs_add_le a b
  omega
theorem bdSub {a b : Int} {i : Nat} (h1 : a.natAbs < 2 ^ i) (h2 : b.natAbs < 2 ^ i) : (a - b).natAbs < 2 ^ (i + 1) := by
  rw [Int.sub_eq_add_neg]
  exact bdAdd h1 (by rw [Int.natAbs_neg]; exact h2)
/-- the number of a and b, b not 0 -/
def mkP (a b : Int) : Fr := if b < 0 then lowP (-a) (-b) else lowP a b
theorem mkP_lo {a b : Int} (h : b ≠ 0) : Lo (mkP a b) := by
  unfold mkP
  split
  · exact lowP_lo (by omega)
  · exact lowP_lo (by omega)
theorem mkP_bd {a b : Int} {N : Nat} (h : Bd N (a, b)) : Bd N (mkP a b) := by
  unfold mkP
  split
  · exact lowP_bd ⟨by rw [Int.natAbs_neg]; exact h.1, by rw [Int.natAbs_neg]; exact h.2⟩
  · exact lowP_bd h
theorem mkP_eq {a b : Int} (h : b ≠ 0) : (mkP a b).1 * b = a * (mkP a b).2 := by
  unfold mkP
  split
  · have := lowP_eq (a := -a) (b := -b) (by omega)
    rw [Int.mul_neg, Int.neg_mul] at this
    omega
  · exact lowP_eq (by omega)
def lessP (p q : Fr) : Fr := lowP (p.1 * q.2 - q.1 * p.2) (p.2 * q.2)
def timesP (p q : Fr) : Fr := lowP (p.1 * q.1) (p.2 * q.2)
def shareP (p q : Fr) : Fr := mkP (p.1 * q.2) (p.2 * q.1)
end Z

/-! Z15: == of plain data is being the same. -/
namespace Z
open PySem PySem.Spec PyProof.Rows L2
mutual
def plD : D → Bool
  | .non => true | .int _ => true | .str _ => true
  | .tup ds => plDs ds | .lst ds => plDs ds
  | .bl _ => false | .ty _ => false | .ref _ => false | .rol _ => false | .dic _ _ => false | .exc _ => false | .ptu _ => false | .fdi _ _ => false
def plDs : List D → Bool
  | [] => true
  | d :: r => plD d && plDs r
end
theorem plDs_iff : ∀ {ds : List D}, plDs ds = true ↔ ∀ d ∈ ds, plD d = true
  | [] => by simp [plDs]
  | d :: r => by simp only [plDs, Bool.and_eq_true, plDs_iff (ds := r), List.forall_mem_cons]
mutual
theorem eqv_pl : ∀ (x y : D), plD x = true → plD y = true → (PyData.eqv (py x) (py y) = true ↔ x = y)
  | .non, y, _, h => by cases y <;> simp [plD, py, PyData.eqv] at h ⊢
  | .int i, y, _, h => by cases y <;> simp [plD, py, PyData.eqv] at h ⊢
  | .str i, y, _, h => by cases y <;> simp [plD, py, PyData.eqv] at h ⊢
  | .tup xs, y, hx, h => by
    cases y with
    | tup ys =>
      simp only [plD] at hx h
      simp only [py, PyData.eqv, eqvs_pl xs ys hx h, D.tup.injEq]
    | _ => simp [plD, py, PyData.eqv] at h ⊢
  | .lst xs, y, hx, h => by
    cases y with
    | lst ys =>
      simp only [plD] at hx h
      simp only [py, PyData.eqv, eqvs_pl xs ys hx h, D.lst.injEq]
    | _ => simp [plD, py, PyData.eqv] at h ⊢
  | .bl _, _, h, _ => by cases h
  | .ty _, _, h, _ => by cases h
  | .ref _, _, h, _ => by cases h
  | .rol _, _, h, _ => by cases h
  | .dic _ _, _, h, _ => by cases h
  | .exc _, _, h, _ => by cases h
  | .ptu _, _, h, _ => by cases h
  | .fdi _ _, _, h, _ => by cases h
theorem eqvs_pl : ∀ (xs ys : List D), plDs xs = true → plDs ys = true → (PyData.eqvAll (pys xs) (pys ys) = true ↔ xs = ys)
  | [], [], _, _ => by simp [pys, PyData.eqvAll]
  | [], _ :: _, _, _ => by simp [pys, PyData.eqvAll]
  | _ :: _, [], _, _ => by simp [pys, PyData.eqvAll]
  | x :: xs, y :: ys, hx, hy => by
    simp only [plDs, Bool.and_eq_true] at hx hy
    simp only [pys, PyData.eqvAll, Bool.and_eq_true, eqv_pl x y hx.1 hy.1, eqvs_pl xs ys hx.2 hy.2, List.cons.injEq]
end
theorem eqD_same {x : D} (h : plD x = true) : eqD x x = true := (eqv_pl x x h h).mpr rfl
theorem eqD_not {x y : D} (h : plD x = true) (h2 : plD y = true) (e : x ≠ y) : eqD x y = false := by
  cases q : eqD x y with
  | false => rfl
  | true => exact absurd ((eqv_pl x y h h2).mp q) e
theorem cut_hi {α : Type} (xs : List α) (k : Nat) : cutD xs none (some (k : Int)) = xs.take k := by
  unfold cutD
  rw [HT.sIx_none, HT.sIx_nat, List.drop_zero, Nat.sub_zero]
  by_cases h : k ≤ xs.length
  · rw [Nat.min_eq_left h]
  · rw [Nat.min_eq_right (by omega), List.take_length, List.take_of_length_le (by omega)]
theorem cut_lo {α : Type} (xs : List α) (k : Nat) : cutD xs (some (k : Int)) none = xs.drop k := by
  unfold cutD
  rw [HT.sIx_none, HT.sIx_nat]
  by_cases h : k ≤ xs.length
  · rw [Nat.min_eq_left h, List.take_of_length_le (by rw [List.length_drop]; omega)]
  · rw [Nat.min_eq_right (by omega), Nat.sub_self, List.take_zero, List.drop_eq_nil_of_le (by omega)]
section
variable {m : M} {Q : Kd} {x y : D}
theorem sl_t {xs : List D} {lo hi : Option Int} (e : res m x = .tup xs) (q : Q (.tup (cutD xs lo hi)) m) : sU x lo hi m Q := by unfold sU; refine ⟨?_⟩; rw [e]; exact q
theorem sl_l {xs : List D} {lo hi : Option Int} (e : lsD (res m x) = some xs) (q : Q (.lst (cutD xs lo hi)) m) : sU x lo hi m Q := by
  unfold sU
  refine ⟨?_⟩
  cases h : res m x <;> rw [h] at e <;> first | (cases e; exact q) | cases e
theorem sl_s {z : Str} {lo hi : Option Int} (e : res m x = .str z) (h : z.length ≤ sizeLine) (q : Q (.str (cutS z lo hi)) m) : sU x lo hi m Q := by unfold sU; refine ⟨?_⟩; rw [e]; exact ⟨h, q⟩
theorem mulL {xs : List D} {k : Int} (h1 : -(2 ^ 63) ≤ k) (h2 : k < 2 ^ 63) (h3 : xs.length * k.toNat ≤ sizeLine) (q : Q (.lst (List.replicate k.toNat xs).flatten) m) : oMulU (.lst xs) (.int k) m Q := by
  unfold oMulU; exact ⟨⟨⟨h1, h2, h3⟩, q⟩⟩
end
end Z

/-! Z16: a module's constants; calls by defaults; join; sorted. -/
namespace Z
open PySem PySem.Spec PyProof.Rows L2
/-- a written tuple of a module -/
theorem constT {K : PySem.W.Frag} {mg : Str → Option Value} {x : Str} {T : Addr} {od : Option Addr} {its : Array Value} {n : Nat} {sl : Array (Option Value)} {vs : List V} {ds : List D} (e : mg x = some (.ref T))
    (l : K.lookup T = some ⟨.type "tuple", od, .seq its n, sl⟩) (hv : Vals vs its.toList) (hs : its.size ≤ sizeLine) (hr : ∀ G, Reps K G vs ds) : ConstAt K mg x (.tup ds) :=
  ⟨.ref T, .ref T, e, rfl, fun G => .tup (.inr ⟨_, its, n, l, rfl, rfl, hs, hv⟩) (hr G)⟩
theorem constS {K : PySem.W.Frag} {mg : Str → Option Value} {x : Str} {z : Str} {t : Tok} (e : mg x = some (.str z t)) : ConstAt K mg x (.str z) := ⟨.str z, .str z t, e, ⟨t, rfl⟩, fun G => .str z⟩
theorem constI {K : PySem.W.Frag} {mg : Str → Option Value} {x : Str} {z : Int} {t : Tok} (e : mg x = some (.int z t)) : ConstAt K mg x (.int z) := ⟨.int z, .int z t, e, ⟨t, rfl⟩, fun G => .int z⟩
/-- a def whose last parameters have defaults, called without them -/
structure DefDf (P : Program) (w : World) (K : PySem.W.Frag) (mg : Str → Option Value) (base : Heap) (k : Nat) (x : Str) (sp : Sp2) (dd : List D) : Prop where
  ex : ∃ (f : Addr) (fd : FuncData) (ps : List Str) (dus : List Value) (dvs : List V), FnOk P w K mg base CX0 k f fd ps (lift K sp) ∧ mg x = some (.ref f) ∧ PySem.W.keepIn K (.ref f) = true ∧ Binds K fd ps dus ∧ Vals dvs dus ∧ ∀ G, Reps K G dvs dd
def tCallD (sp : Sp2) (dd : List D) (t : TA2) : TE2 := fun g m Q => t g m fun ds m1 => sp (ds ++ dd) m1 Q no2
section
variable {X : Cx} {ω : Bx} {k kk : Nat} {sp : Sp2} {x : Str} {p pos : Pos} {e o : Expr} {es : List Expr} {t : TA2} {te to : TE2} {dd : List D}
theorem callDU (D : DefDf X.prog X.w X.K X.mg X.base k x sp dd) (hr : Room kk X.A) (hg : Gl X x) (ha : PA2 X ω (e :: es) t) (hk : k ≤ kk := by decide) (hdb : (x == ("__debug__" : Str)) = false := by decide)
    (he : starEach (e :: es) X.env = (false, eval e X.env) :: starEach es X.env := by rfl) (hpl : (backTo pos (starEach es X.env)).any (·.1) = false := by rfl) : PE2 X ω (.Call (.Name x p) (e :: es) [] pos) (tCallD sp dd t) := by
  obtain ⟨f, fd, ps, dus, dvs, F, h1, h2, h3, h4, h5⟩ := D.ex
  exact (q_call (dd := dd) F (hr.mono hk) hg h1 h2 h3 h4 h5 ha hdb he hpl).imp fun g m Q h => h
/-! ### join -/
@[irreducible] def joinK (a : Str) (y : D) (m : M) (Q : Kd) : Prop := Box <| ∃ ys : List Str, itsD (res m y) = some (ys.map D.str) ∧ (ys.map (·.length)).sum + ys.length * a.length ≤ 16777216 ∧ Q (.str (Txt.join a ys)) m
theorem joinK_of {z : Str} {y : D} {m : M} {Q : Kd} (ys : List Str) (e : itsD (res m y) = some (ys.map D.str)) (h : (ys.map (·.length)).sum + ys.length * z.length ≤ 16777216) (q : Q (.str (Txt.join z ys)) m) : joinK z y m Q := by unfold joinK; exact ⟨⟨ys, e, h, q⟩⟩
def tJoin (to te : TE2) : TE2 := fun g m Q => to g m fun z m1 => match z with
  | .str a => te g m1 fun y m2 => joinK a y m2 Q
  | _ => False
theorem m_join1M {apos : Pos} (ho : PE2 X ω o to) (he : PE2 X ω e te) (hs : starEach [e] X.env = [(false, eval e X.env)] := by rfl) (hbase : attributeBase o "join" X.env (eval o X.env) = eval o X.env := by rfl) (hline : (apos.endLine == pos.line) = true := by rfl) :
    PE2 X ω (.Call (.Attribute o "join" apos) [e] [] pos) (tJoin to te) :=
  (pe_join pe_sem pe_sem hs hbase hline).to2 fun σ H g m Q S hm q => (ho.sem S hm q).mono fun v H1 ⟨d, m1, s1, r1, q1⟩ => by
    dsimp only at q1
    split at q1
    · rename_i a
      cases r1
      refine ⟨⟨a, rfl⟩, (he.sem (S.mono s1.ex) s1.mem q1).mono fun v2 H2 ⟨d2, m2, s2, r2, q2⟩ => ?_⟩
      unfold joinK at q2
      obtain ⟨ys, e2, h3, h4⟩ := q2.out
      obtain ⟨b, ws, rfl, k1, k2⟩ := itsOf r2 s2.mem e2
      have := Reps.strs k2
      subst this
      exact ⟨a, b, ys, rfl, rfl, k1, h3, P2.go (s1.trans s2) (.same s2.mem (.str _) h4)⟩
    · exact q1.elim
/-! ### sorted -/
@[irreducible] def sortK (x : D) (m : M) (Q : Kd) : Prop := Box <| (∃ ns : List Int, lsD (res m x) = some (ns.map D.int) ∧ ns.length < 64 ∧ ∀ ys : List Int, ys.Perm ns → ys.Pairwise (· ≤ ·) → Q (.lst (ys.map D.int)) m) ∨
  (∃ zs : List Str, lsD (res m x) = some (zs.map D.str) ∧ zs.length < 64 ∧ ∀ ys : List Str, ys.Perm zs → sortedS ys = true → Q (.lst (ys.map D.str)) m)
theorem sortK_s {x : D} {m : M} {Q : Kd} (zs : List Str) (e : lsD (res m x) = some (zs.map D.str)) (h : zs.length < 64) (q : ∀ ys : List Str, ys.Perm zs → sortedS ys = true → Q (.lst (ys.map D.str)) m) : sortK x m Q := by unfold sortK; exact ⟨.inr ⟨zs, e, h, q⟩⟩
def kSorted : RC2 := fun xs m Q => match xs with | [x] => sortK x m Q | _ => False
theorem kc_sorted {K : PySem.W.Frag} : CvC K (fun vs H Q => rSorted K vs H Q ∨ rSortedS K vs H Q) kSorted := fun H m ds vs Q Q' hm r h k => by
  unfold kSorted at h
  split at h
  · rename_i x
    unfold sortK at h
    cases r with
    | cons r1 r2 =>
      cases r2
      rcases h.out with ⟨ns, e, hl, q⟩ | ⟨zs, e, hl, q⟩
      · obtain ⟨a, ws, rfl, h1, h2⟩ := lstOf r1 hm e
        have := Reps.ints h2
        subst this
        exact .inl ⟨a, ns, rfl, h1, hl, fun ns' p hp hs hq => k _ _ (.new hm hq (.lst (Step.new_at hm hq) ((Reps.of_ints ns').mono (Step.new hm hq).ex)) (q ns' hp hs))⟩
      · obtain ⟨a, ws, rfl, h1, h2⟩ := lstOf r1 hm e
        have := Reps.strs h2
        subst this
        have rs : ∀ G (ys : List Str), Reps K G (ys.map V.str) (ys.map D.str) := fun G ys => by
          induction ys with
          | nil => exact .nil
          | cons y ys ih => exact .cons (.str y) ih
        exact .inr ⟨a, zs, rfl, h1, hl, fun ys p hp hs hq => k _ _ (.new hm hq (.lst (Step.new_at hm hq) (rs _ ys)) (q ys hp hs))⟩
  · exact h.elim
theorem bt_sorted : bootBuiltins "sorted" = some (.builtin "sorted") := by decide +kernel
theorem sortedU (hg : Gl X "sorted") (hm : X.mg "sorted" = none) (ha : PA2 X ω (e :: es) t) (he : starEach (e :: es) X.env = (false, eval e X.env) :: starEach es X.env := by rfl) (hpl : (backTo pos (starEach es X.env)).any (·.1) = false := by rfl) : PE2 X ω (.Call (.Name "sorted" p) (e :: es) [] pos) (tCB2 kSorted t) :=
  q_callB (cr_sorted.or cr_sortedS) kc_sorted hg hm bt_sorted ha (by decide) (by decide) he hpl
end
end Z

/-! Z17: a comprehension's list that is owned; texts. -/
namespace Z
open PySem PySem.Spec PyProof.Rows L2
section
variable {X : Cx} {ω : Bx}
end
/-! ### whole numbers' texts -/
theorem okS {z : Str} (h : z.cps.all (· < 0x110000) = true) : okD 60 (.str z) = true := h
theorem str_len_append (a b : Str) : (a ++ b).length = a.length + b.length := Array.size_append
end Z

/-! Z18: a drawing state beside a list of one's own; further readings. -/
namespace Z
open PySem PySem.Spec PyProof.Rows L2
theorem StAt.grow {p l : Addr} {m m' : M} {c c' : C} (h : StAt p (upM m l c) m') (hne : l ≠ p) : StAt p (upM m l c') (upM m' l c') := by
  obtain ⟨st, h1, rfl⟩ := h
  refine ⟨st, h1, ?_⟩
  rw [upM_comm hne.symm, upM_upM]
theorem StAt.own {p l : Addr} {m m' : M} {c : C} (h : StAt p (upM m l c) m') (hne : l ≠ p) : m' l = some c := by
  obtain ⟨st, h1, rfl⟩ := h
  rw [upM_ne hne, upM_same]
theorem StAt.start {p l : Addr} {m : M} {c : C} (h : StAt p m m) (hl : m l = none) : StAt p (upM m l c) (upM m l c) ∧ l ≠ p := by
  obtain ⟨st, h1, h2⟩ := h.at
  have hne : p ≠ l := ne_ofM h2 hl
  exact ⟨StAt.mk (by rw [upM_ne hne]; exact h2) h1, hne.symm⟩
theorem StAt.drop {p l : Addr} {m m' : M} {c : C} (h : StAt p (upM m l c) m') (hl : m l = none) : ∃ m2, Sub m2 m' ∧ StAt p m m2 := by
  obtain ⟨st, h1, rfl⟩ := h
  refine ⟨upM m p (.lst st), fun a d q => ?_, st, h1, rfl⟩
  by_cases e : a = p
  · subst e
    rw [upM_same] at q ⊢
    exact q
  · rw [upM_ne e] at q ⊢
    rw [upM_ne (ne_ofM q hl)]
    exact q
section
variable {m : M} {Q : Kd} {x y : D}
theorem kTup_of {ds : List D} (e : itsD (res m x) = some ds) (q : Q (.tup ds) m) : kTuple [x] m Q := by
  unfold kTuple kIts
  refine ⟨?_⟩
  dsimp only
  cases h : res m x <;> rw [h] at e <;> first | (cases e; exact q) | cases e
theorem ix_s {z : Str} {i : Int} {c : Nat} (e : res m x = .str z) (hz : z.length ≤ sizeLine) (h : atI z.cps.toList i = some c) (q : Q (.str ⟨#[c]⟩) m) : oIxU x (.int i) m Q := by unfold oIxU; refine ⟨?_⟩; simp only [e]; exact ⟨c, hz, h, q⟩
end
end Z

/-! Z19: split, startswith. -/
namespace Z
open PySem PySem.Spec PyProof.Rows L2
@[irreducible] def splitK (a b : Str) (m : M) (Q : Kd) : Prop := Box <| (b.length == 0) = false ∧ a.length + 2 ≤ sizeLine ∧ Q (.lst ((Txt.split a b).map D.str)) m
theorem splitK_of {a b : Str} {m : M} {Q : Kd} (h : (b.length == 0) = false) (h2 : a.length + 2 ≤ sizeLine) (q : Q (.lst ((Txt.split a b).map D.str)) m) : splitK a b m Q := by unfold splitK; exact ⟨h, h2, q⟩
@[irreducible] def startK (a b : Str) (m : M) (Q : Kd) : Prop := Box <| Q (.bl (Txt.startswith a b)) m
def tStr1 (k : Str → Str → M → Kd → Prop) (to te : TE2) : TE2 := fun g m Q => to g m fun z m1 => match z with
  | .str a => te g m1 fun y m2 => match y with
    | .str b => k a b m2 Q
    | _ => False
  | _ => False
section
variable {X : Cx} {ω : Bx} {o e : Expr} {to te : TE2} {apos pos : Pos}
theorem m_split1M (ho : PE2 X ω o to) (he : PE2 X ω e te) (hs : starEach [e] X.env = [(false, eval e X.env)] := by rfl) (hbase : attributeBase o "split" X.env (eval o X.env) = eval o X.env := by rfl) (hline : (apos.endLine == pos.line) = true := by rfl) :
    PE2 X ω (.Call (.Attribute o "split" apos) [e] [] pos) (tStr1 splitK to te) :=
  (pe_split pe_sem pe_sem hs hbase hline).to2 fun σ H g m Q S hm q => (ho.sem S hm q).mono fun v H1 ⟨d, m1, s1, r1, q1⟩ => by
    dsimp only at q1
    split at q1
    · rename_i a
      cases r1
      refine ⟨⟨a, rfl⟩, (he.sem (S.mono s1.ex) s1.mem q1).mono fun v2 H2 ⟨d2, m2, s2, r2, q2⟩ => ?_⟩
      dsimp only at q2
      split at q2
      · rename_i b
        cases r2
        unfold splitK at q2
        obtain ⟨h1, h2, h3⟩ := q2.out
        exact ⟨a, b, rfl, rfl, h1, h2, fun p hp => P2.go (s1.trans s2) (.new s2.mem hp (.lst (Step.new_at s2.mem hp) ((Reps.of_strs _).mono (Step.new s2.mem hp).ex)) h3)⟩
      · exact q2.elim
    · exact q1.elim
/-- xs[::-1] of a list -/
@[irreducible] def revK (x : D) (m : M) (Q : Kd) : Prop := Box <| ∃ ds, lsD (res m x) = some ds ∧ Q (.lst ds.reverse) m
theorem Reps.rev {K : PySem.W.Frag} {G : Hp} : ∀ {vs : List V} {ds : List D}, Reps K G vs ds → Reps K G vs.reverse ds.reverse
  | _, _, .nil => .nil
  | _, _, .cons a t => by
    rw [List.reverse_cons, List.reverse_cons]
    exact (Reps.rev t).append (.cons a .nil)
end
end Z

/-! Z20: two numbers in lowest terms of one value are the same. -/
namespace Z
open PySem PySem.Spec PyProof.Rows L2
theorem lo_dvd {a b d : Int} (h : Int.gcd a b = 1) (e : b ∣ a * d) : b ∣ d := by
  have h1 : b.natAbs ∣ a.natAbs * d.natAbs := by
    rw [← Int.natAbs_mul]
    exact Int.natAbs_dvd_natAbs.mpr e
  have h2 : Nat.Coprime b.natAbs a.natAbs := by
    show Nat.gcd _ _ = 1
    rw [Nat.gcd_comm]
    exact h
  exact Int.natAbs_dvd_natAbs.mp (h2.dvd_of_dvd_mul_left h1)
theorem lo_same {p q : Fr} (hp : Lo p) (hq : Lo q) (e : p.1 * q.2 = q.1 * p.2) : p = q := by
  obtain ⟨a, b⟩ := p
  obtain ⟨c, d⟩ := q
  obtain ⟨hb, g1⟩ := hp
  obtain ⟨hd, g2⟩ := hq
  have e : a * d = c * b := e
  have d1 : b ∣ d := lo_dvd g1 ⟨c, by rw [e, Int.mul_comm]⟩
  have d2 : d ∣ b := lo_dvd g2 ⟨a, by rw [← e, Int.mul_comm]⟩
  have hb : 0 < b := hb
  have hd : 0 < d := hd
  have l1 := Int.le_of_dvd hd d1
  have l2 := Int.le_of_dvd hb d2
  have eb : b = d := by omega
  subst eb
  have : a = c := Int.eq_of_mul_eq_mul_right (by omega) e
  rw [this]
end Z

/-! Z21: errors: raised, let through, caught and held. -/
namespace Z
open PySem PySem.Spec PyProof.Rows L2

/-! ### what a context wishes of an error -/
/-- a def that may raise, and what it promises -/
structure DefOkX (P : Program) (w : World) (K : PySem.W.Frag) (mg : Str → Option Value) (base : Heap) (k : Nat) (x : Str) (sp : Sp2) : Prop where
  ex : ∃ (f : Addr) (fd : FuncData) (ps : List Str), FnOk P w K mg base (L2.CX P w) k f fd ps (lift K sp) ∧ mg x = some (.ref f) ∧ PySem.W.keepIn K (.ref f) = true ∧ Binds K fd ps []
section
variable {X : Cx} {ω : Bx} {k kk : Nat} {sp : Sp2} {x : Str} {p pos : Pos} {e : Expr} {es : List Expr} {t : TA2} {dd : List D}
/-- .. with defaults left -/
structure DefDfX (P : Program) (w : World) (K : PySem.W.Frag) (mg : Str → Option Value) (base : Heap) (k : Nat) (x : Str) (sp : Sp2) (dd : List D) : Prop where
  ex : ∃ (f : Addr) (fd : FuncData) (ps : List Str) (dus : List Value) (dvs : List V), FnOk P w K mg base (L2.CX P w) k f fd ps (lift K sp) ∧ mg x = some (.ref f) ∧ PySem.W.keepIn K (.ref f) = true ∧ Binds K fd ps dus ∧ Vals dvs dus ∧ ∀ G, Reps K G dvs dd
end

/-! ### raise -/
/-- an own class of errors, as it stands behind the top -/
structure ExcAt (K : PySem.W.Frag) (mg : Str → Option Value) (x : Str) (C : Addr) : Prop where
  g : mg x = some (.ref C)
  q : PySem.W.excIn K C [.type "ValueError", .type "Exception", .type "BaseException", .type "object"] "ValueError.__new__" = true
  k : PySem.W.keepIn K (.ref C) = true
  b : PySem.W.subIn K (.ref C) (.type "BaseException") = some true
  t : PySem.W.typeIn K (.ref C) = some (.type "type")
/-! ### isinstance of an error that is held -/
/-- classes, as data -/
def clsD : D → Option Value | .ty n => some (.type n) | .ref C => some (.ref C) | _ => none
@[irreducible] def isiXK (K : PySem.W.Frag) (x y : D) (m : M) (Q : Kd) : Prop := Box <| ∃ C u b, res m x = .exc C ∧ clsD y = some u ∧ ExcC K C ∧ PySem.W.kitOne K (.ref C) u = some b ∧ Q (.bl b) m
section
variable {X : Cx} {ω : Bx} {p pos : Pos} {e : Expr} {es : List Expr} {t : TA2}
end
end Z

/-! Z22: try .. except C as n: the error is held. -/
namespace Z
open PySem PySem.Spec PyProof.Rows L2

section
variable {X : Cx} {pins : List (Addr × Obj)} {σ : St} {H : Hp} {s : Shared}
end
section
variable {X : Cx} {x n : Str} {c : Value} {i : Nat} {body suite : List Stmt} {b0 : Stmt} {np pos pos' : Pos} {tb : WX → TS} {ts : TS} {Wo : WX}
end

/-! ### over data -/
section
variable {X : Cx} {ω : Bx} {x n : Str} {c : Value} {i : Nat} {body suite : List Stmt} {b0 : Stmt} {np pos pos' : Pos} {tb : (Value → Sl → M → Prop) → TS2} {ts : TS2}
end

/-! ### a def that may raise -/
section
variable {P : Program} {w : World} {K : PySem.W.Frag} {mg : Str → Option Value} {base : Heap} {x : Str} {st : Stmt} {f : Addr} {fd : FuncData} {N ps : List Str} {k : Nat}
end
end Z

/-! Z23: own classes of errors as they stand; list.count, list.index. -/
namespace Z
open PySem PySem.Spec PyProof.Rows L2
structure ErrAt (K : PySem.W.Frag) (mg : Str → Option Value) (Ce : Nat → Addr) (n i : Nat) (x : Str) : Prop where
  exc : ExcAt K mg x (Ce i)
  ec : ExcC K (Ce i)
  ex0 : PySem.W.exmOne K (.ref (Ce i)) (.ref (Ce 0)) = some true
  ve : PySem.W.kitOne K (.ref (Ce i)) (.type "ValueError") = some true
  kit : ∀ j, j < n → PySem.W.kitOne K (.ref (Ce i)) (.ref (Ce j)) = some (decide (j = i) || decide (j = 0))
section
variable {X : Cx} {ω : Bx} {x : Str} {C : Addr} {pos : Pos}
end
/-! ### list.count, list.index -/
section
variable {X : Cx}
variable {K : PySem.W.Frag}
@[irreducible] def cntK (x y : D) (m : M) (Q : Kd) : Prop := Box <| ∃ ds, lsD (res m x) = some ds ∧ flatD y = true ∧ ds.all flatD = true ∧ Q (.int ((ds.countP fun z => eqV (vOf z) (vOf y) : Nat) : Int)) m
@[irreducible] def idxK (x y : D) (m : M) (Q : Kd) : Prop := Box <| ∃ ds j z, lsD (res m x) = some ds ∧ flatD y = true ∧ ds.all flatD = true ∧ ds[j]? = some z ∧ eqV (vOf z) (vOf y) = true ∧ (∀ i z', i < j → ds[i]? = some z' → eqV (vOf z') (vOf y) = false) ∧ Q (.int (j : Nat)) m
variable {ω : Bx} {o e : Expr} {to te : TE2} {apos cpos : Pos}
end
section
variable {m : M} {Q : Kd} {x : D}
end
end Z

/-! Z24: numbers' texts, written and read, as lists of signs. -/
namespace Z
open PySem PySem.Spec PyProof.Rows L2
theorem notT {b : Bool} (h : (!b) = true) : b = false := by cases b <;> first | rfl | cases h
theorem notF {b : Bool} (h : (!b) = false) : b = true := by cases b <;> first | rfl | cases h
/-- a whole number's signs -/
def sgL (i : Int) : List Nat := if i < 0 then 45 :: TL.numL i.natAbs else TL.numL i.natAbs
theorem tl_int (i : Int) : TL.tl (Str.ofString (toString i)) = sgL i := by
  unfold sgL
  cases i with
  | ofNat n => rw [if_neg (show ¬ Int.ofNat n < 0 from Int.not_lt.mpr (Int.natCast_nonneg n))]; exact TL.tl_num n
  | negSucc n =>
    rw [if_pos (by omega)]
    have e : (toString (Int.negSucc n) : String) = "-" ++ toString ((n + 1 : Nat) : Int) := by
      show Int.repr (Int.negSucc n) = "-" ++ Int.repr ((n + 1 : Nat) : Int)
      rfl
    rw [e, TL.tl_ofString, String.toList_append, List.map_append, ← TL.tl_ofString (toString ((n + 1 : Nat) : Int)), TL.tl_num]
    rfl
/-! ### figures -/
/-! ### read -/
/-! ### texts as data -/
theorem tl_cut (z : Str) (k : Nat) : TL.tl (cutS z (some (k : Int)) none) = (TL.tl z).drop k := by
  have h := cut_lo (TL.tl z) k
  unfold cutD at h
  have hl : (TL.tl z).length = z.length := (TL.len_tl z).symm
  rw [hl] at h
  exact h
theorem tl_cutHi (z : Str) (k : Nat) : TL.tl (cutS z none (some (k : Int))) = (TL.tl z).take k := by
  have h := cut_hi (TL.tl z) k
  unfold cutD at h
  have hl : (TL.tl z).length = z.length := (TL.len_tl z).symm
  rw [hl] at h
  exact h
section
variable {m : M} {Q : Kd} {x y : D}
theorem in_sg {z : Str} {c : Nat} (e : res m y = .str z) (q : Q (.bl (decide (c ∈ z.cps.toList))) m) : oInU false (.str ⟨#[c]⟩) y m Q := by
  unfold oInU
  refine ⟨?_⟩
  rw [e]
  exact q
theorem notin_sg {z : Str} {c : Nat} (e : res m y = .str z) (q : Q (.bl (!decide (c ∈ z.cps.toList))) m) : oInU true (.str ⟨#[c]⟩) y m Q := by
  unfold oInU
  refine ⟨?_⟩
  rw [e]
  exact q
end
def okT (z : Str) : Bool := z.cps.all (· < 0x110000)
theorem okT_of {a : Str} (h : ∀ c ∈ TL.tl a, c < 0x110000) : okT a = true := by
  unfold okT
  rw [← Array.all_toList]
  exact List.all_eq_true.mpr fun c hc => decide_eq_true (h c hc)
theorem okT_mem {a : Str} (h : okT a = true) : ∀ c ∈ TL.tl a, c < 0x110000 := by
  unfold okT at h
  rw [← Array.all_toList] at h
  exact fun c hc => of_decide_eq_true (List.all_eq_true.mp h c hc)
theorem sgL_len {i : Int} {k : Nat} (hk : 0 < k) (h : i.natAbs < 10 ^ k) : (sgL i).length ≤ k + 1 := by
  have := TL.numL_len hk h
  unfold sgL
  split
  · rw [List.length_cons]; omega
  · omega
theorem int_len {i : Int} {k : Nat} (hk : 0 < k) (h : i.natAbs < 10 ^ k) : (Str.ofString (toString i)).length ≤ k + 1 := by
  rw [TL.len_tl, tl_int]
  exact sgL_len hk h
/-! ### read by the law's own way -/
end Z

/-! Z25: dicts as tables: get, [], in, store, pop, copies, ==. -/
namespace Z
open PySem PySem.Spec PyProof.Rows L2
section
variable {α : Type}
def gtK (l : List (Key × α)) (k : Key) : Option α := (l.find? fun p => decide (p.1 = k)).map (·.2)
def ptK (l : List (Key × α)) (k : Key) (v : α) : List (Key × α) := if (l.any fun p => decide (p.1 = k)) = true then l.map (fun p => if p.1 = k then (p.1, v) else p) else l ++ [(k, v)]
def drK (l : List (Key × α)) (k : Key) : List (Key × α) := l.filter fun p => decide (p.1 ≠ k)
def mgK (l more : List (Key × α)) : List (Key × α) := more.foldl (fun acc p => ptK acc p.1 p.2) l
theorem gtK_pos {p : Key × α} {r : List (Key × α)} {k : Key} (e : p.1 = k) : gtK (p :: r) k = some p.2 := by simp [gtK, List.find?_cons, e]
theorem gtK_neg {p : Key × α} {r : List (Key × α)} {k : Key} (e : ¬ p.1 = k) : gtK (p :: r) k = gtK r k := by simp [gtK, List.find?_cons, e]
end
/-- a dict, as a table -/
def tbD (l : List (Key × D)) : D := .dic (l.map (·.1)) (l.map (·.2))
def tbC (l : List (Key × D)) : C := .dic (l.map (·.1)) (l.map (·.2))
abbrev RP (K : PySem.W.Frag) (G : Hp) : List (Key × V) → List (Key × D) → Prop := Paired fun p q => p.1 = q.1 ∧ Rep K G p.2 q.2
section
variable {K : PySem.W.Frag} {G G' : Hp}
theorem RP.mono (e : Ex G G') {l : List (Key × V)} {l' : List (Key × D)} (h : RP K G l l') : RP K G' l l' := by
  induction h with
  | nil => exact .nil
  | cons a _ ih => exact .cons ⟨a.1, a.2.mono e⟩ ih
theorem RP.of : ∀ {l' : List (Key × D)} {vs : List V}, Reps K G vs (l'.map (·.2)) → RP K G ((l'.map (·.1)).zip vs) l'
  | [], _, h => by cases h; exact .nil
  | p :: r, _, h => by
    cases h with
    | cons a t => exact .cons ⟨rfl, a⟩ (RP.of t)
theorem RP.keys {l : List (Key × V)} {l' : List (Key × D)} (h : RP K G l l') : l.map (·.1) = l'.map (·.1) := by
  induction h with
  | nil => rfl
  | cons a _ ih => rw [List.map_cons, List.map_cons, a.1, ih]
theorem RP.len {l : List (Key × V)} {l' : List (Key × D)} (h : RP K G l l') : l.length = l'.length := by
  have := congrArg List.length h.keys
  simpa using this
theorem RP.get {l : List (Key × V)} {l' : List (Key × D)} (h : RP K G l l') (k : Key) : (∀ d, gtK l' k = some d → ∃ v, valV l k = some v ∧ Rep K G v d) ∧ (gtK l' k = none → valV l k = none) := by
  induction h with
  | nil => exact ⟨fun d z => by simp [gtK] at z, fun _ => rfl⟩
  | @cons p q ps qs a t ih =>
    by_cases e : q.1 = k
    · rw [gtK_pos e, valV_pos (a.1.trans e)]
      exact ⟨fun d z => by cases z; exact ⟨_, rfl, a.2⟩, fun z => by cases z⟩
    · rw [gtK_neg e, valV_neg (fun z => e (a.1.symm.trans z))]
      exact ih
theorem RP.any {l : List (Key × V)} {l' : List (Key × D)} (h : RP K G l l') (k : Key) : (l.any fun p => decide (p.1 = k)) = l'.any fun p => decide (p.1 = k) := by
  induction h with
  | nil => rfl
  | cons a _ ih => rw [List.any_cons, List.any_cons, ih, a.1]
theorem RP.repl {l : List (Key × V)} {l' : List (Key × D)} (h : RP K G l l') (k : Key) {v : V} {d : D} (r : Rep K G v d) : RP K G (l.map fun p => if p.1 = k then (p.1, v) else p) (l'.map fun p => if p.1 = k then (p.1, d) else p) := by
  induction h with
  | nil => exact .nil
  | @cons p q ps qs a t ih =>
    rw [List.map_cons, List.map_cons]
    refine .cons ?_ ih
    by_cases e : q.1 = k
    · rw [if_pos e, if_pos (a.1.trans e)]; exact ⟨a.1, r⟩
    · rw [if_neg e, if_neg (fun z => e (a.1.symm.trans z))]; exact a
theorem RP.put {l : List (Key × V)} {l' : List (Key × D)} (h : RP K G l l') (k : Key) {v : V} {d : D} (r : Rep K G v d) : RP K G (putK l k v) (ptK l' k d) := by
  unfold putK ptK
  rw [h.any k]
  split
  · exact h.repl k r
  · exact Paired.snoc h ⟨rfl, r⟩
theorem RP.drop {l : List (Key × V)} {l' : List (Key × D)} (h : RP K G l l') (k : Key) : RP K G (dropK l k) (drK l' k) := by
  unfold dropK drK
  induction h with
  | nil => exact .nil
  | @cons p q ps qs a t ih =>
    rw [List.filter_cons, List.filter_cons]
    by_cases e : q.1 = k
    · rw [if_neg (fun z => absurd e (of_decide_eq_true z)), if_neg (fun z => absurd (a.1.trans e) (of_decide_eq_true z))]; exact ih
    · have e2 : ¬ p.1 = k := fun z => e (a.1.symm.trans z)
      rw [if_pos (decide_eq_true e), if_pos (decide_eq_true e2)]; exact .cons a ih
end
section
variable {K : PySem.W.Frag} {m : M} {H : Hp} {v : V} {d : D}
theorem keyOf {k : Key} (r : Rep K (hid m H) v d) (e : keyD d = some k) : v = kV k := by
  unfold keyD at e
  cases r <;> first | (cases e; rfl) | cases e
end
/-! ### [], in, == -/
@[irreducible] def oIxD : R22 := fun x y m Q => Box <| ∃ l k d, res m x = tbD l ∧ keyD y = some k ∧ gtK l k = some d ∧ Q d m
@[irreducible] def oInD (neg : Bool) : R22 := fun x y m Q => Box <| ∃ l k, res m y = tbD l ∧ keyD x = some k ∧ Q (.bl (if neg then !(gtK l k).isSome else (gtK l k).isSome)) m
@[irreducible] def oEqT (neg : Bool) : R22 := fun x y m Q => Box <| ∃ l l', res m x = tbD l ∧ res m y = tbD l' ∧ l.length = l'.length ∧ (∀ p ∈ l, ∃ e, gtK l' p.1 = some e ∧ okD 60 p.2 = true ∧ okD 60 e = true ∧ eqD p.2 e = true) ∧ Q (.bl (!neg)) m
section
variable {m : M} {Q : Kd} {x y : D}
end
section
variable {X : Cx} {ω : Bx} {a b : Expr} {ta tb : TE2} {pos : Pos}
theorem RP.isSome {K : PySem.W.Frag} {G : Hp} {l : List (Key × V)} {l' : List (Key × D)} (h : RP K G l l') (k : Key) : (valV l k).isSome = (gtK l' k).isSome := by
  cases e : gtK l' k with
  | none => rw [(h.get k).2 e] <;> rfl
  | some d => obtain ⟨v, hv, _⟩ := (h.get k).1 d e; rw [hv] <;> rfl
theorem RP.mem {K : PySem.W.Frag} {G : Hp} {l : List (Key × V)} {l' : List (Key × D)} (h : RP K G l l') : ∀ p ∈ l, ∃ q ∈ l', p.1 = q.1 ∧ Rep K G p.2 q.2 := by
  induction h with
  | nil => intro p hp; exact absurd hp List.not_mem_nil
  | @cons p0 q0 ps qs a t ih =>
    intro p hp
    rcases List.mem_cons.mp hp with e | h'
    · subst e; exact ⟨q0, List.mem_cons_self, a⟩
    · obtain ⟨q, h1, h2⟩ := ih p h'; exact ⟨q, List.mem_cons_of_mem _ h1, h2⟩
end
end Z

/-! Z26: dicts changed and made; isinstance of an error by a tuple of classes. -/
namespace Z
open PySem PySem.Spec PyProof.Rows L2
section
variable {X : Cx} {ω : Bx} {pos : Pos}
end
/-! ### methods -/
section
variable {X : Cx}
section
variable {ω : Bx} {o e : Expr} {es : List Expr} {name : Str} {apos cpos : Pos} {T id : String} {r : V → List V → Hp → VK → Prop}
end
@[irreducible] def getK2 (x y z : D) (m : M) (Q : Kd) : Prop := Box <| ∃ l k, res m x = tbD l ∧ keyD y = some k ∧ Q ((gtK l k).getD z) m
@[irreducible] def popDK (x y : D) (m : M) (Q : Kd) : Prop := Box <| ∃ p l k d, x = .ref p ∧ m p = some (tbC l) ∧ keyD y = some k ∧ gtK l k = some d ∧ Q d (upM m p (tbC (drK l k)))
theorem RP.getD {K : PySem.W.Frag} {G : Hp} {l : List (Key × V)} {l' : List (Key × D)} (h : RP K G l l') (k : Key) {v : V} {d : D} (r : Rep K G v d) : Rep K G ((valV l k).getD v) ((gtK l' k).getD d) := by
  cases e : gtK l' k with
  | none => rw [(h.get k).2 e]; exact r
  | some d' => obtain ⟨w, hw, rw'⟩ := (h.get k).1 d' e; rw [hw]; exact rw'
variable {ω : Bx} {o e f : Expr} {to te tf : TE2} {apos cpos : Pos}
end
/-! ### dict(..), sorted(..) -/
def prsD : List D → Option (List (Key × D))
  | [] => some []
  | .tup [x, v] :: r => match keyD x, prsD r with | some k, some l => some ((k, v) :: l) | _, _ => none
  | _ :: _ => none
section
variable {K : PySem.W.Frag} {m : M} {H : Hp}
end
/-- dict(x): x a list of pairs, or a dict -/
@[irreducible] def dctK (F : List (Key × D) → M → Prop) (x : D) (m : M) : Prop := Box <| (∃ ds l, lsD (res m x) = some ds ∧ prsD ds = some l ∧ F (mgK [] l) m) ∨ (∃ l, res m x = tbD l ∧ F l m)
@[irreducible] def sortTK (x : D) (m : M) (Q : Kd) : Prop := Box <| ∃ (l : List (Key × D)) (zs : List Str), res m x = tbD l ∧ l.map (·.1) = zs.map Sum.inr ∧ zs.length < 64 ∧ ∀ ys : List Str, ys.Perm zs → sortedS ys = true → Q (.lst (ys.map D.str)) m
section
variable {X : Cx} {ω : Bx} {p pos : Pos} {e : Expr} {es : List Expr} {t : TA2}
end
/-! ### isinstance of an error by a tuple of classes -/
def clsDs : List D → Option (List Value)
  | [] => some []
  | d :: r => match clsD d, clsDs r with | some u, some l => some (u :: l) | _, _ => none
@[irreducible] def isiXT (K : PySem.W.Frag) (x y : D) (m : M) (Q : Kd) : Prop := Box <| ∃ C ds us b, res m x = .exc C ∧ y = .tup ds ∧ clsDs ds = some us ∧ ExcC K C ∧ PySem.W.kitAny K (.ref C) us = some b ∧ Q (.bl b) m
section
variable {X : Cx} {ω : Bx} {p pos : Pos} {e : Expr} {es : List Expr} {t : TA2}
end
end Z

/-! Z27: comprehensions that move a state, each item with its own result. -/
namespace Z
open PySem PySem.Spec PyProof.Rows L2
end Z

/-! Z28: fractions over a common lower part. -/
namespace Z
open PySem PySem.Spec PyProof.Rows L2
/-- p is N over M, in lowest terms -/
def Ov (M N : Int) (p : Fr) : Prop := Lo p ∧ p.1 * M = N * p.2
theorem Ov.inj {M N : Int} {p q : Fr} (h0 : 0 < M) (hp : Ov M N p) (hq : Ov M N q) : p = q := by
  refine lo_same hp.1 hq.1 ?_
  have h1 := hp.2
  have h2 := hq.2
  have e : (p.1 * q.2) * M = (q.1 * p.2) * M := by
    rw [Int.mul_right_comm, h1, Int.mul_right_comm q.1, h2, Int.mul_right_comm]
  exact Int.eq_of_mul_eq_mul_right (Int.ne_of_gt h0) e
theorem ovMul_pos {a b : Int} (ha : 0 < a) (hb : 0 < b) : 0 < a * b := Int.mul_pos ha hb
theorem Ov.low {M N a b : Int} (hb : 0 < b) (e2 : a * M = N * b) : Ov M N (lowP a b) := by
  refine ⟨lowP_lo hb, ?_⟩
  have e := lowP_eq (a := a) (b := b) hb
  refine Int.eq_of_mul_eq_mul_right (Int.ne_of_gt hb) ?_
  rw [Int.mul_right_comm, e, Int.mul_right_comm, e2, Int.mul_right_comm]
theorem Ov.times {M M' N N' : Int} {p q : Fr} (hp : Ov M N p) (hq : Ov M' N' q) : Ov (M * M') (N * N') (timesP p q) := by
  refine Ov.low (ovMul_pos hp.1.1 hq.1.1) ?_
  have h1 := hp.2
  have h2 := hq.2
  have e1 : p.1 * q.1 * (M * M') = (p.1 * M) * (q.1 * M') := by
    simp only [Int.mul_assoc, Int.mul_comm, Int.mul_left_comm]
  have e2 : N * N' * (p.2 * q.2) = (N * p.2) * (N' * q.2) := by
    simp only [Int.mul_assoc, Int.mul_comm, Int.mul_left_comm]
  rw [e1, h1, h2, e2]
theorem Ov.up {M N : Int} {p : Fr} (k : Int) (hp : Ov M N p) : Ov (M * k) (N * k) p := ⟨hp.1, by rw [← Int.mul_assoc, hp.2, Int.mul_right_comm]⟩
theorem Ov.abs {M N : Int} {p : Fr} (h0 : 0 < M) (hp : Ov M N p) : Ov M (N.natAbs : Int) ((p.1.natAbs : Int), p.2) := by
  refine ⟨⟨hp.1.1, ?_⟩, ?_⟩
  · have := hp.1.2
    show Int.gcd (p.1.natAbs : Int) p.2 = 1
    rw [← this]
    unfold Int.gcd
    rw [Int.natAbs_natCast]
  · have h1 := congrArg Int.natAbs hp.2
    rw [Int.natAbs_mul, Int.natAbs_mul] at h1
    have h2 : ((p.1.natAbs * M.natAbs : Nat) : Int) = ((N.natAbs * p.2.natAbs : Nat) : Int) := by rw [h1]
    rw [Int.natCast_mul, Int.natCast_mul, Int.natAbs_of_nonneg (Int.le_of_lt h0), Int.natAbs_of_nonneg (Int.le_of_lt hp.1.1)] at h2
    exact h2
theorem Ov.zero {M : Int} : Ov M 0 (0, 1) := ⟨⟨by decide, by decide⟩, by show (0 : Int) * M = 0 * 1; rw [Int.zero_mul]; rfl⟩
/-- N over M, of p -/
def ovN (M : Int) (p : Fr) : Int := p.1 * M / p.2
theorem Ov.eq {M N : Int} {p : Fr} (h : Ov M N p) : N = ovN M p := by
  unfold ovN
  rw [h.2, Int.mul_ediv_cancel _ (Int.ne_of_gt h.1.1)]
/-- of at most B, over M -/
def Rt (M : Int) (B : Nat) (p : Fr) : Prop := ∃ N : Int, Ov M N p ∧ N.natAbs ≤ B
theorem Rt.times {M M' : Int} {B B' : Nat} {p q : Fr} (hp : Rt M B p) (hq : Rt M' B' q) : Rt (M * M') (B * B') (timesP p q) := by
  obtain ⟨N, h1, h2⟩ := hp
  obtain ⟨N', h3, h4⟩ := hq
  exact ⟨_, h1.times h3, by rw [Int.natAbs_mul]; exact Nat.mul_le_mul h2 h4⟩
theorem Rt.up {M : Int} {B : Nat} {p : Fr} (k : Int) (h : Rt M B p) : Rt (M * k) (B * k.natAbs) p := by
  obtain ⟨N, h1, h2⟩ := h
  exact ⟨_, h1.up k, by rw [Int.natAbs_mul]; exact Nat.mul_le_mul_right _ h2⟩
theorem Rt.abs {M : Int} {B : Nat} {p : Fr} (h0 : 0 < M) (h : Rt M B p) : Rt M B ((p.1.natAbs : Int), p.2) := by
  obtain ⟨N, h1, h2⟩ := h
  exact ⟨_, h1.abs h0, by rw [Int.natAbs_natCast]; exact h2⟩
theorem Rt.zero {M : Int} {B : Nat} : Rt M B (0, 1) := ⟨0, .zero, Nat.zero_le _⟩
theorem Rt.le {M : Int} {B B' : Nat} {p : Fr} (h : Rt M B p) (hb : B ≤ B') : Rt M B' p := let ⟨N, h1, h2⟩ := h; ⟨N, h1, Nat.le_trans h2 hb⟩
theorem Rt.pos {M : Int} {B : Nat} {p : Fr} (h : Rt M B p) : 0 < p.2 := let ⟨_, h, _⟩ := h; h.1.1
theorem Rt.ov {M : Int} {B : Nat} {p : Fr} (h : Rt M B p) : Ov M (ovN M p) p := by
  obtain ⟨N, h1, _⟩ := h
  rw [← h1.eq]
  exact h1
end Z

/-! Z29: a tuple's items from the end. -/
namespace Z
open PySem PySem.Spec PyProof.Rows L2 HT
section
variable {prog : Program} {w : World} {A : Around} {E : Value → Shared → Prop} {s : Shared}
theorem sliceApplied_rev {sl : Addr} {t : Tok} {n : Nat} {Q : Int × Int × Nat → Shared → Prop} (hs : s.heap.IsSliceOf sl .none .none (.int (-1) t))
    (h : Q ((n : Int) - 1, -1, n) s) : wpAny (model prog w) A (Builtin.Slice.sliceApplied (.ref sl) (pure (n : Int))) Q E s := by
  obtain ⟨os, hos, hcs, hds⟩ := id hs
  unfold Builtin.Slice.sliceApplied Builtin.Slice.sliceFields
  refine wpAny_bind (wpAny_bind (wpAny_field hos hds (x := .none) rfl (wpAny_bind (wpAny_field hos hds (x := .none) rfl (wpAny_bind (wpAny_field hos hds (x := .int (-1) t) rfl (wpAny_pure ?_)))))))
  refine wpAny_bind (slicePart_int ?_)
  show wpAny _ _ (if ((-1 : Int) == 0) = true then _ else _) _ _ s
  rw [if_neg (by decide)]
  refine wpAny_bind (slicePart_none (wpAny_bind (slicePart_none (wpAny_bind (wpAny_pure ?_)))))
  have e1 : Builtin.Slice.sliceAdjust none none (-1) (n : Int) = ((n : Int) - 1, -1) := rfl
  have e2 : Builtin.Slice.slicePlaces ((n : Int) - 1) (-1) (-1) = n := by
    unfold Builtin.Slice.slicePlaces
    have h1 : ¬ ((-1 : Int) > 0) := by omega
    have h2 : -(-1 : Int) = 1 := rfl
    simp only [h1, if_false, h2, Int.ediv_one]
    split <;> omega
  show wpAny _ _ (match Builtin.Slice.sliceAdjust none none (-1) (n : Int) with | (lo, hi) => pure (lo, (-1 : Int), Builtin.Slice.slicePlaces lo hi (-1))) _ _ s
  rw [e1]
  show wpAny _ _ (pure ((n : Int) - 1, (-1 : Int), Builtin.Slice.slicePlaces ((n : Int) - 1) (-1) (-1))) _ _ s
  rw [e2]
  exact wpAny_pure h
theorem pick_rev (xs : Array Value) : ((List.range xs.size).filterMap fun (m : Nat) => xs[(((xs.size : Int) - 1) + (m : Int) * (-1)).toNat]?).toArray = xs.toList.reverse.toArray := by
  congr 1
  obtain ⟨l⟩ := xs
  simp only [List.size_toArray, List.getElem?_toArray]
  have e : ∀ k, k ≤ l.length → ((List.range k).filterMap fun (m : Nat) => l[(((l.length : Int) - 1) + (m : Int) * (-1)).toNat]?) = l.reverse.take k := by
    intro k
    induction k with
    | zero => intro _; simp
    | succ k ih =>
      intro hk
      rw [List.range_succ, List.filterMap_append, ih (by omega), List.take_add_one]
      congr 1
      have h1 : (((l.length : Int) - 1) + (k : Int) * (-1)).toNat = l.length - 1 - k := by omega
      rw [List.getElem?_reverse (by omega)]
      simp only [List.filterMap_cons, List.filterMap_nil, h1]
      have h2 : l.length - 1 - k < l.length := by omega
      rw [List.getElem?_eq_getElem h2]
      rfl
  have := e l.length (Nat.le_refl _)
  rw [this]
  have h3 : l.length = l.reverse.length := List.length_reverse.symm
  rw [List.take_of_length_le (by rw [List.length_reverse]; exact Nat.le_refl _)]
theorem getItem_tuple_rev {t sl : Addr} {items : Array Value} {k : Tok} {Q : Value → Shared → Prop} (ht : IsTup s.heap t items) (hs : s.heap.IsSliceOf sl .none .none (.int (-1) k))
    (h : Q (.ref s.heap.objs.size) { s with heap := s.heap.push { cls := .type "tuple", data := .seq items.toList.reverse.toArray } })
    (hsz : items.size ≤ sizeLine) : wpAny (model prog w) A (getItem (.ref t) (.ref sl)) Q E s := by
  have htake : sizeOk (.seq items.toList.reverse.toArray) := by
    show items.toList.reverse.toArray.size ≤ sizeLine
    rw [List.size_toArray, List.length_reverse, Array.length_toList]
    exact hsz
  obtain ⟨os, hos, hcs, hds⟩ := id hs
  have hTs : s.TypeIs (.ref sl) "slice" := ⟨os, hos, hcs⟩
  unfold getItem
  try with_reducible refine wpAny_holding ?_
  first | refine wpAny_bind (wpAny_pure ?_) | skip
  refine wpAny_bind (wpAny_sequenceKey ht.typeIs (by decide) ?_)
  refine wpAny_bind (wpAny_callSpecial?_slot (name := Str.ofString "__getitem__") ht.typeIs PyProof.Rows.slot_tuple_getitem
    (wpAny_call_entry PyProof.Rows.slot_tuple_getitem ht.typeIs entry_tuple_getitem ?_ (args_tuple_getitem _ _)))
  show wpAny _ _ (Builtin.Tuple.tupleItemsOf (.ref t) >>= _) _ _ s
  refine wpAny_bind (tupleItemsOf_ ht ?_)
  refine wpAny_bind (wpAny_typeOf hTs ?_)
  rw [if_pos (by decide)]
  refine wpAny_bind (sliceApplied_rev hs ?_)
  have hno : ¬ ((((items.size : Int) - 1) == 0 && (-1 : Int) == 1 && items.size == items.size) = true) := by
    intro q
    rw [Bool.and_eq_true, Bool.and_eq_true] at q
    exact absurd (eq_of_beq q.1.2) (by decide)
  show wpAny _ _ (if (((items.size : Int) - 1) == 0 && (-1 : Int) == 1 && items.size == items.size) = true then _ else _) _ _ s
  rw [if_neg hno, pick_rev]
  first
    | exact wpAny_bind (m := Builtin.Tuple.tupleExact _) (wpAny_newObj_type (wpAny_pure ⟨_, rfl, wpAny_pure h⟩) htake)
    | exact wpAny_bind (m := Builtin.Tuple.tupleExact _) (wpAny_newObj_type (wpAny_bind (wpAny_pure (wpAny_pure ⟨_, rfl, wpAny_pure h⟩))) htake)
    | exact wpAny_bind (wpAny_bind (m := Builtin.Tuple.tupleExact _) (wpAny_newObj_type (wpAny_pure (wpAny_pure ⟨_, rfl, wpAny_pure h⟩)) htake))
    | exact wpAny_bind (wpAny_bind (m := Builtin.Tuple.tupleExact _) (wpAny_newObj_type (wpAny_pure ⟨_, rfl, wpAny_pure h⟩) htake))
end
section
variable {X : Cx} {ω : Bx} {e : Expr} {te : TE2} {pos : Pos}
def tRevT (K : PySem.W.Frag) (te : TE) : TE := fun σ H Q => te σ H fun x H1 => ∃ a xs, x = .ref a ∧ SqT K H1 a xs ∧ ∀ p, H1 p = none → Q (.ref p) (upd H1 p (.tup xs.reverse))
theorem pe_revT {e : Expr} {te : TE} {k : Nat} {p1 p2 p3 pos : Pos} (he : PE X e te) : PE X (.Subscript e (.Slice none none (some (.UnaryOp .USub (.Constant (.int 1) k p1) p2)) p3) pos) (tRevT X.K te) := by
  refine ⟨fun pins s σ H Q I h => ?_⟩
  refine Subscript_ (thn (he.run pins s σ H _ I h) fun v s1 ⟨x, H1, I1, r1, q1⟩ => ?_)
  obtain ⟨a, xs, ex, hx, q⟩ := q1
  subst ex
  cases r1
  have hst : PO X (some (.UnaryOp .USub (.Constant (.int 1) k p1) p2)) (tPart (tUn (rU fun i => .int (-i)) (tC (.int 1)))) := po_some (pe_un un_neg pe_int)
  refine wpAny_Slice (thn (po_none.run pins s1 σ H1 (fun o H2 => o = none ∧ H2 = H1) I1 ⟨rfl, rfl⟩) fun vl s2 ⟨l, H2, I2, pl, el, e2⟩ => ?_)
  subst el e2
  refine thn (po_none.run pins s2 σ H2 (fun o H3 => o = none ∧ H3 = H2) I2 ⟨rfl, rfl⟩) fun vu s3 ⟨u, H3, I3, pu, eu, e3⟩ => ?_
  subst eu e3
  refine thn (hst.run pins s3 σ H3 (fun o H4 => o = some (-1) ∧ H4 = H3) I3 ⟨1, rfl, -1, rfl, rfl, rfl⟩) fun vs s4 ⟨o, H4, I4, ps, eo, e4⟩ => ?_
  subst eo e4
  cases pl
  cases pu
  obtain ⟨tk, rfl⟩ : ∃ tk, vs = Value.int (-1) tk := by cases ps; exact ⟨_, rfl⟩
  have I5 : L2.Inv X pins σ H4 { s4 with heap := s4.heap.push { cls := .type "slice", data := .fields #[.none, .none, .int (-1) tk] } } := I4.kept (t' := s4.toks) fun b ob q => Heap.get?_push_of_some _ q
  obtain ⟨its, r, ht, hz⟩ := I5.tuple hx
  have hlen := r.length
  show wpAny (model X.prog X.w) X.A (subscriptTail e (.Slice none none (some (.UnaryOp .USub (.Constant (.int 1) k p1) p2)) p3) (.ref a) (.ref s4.heap.objs.size)) (EP X pins σ Q) X.xe { s4 with heap := s4.heap.push { cls := .type "slice", data := .fields #[.none, .none, .int (-1) tk] } }
  refine tail_any (ops := [.ref a, .ref s4.heap.objs.size]) ht.typeIs (PyProof.Rows.slot_tuple_getitem.lookup) ?_ (by with_unfolding_all rfl)
  refine getItem_tuple_rev ht (Heap.IsSliceOf.new _ .none .none (.int (-1) tk)) ?_ (by rw [List.size_toArray]; omega)
  refine ⟨.ref _, _, I5.laid (t' := s4.toks) (o := .tup xs.reverse) (fun b ob q => Heap.get?_push_of_some _ q) (Nat.le_refl _) ?_, rfl, q _ (I5.hok.fresh (Nat.le_refl _))⟩
  exact ⟨by rw [List.length_reverse]; exact hz, _, r.reverse, IsTup.new _ _⟩
/-- xs[::-1] of a tuple -/
@[irreducible] def revTK (x : D) (m : M) (Q : Kd) : Prop := Box <| ∃ ds, res m x = .tup ds ∧ Q (.tup ds.reverse) m
theorem revT_of {x : D} {m : M} {Q : Kd} {ds : List D} (e : res m x = .tup ds) (q : Q (.tup ds.reverse) m) : revTK x m Q := by unfold revTK; exact ⟨⟨ds, e, q⟩⟩
def tRevTU (te : TE2) : TE2 := fun g m Q => te g m fun x m1 => revTK x m1 Q
theorem revTU {k : Nat} {p1 p2 p3 : Pos} (he : PE2 X ω e te) : PE2 X ω (.Subscript e (.Slice none none (some (.UnaryOp .USub (.Constant (.int 1) k p1) p2)) p3) pos) (tRevTU te) :=
  (pe_revT pe_sem).to2 fun σ H g m Q S hm q => (he.sem S hm q).mono fun v H1 ⟨d, m1, s1, r1, q1⟩ => by
    unfold revTK at q1
    obtain ⟨ds, e1, q2⟩ := q1.out
    obtain ⟨a, ws, rfl, k1, k2⟩ := tupOf r1 e1
    exact ⟨a, ws, rfl, k1, fun p hp => P2.go s1 (.new s1.mem hp (.tup (.inl (Rd.of (Step.new_at s1.mem hp))) (k2.rev.mono (Step.new s1.mem hp).ex)) q2)⟩
end
end Z

/-! Z30: tuples without a dict of their own (made by tuple(..)); dict(..) of one. -/
namespace Z
open PySem PySem.Spec PyProof.Rows L2
section
variable {X : Cx}
end
/-- tuple(xs) of a list, known to be without a dict -/
@[irreducible] def ptuK (x : D) (m : M) (Q : Kd) : Prop := Box <| ∃ ds, lsD (res m x) = some ds ∧ Q (.ptu ds) m
/-- dict(t) of such a tuple of pairs -/
@[irreducible] def dctTK (F : List (Key × D) → M → Prop) (x : D) (m : M) : Prop := Box <| ∃ ds l, x = .ptu ds ∧ prsD ds = some l ∧ F (mgK [] l) m
section
variable {X : Cx} {ω : Bx} {p pos : Pos} {e : Expr} {es : List Expr} {t : TA2}
end
end Z

/-! Z31: a comprehension as an owned value; sorted lists of texts are one. -/
namespace Z
open PySem PySem.Spec PyProof.Rows L2
section
variable {X : Cx} {ω : Bx}
end
/-! ### the order of texts -/
def leS (a b : Str) : Prop := ¬ b.cps.toList < a.cps.toList
theorem leS_trans {a b c : Str} (h1 : leS a b) (h2 : leS b c) : leS a c := by
  unfold leS at *
  exact List.not_lt.mpr (List.le_trans (List.not_lt.mp h1) (List.not_lt.mp h2))
theorem leS_anti {a b : Str} (h1 : leS a b) (h2 : leS b a) : a = b := by
  unfold leS at *
  exact TL.ext_tl (List.le_antisymm (List.not_lt.mp h1) (List.not_lt.mp h2))
theorem rising_pw : ∀ (p : Str) (l : List Str), risingS p l = true → (∀ x ∈ l, leS p x) ∧ l.Pairwise leS
  | _, [], _ => ⟨fun _ h => absurd h List.not_mem_nil, .nil⟩
  | p, x :: r, h => by
    have h : (!ltCps x.cps.toList p.cps.toList && risingS x r) = true := h
    rw [Bool.and_eq_true, ltCps_eq] at h
    have h1 : leS p x := by
      have := h.1
      simpa [leS] using this
    have ⟨h2, h3⟩ := rising_pw x r h.2
    refine ⟨fun y hy => ?_, List.pairwise_cons.mpr ⟨h2, h3⟩⟩
    rcases List.mem_cons.mp hy with e | e
    · rw [e]; exact h1
    · exact leS_trans h1 (h2 y e)
theorem sortedS_pw {l : List Str} (h : sortedS l = true) : l.Pairwise leS := by
  cases l with
  | nil => exact .nil
  | cons x r => exact List.pairwise_cons.mpr (rising_pw x r h)
/-- without doubles: strictly rising -/
theorem sortedS_lt {l : List Str} (h : sortedS l = true) (hn : l.Nodup) : l.Pairwise fun a b => a.cps.toList < b.cps.toList := by
  refine List.Pairwise.imp ?_ ((sortedS_pw h).and hn)
  intro a b ⟨h1, h2⟩
  rcases Decidable.em (a.cps.toList < b.cps.toList) with h3 | h3
  · exact h3
  · exact absurd (leS_anti h1 h3) h2
end Z

/-! Z32: an owned list given up: it is a value from there on. -/
namespace Z
open PySem PySem.Spec PyProof.Rows L2
theorem dropM_same {m : M} {p : Addr} : dropM m p p = none := if_pos rfl
end Z

/-! Z33: list(xs) as an owned list. -/
namespace Z
open PySem PySem.Spec PyProof.Rows L2
section
variable {X : Cx} {ω : Bx} {p pos : Pos} {e : Expr} {es : List Expr} {t : TA2}
end
end Z

/-! Z34: a dict that is never changed (.fdi), made by dict(..); its keys walked. -/
namespace Z
open PySem PySem.Spec PyProof.Rows L2
def fdD (l : List (Key × D)) : D := .fdi (l.map (·.1)) (l.map (·.2))
/-- the key, as a value -/
def keyV : Key → D | .inl i => .int i | .inr z => .str z
@[irreducible] def keysK (R : List D → (M → Prop) → M → Prop) (d : D) (m1 : M) : Prop := Box <| ∃ l, d = fdD l ∧ R (l.map fun p => keyV p.1) (fun _ => True) m1
section
variable {X : Cx} {ω : Bx} {p pos : Pos} {e tg : Expr} {es : List Expr} {t : TA2} {te : TE2}
end
theorem kLst_of {m : M} {Q : Kd} {x : D} {ds : List D} (e : itsD (res m x) = some ds) (q : Q (.lst ds) m) : kList [x] m Q := by
  unfold kList kIts
  refine ⟨?_⟩
  dsimp only
  cases h : res m x <;> rw [h] at e <;> first | (cases e; exact q) | cases e
/-! ### a comprehension with a test, both moving a state -/
end Z

/-! Z35: in, of plain data in a list or a tuple. -/
namespace Z
open PySem PySem.Spec PyProof.Rows L2
section
variable {X : Cx}
end
@[irreducible] def oInP (neg : Bool) : R22 := fun x y m Q => Box <| ∃ ds b, itsD (res m y) = some ds ∧ okD 60 (res m x) = true ∧ okDs 59 ds = true ∧ (ds.any fun z => eqD z (res m x)) = b ∧ Q (.bl (if neg then !b else b)) m
section
variable {X : Cx} {ω : Bx} {a b : Expr} {ta tb : TE2} {pos : Pos}
end
end Z

/-! Z36: numbers as rationals. -/
namespace Z
open PySem PySem.Spec PyProof.Rows L2
def qF (p : Fr) : Rat := (p.1 : Rat) / (p.2 : Rat)
theorem cast_ne {b : Int} (h : b ≠ 0) : (b : Rat) ≠ 0 := fun e => h (by exact_mod_cast e)
theorem qF_of {p : Fr} {a b : Int} (hp : p.2 ≠ 0) (hb : b ≠ 0) (e : p.1 * b = a * p.2) : qF p = (a : Rat) / b := by
  have h1 := cast_ne hp
  have h2 := cast_ne hb
  have h3 : (p.1 : Rat) * b = a * p.2 := by exact_mod_cast e
  unfold qF
  grind
theorem qF_low {a b : Int} (hb : 0 < b) : qF (lowP a b) = (a : Rat) / b := qF_of (by have := (lowP_lo (a := a) hb).1; omega) (by omega) (lowP_eq hb)
theorem qF_mk {a b : Int} (hb : b ≠ 0) : qF (mkP a b) = (a : Rat) / b := qF_of (by have := (mkP_lo (a := a) hb).1; omega) hb (mkP_eq hb)
theorem qF_less {p q : Fr} (hp : 0 < p.2) (hq : 0 < q.2) : qF (lessP p q) = qF p - qF q := by
  unfold lessP
  rw [qF_low (ovMul_pos hp hq)]
  have h1 := cast_ne (b := p.2) (by omega)
  have h2 := cast_ne (b := q.2) (by omega)
  unfold qF
  push_cast
  grind
theorem qF_times {p q : Fr} (hp : 0 < p.2) (hq : 0 < q.2) : qF (timesP p q) = qF p * qF q := by
  unfold timesP
  rw [qF_low (ovMul_pos hp hq)]
  have h1 := cast_ne (b := p.2) (by omega)
  have h2 := cast_ne (b := q.2) (by omega)
  unfold qF
  push_cast
  grind
theorem qF_share {p q : Fr} (hp : 0 < p.2) (hq : 0 < q.2) (h0 : q.1 ≠ 0) : qF (shareP p q) = qF p / qF q := by
  unfold shareP
  rw [qF_mk (Int.mul_ne_zero (by omega) h0)]
  have h1 := cast_ne (b := p.2) (by omega)
  have h2 := cast_ne (b := q.2) (by omega)
  have h3 := cast_ne h0
  unfold qF
  push_cast
  grind
theorem qF_inj {p q : Fr} (hp : Lo p) (hq : Lo q) (e : qF p = qF q) : p = q := by
  refine lo_same hp hq ?_
  have h1 := cast_ne (b := p.2) (by have := hp.1; omega)
  have h2 := cast_ne (b := q.2) (by have := hq.1; omega)
  unfold qF at e
  have h3 : (p.1 : Rat) * q.2 = q.1 * p.2 := by grind
  exact_mod_cast h3
end Z

/-! Z37: rationals as data. -/
namespace Z
open PySem PySem.Spec PyProof.Rows L2
def fr (a : Rat) : Fr := (a.num, (a.den : Int))
theorem fr_lo (a : Rat) : Lo (fr a) := ⟨by have := a.den_pos; show (0 : Int) < (a.den : Int); omega, a.reduced⟩
theorem qF_fr (a : Rat) : qF (fr a) = a := by
  have h := Rat.num_divInt_den a
  rw [Rat.divInt_eq_div] at h
  exact h
theorem fr_qF {p : Fr} (h : Lo p) : fr (qF p) = p := qF_inj (fr_lo _) h (qF_fr _)
theorem fr_pos (a : Rat) : 0 < (fr a).2 := (fr_lo a).1
theorem fr_less (a b : Rat) : lessP (fr a) (fr b) = fr (a - b) := by
  rw [← fr_qF (p := lessP (fr a) (fr b)) (lowP_lo (ovMul_pos (fr_pos a) (fr_pos b))), qF_less (fr_pos a) (fr_pos b), qF_fr, qF_fr]
theorem fr_times (a b : Rat) : timesP (fr a) (fr b) = fr (a * b) := by
  rw [← fr_qF (p := timesP (fr a) (fr b)) (lowP_lo (ovMul_pos (fr_pos a) (fr_pos b))), qF_times (fr_pos a) (fr_pos b), qF_fr, qF_fr]
theorem fr_num {a : Rat} : (fr a).1 = 0 ↔ a = 0 := by
  show a.num = 0 ↔ _
  exact Rat.num_eq_zero
theorem fr_share {a b : Rat} (h : b ≠ 0) : shareP (fr a) (fr b) = fr (a / b) := by
  have h0 : (fr b).1 ≠ 0 := fun e => h (fr_num.mp e)
  rw [← fr_qF (p := shareP (fr a) (fr b)) (mkP_lo (Int.mul_ne_zero (by have := fr_pos a; omega) h0)), qF_share (fr_pos a) (fr_pos b) h0, qF_fr, qF_fr]
theorem fr_low {i j : Int} (h : 0 < j) : lowP i j = fr ((i : Rat) / j) := by
  rw [← fr_qF (p := lowP i j) (lowP_lo h), qF_low h]
theorem fr_int (i : Int) : fr (i : Rat) = (i, 1) := by
  have h : Lo (i, 1) := ⟨by show (0 : Int) < 1; decide, Int.gcd_one_right i⟩
  rw [← fr_qF h]
  congr 1
  unfold qF
  grind
theorem fr_zero : fr 0 = (0, 1) := fr_int 0
theorem fr_one : fr 1 = (1, 1) := fr_int 1
/-- of n bits -/
def Sz (n : Nat) (a : Rat) : Prop := Bd n (fr a)
theorem Sz.mono {n k : Nat} {a : Rat} (h : Sz n a) (hk : n ≤ k := by decide) : Sz k a := Bd.mono h hk
theorem Sz.times {n k : Nat} {a b : Rat} (h1 : Sz n a) (h2 : Sz k b) : Sz (n + k) (a * b) := by
  unfold Sz
  rw [← fr_times]
  exact lowP_bd ⟨bdMul h1.1 h2.1, bdMul h1.2 h2.2⟩
theorem Sz.less {n k : Nat} {a b : Rat} (h1 : Sz n a) (h2 : Sz k b) : Sz (n + k + 1) (a - b) := by
  unfold Sz
  rw [← fr_less]
  refine lowP_bd ⟨?_, ?_⟩
  · exact bdSub (bdMul h1.1 h2.2) (by rw [Nat.add_comm n k]; exact bdMul h2.1 h1.2)
  · exact Nat.lt_of_lt_of_le (bdMul h1.2 h2.2) (Nat.pow_le_pow_right (by decide) (Nat.le_succ _))
theorem Sz.share {n k : Nat} {a b : Rat} (h1 : Sz n a) (h2 : Sz k b) (h : b ≠ 0) : Sz (n + k) (a / b) := by
  unfold Sz
  rw [← fr_share h]
  refine mkP_bd ⟨bdMul h1.1 h2.2, ?_⟩
  rw [Nat.add_comm]
  have := bdMul h2.1 h1.2
  rw [Int.mul_comm] at this
  exact this
theorem Sz.zero {n : Nat} (h : 0 < n) : Sz n 0 := by
  unfold Sz; rw [fr_zero]
  exact ⟨Nat.pow_pos (by decide), Nat.one_lt_two_pow (by omega)⟩
theorem Sz.one {n : Nat} (h : 0 < n) : Sz n 1 := by
  unfold Sz; rw [fr_one]
  exact ⟨Nat.one_lt_two_pow (by omega), Nat.one_lt_two_pow (by omega)⟩
end Z

/-! Z38: sorted of a tuple of ints; the number of unlike ints. -/
namespace Z
open PySem PySem.Spec PyProof.Rows L2
section
variable {pg : Program} {w : World} {A : Around} {Ee : Value → Shared → Prop} {z : Shared}
/-- a tuple's items, collected -/
theorem collectT {q : Addr} {us : List Value} {R : List Value → Shared → Prop} (hq : z.heap.IsTuple q us.toArray) (hz : us.length ≤ sizeLine)
    (h : R us { z with heap := (z.heap.push (seqObj "list" #[] 0)).update z.heap.objs.size (Obj.mapSeq (· ++ us.toArray)) }) : wpAny (model pg w) A (collect (.ref q)) R Ee z := by
  obtain ⟨ob, hob, hcl, k, hdt⟩ := id hq
  have e1 : (z.heap.push (seqObj "list" #[] 0)).get? q = some ob := Heap.get?_push_of_some _ hob
  have e2 : (z.heap.push (seqObj "list" #[] 0)).get? z.heap.objs.size = some (seqObj "list" #[] 0) := Heap.get?_push_size _ rfl
  unfold collect
  refine wpAny_bind (wpAny_runValue (codeAny_builtin entry_proto_collect' ?_))
  show wpAny _ _ (do again (.builtin "list.__iadd__" ⟨[← newList [], .ref q], []⟩)) _ _ z
  refine wpAny_bind (wpAny_newList (wpAny_pure ⟨Code.quiet_builtin _ (by decide +kernel), codeAny_builtin entry_list_iadd' ?_⟩))
  show wpAny _ _ (Builtin.List.listExtendWith (.ref z.heap.objs.size) (.ref q) (.ref z.heap.objs.size)) _ _ { z with heap := z.heap.push (seqObj "list" #[] 0) }
  unfold Builtin.List.listExtendWith
  refine wpAny_bind (wpAny_typeOf (T := "tuple") ⟨ob, e1, hcl⟩ ?_)
  rw [if_pos (by rw [show (Value.type "tuple" == Value.type "tuple") = true from rfl]; simp)]
  refine wpAny_bind (listItems_at e1 hdt ?_)
  refine wpAny_bind (listItems_at (xs := #[]) (n := 0) e2 rfl ?_)
  rw [if_neg (by simp)]
  refine wpAny_bind (listUpdate_at (xs := #[]) (n := 0) e2 rfl ?_ (Nat.zero_le _) ?_)
  rotate_left
  · show (#[] ++ us.toArray).size ≤ sizeLine + 1
    rw [Array.size_append, List.size_toArray]
    show 0 + us.length ≤ _
    omega
  refine wpAny_pure ?_
  refine wpAny_bind (wpAny_load (get?_update_seq e2 _) ?_)
  show wpAny _ _ (pure ((#[] : Array Value) ++ us.toArray).toList) R Ee _
  have e3 : ((#[] : Array Value) ++ us.toArray).toList = us := by simp
  rw [e3]
  exact wpAny_pure h
open SrtO Srt in
theorem sortedT {q : Addr} {us : List Value} {lv : Value → Value → Bool} {R : Value → Shared → Prop} (O : Swo lv) (hq : z.heap.IsTuple q us.toArray) (hz : us.length ≤ sizeLine)
    (hS : 2 ≤ us.length → ∀ (h1 : Heap) (a : Addr), h1.get? a = some (seqObj "list" us.toArray 0) → (∀ b o, z.heap.get? b = some o → b ≠ a ∧ h1.get? b = some o) → SortableO pg w A.in1.in1 { z with heap := h1 } a us lv)
    (h : ∀ out : List Value, Srtd lv out → Stb lv out us → R (.ref (z.heap.objs.size + 1)) { z with heap := sortedAll z.heap us out.toArray }) : wpAny (model pg w) A (call (.builtin "sorted") [.ref q]) R Ee z := by
  refine Calls.call_function_entry kind_sorted plain_sorted entry_sorted (args_sorted1 _) ?_
  unfold Builtin.«sorted»
  refine wpAny_bind (m := checkCount "sorted" 1 1 _) (wpAny_pure ?_)
  refine wpAny_bind (collectT hq hz ?_)
  refine wpAny_bind (wpAny_newList ?_ hz)
  obtain ⟨h2, e2⟩ : ∃ h2, h2 = (z.heap.push (seqObj "list" #[] 0)).update z.heap.objs.size (Obj.mapSeq (· ++ us.toArray)) := ⟨_, rfl⟩
  have es : h2.objs.size = z.heap.objs.size + 1 := by rw [e2, Heap.size_update, size_push']
  have eL : (h2.push (seqObj "list" us.toArray 0)).get? (z.heap.objs.size + 1) = some (seqObj "list" us.toArray 0) := by rw [← es]; exact Heap.get?_push_size _ rfl
  have kp : ∀ b o, z.heap.get? b = some o → b ≠ z.heap.objs.size + 1 ∧ (h2.push (seqObj "list" us.toArray 0)).get? b = some o := fun b o g => by
    have hl : b < z.heap.objs.size := Heap.lt_size g
    refine ⟨Nat.ne_of_lt (Nat.lt_succ_of_lt hl), Heap.get?_push_of_some _ ?_⟩
    rw [e2, Heap.get?_update_ne _ _ _ _ (Nat.ne_of_lt hl)]
    exact Heap.get?_push_of_some _ g
  rw [← e2]
  show wpAny _ _ _ _ _ { z with heap := h2.push (seqObj "list" us.toArray 0) }
  dsimp only
  rw [es]
  refine wpAny_bind (wpAny_holding (wpAny_call_entry slot_list_sort ⟨_, eL, rfl⟩ entry_list_sort (list_sort_ord O eL hz (fun g => hS g _ _ eL kp) fun out a b => ⟨_, rfl, ?_⟩) (args_list_sort _)))
  rw [e2]
  exact wpAny_pure ⟨_, rfl, h out a b⟩
end
/-- sorted of ints, in a list or a tuple, any number of them -/
@[irreducible] def sortIK (x : D) (m : M) (Q : Kd) : Prop := Box <| ∃ ns : List Int, itsD (res m x) = some (ns.map D.int) ∧ ∀ ms : List Int, ms.Perm ns → ms.Pairwise (· ≤ ·) → Q (.lst (ms.map D.int)) m
section
variable {X : Cx} {ω : Bx} {p pos : Pos} {e : Expr} {es : List Expr} {t : TA2}
end
/-! ### len(set(..)) of ints -/
theorem SetR.keys {w : World} {h : Heap} {a : Addr} {S : Int → Bool} {n : Nat} (R : SetR w h a S n) : ∃ ks : List Int, ks.Nodup ∧ (∀ k, k ∈ ks ↔ S k = true) ∧ ks.length = n := by
  obtain ⟨o, es, ep, t, _, _, _, _, nd, hm, _, _, hn, _⟩ := R
  exact ⟨es.toList.map L2.keyOf, nd, fun k => (hm k).symm, by rw [List.length_map, Array.length_toList]; exact hn⟩
@[irreducible] def lenSetK (x : D) (m : M) (Q : Kd) : Prop := Box <| ∃ ns : List Int, itsD (res m x) = some (ns.map D.int) ∧ ns.length + 1 < scanBound ∧ ∀ ks : List Int, ks.Nodup → (∀ k, k ∈ ks ↔ k ∈ ns) → Q (.int ks.length) m
end Z

/-! Z39: len(set(..)) of ints; calls by keywords; list.insert. -/
namespace Z
open PySem PySem.Spec PyProof.Rows L2
section
variable {X : Cx} {ω : Bx} {a : Expr} {ta : TE} {p p2 q pos : Pos}
end

/-! ### calls by keywords, in the parameters' order -/
def semK (X : Cx) (kws : List Keyword) : TA := fun σ H Q => ∀ (pos : Pos) pins s, Inv X pins σ H s → wpAny (model X.prog X.w) X.A (evalAll ((backToKw pos (keywordEach kws X.env)).map (·.2))) (AP X pins σ Q) X.xe s
theorem pk_sem {X : Cx} {kws : List Keyword} : PK X kws (semK X kws) := ⟨fun pos pins s σ H Q I h => h pos pins s I⟩
theorem semK.mono {X : Cx} {kws : List Keyword} {σ : St} {H : Hp} {Q Q' : List V → Hp → Prop} (h : semK X kws σ H Q) (k : ∀ v H', Q v H' → Q' v H') : semK X kws σ H Q' := fun pos pins s I => thn (h pos pins s I) fun _ _ ⟨v, H', a, b, c⟩ => ⟨v, H', a, b, k _ _ c⟩
structure PK2 (X : Cx) (ω : Bx) (kws : List Keyword) (t : TA2) : Prop where
  sem : ∀ {σ : St} {H : Hp} {g : Sl} {m : M} {Q : List D → M → Prop}, SlotOk X.K ω g σ (hid m H) → MemOk X.K m H → t g m Q → semK X kws σ H (P2A X.K m H Q)
section
variable {X : Cx} {ω : Bx} {e : Expr} {kws : List Keyword} {te : TE2} {t tk : TA2} {nm : Option Str} {kpos p pos : Pos}
theorem qk_nil : PK2 X ω [] tNil2 := ⟨fun S hm q pos pins s I => pk_nil.run pos pins s _ _ _ I ⟨[], _, .refl hm, .nil, q⟩⟩
theorem qk_cons (ha : PE2 X ω e te) (hr : PK2 X ω kws t) : PK2 X ω (⟨nm, e, kpos⟩ :: kws) (tCons2 te t) :=
  ⟨fun {σ H g m Q} S hm q pos pins s I => (pk_cons (nm := nm) (kpos := kpos) pe_sem pk_sem).run pos pins s σ H (P2A X.K m H Q) I
    ((ha.sem S hm q).mono fun x H1 ⟨d, m1, s1, r1, q1⟩ => (hr.sem (S.mono s1.ex) s1.mem q1).mono fun xs H2 ⟨ds, m2, s2, r2, q2⟩ => ⟨d :: ds, m2, s1.trans s2, .cons (r1.mono s2.ex) r2, q2⟩)⟩
/-- a def called with n things by place, the others by the names ks, in order -/
structure DefKw (P : Program) (w : World) (K : PySem.W.Frag) (mg : Str → Option Value) (base : Heap) (k : Nat) (x : Str) (sp : Sp2) (n : Nat) (ks : List Str) : Prop where
  ex : ∃ (f : Addr) (fd : FuncData) (ps : List Str), FnOk P w K mg base CX0 k f fd ps (lift K sp) ∧ mg x = some (.ref f) ∧ PySem.W.keepIn K (.ref f) = true ∧ ps ≠ [] ∧ ∀ (s : Shared) (us ws : List Value), K.In s.heap → us.length = n → (us ++ ws).length = ps.length → BindsTo s fd ⟨us, ks.zip ws⟩ (ps.zip (us ++ ws))
def arG {α : Type} (n : Nat) (us ws : List α) : List α := if us.length = n then us ++ ws else []
def tCallKU (sp : Sp2) (n : Nat) (t tk : TA2) : TE2 := fun g m Q => t g m fun ds m1 => tk g m1 fun es m2 => ds.length = n ∧ sp (ds ++ es) m2 Q no2
theorem kb_of {K : PySem.W.Frag} {fd : FuncData} {ps ks : List Str} {n : Nat} (h0 : ps ≠ []) (h : ∀ (s : Shared) (us ws : List Value), K.In s.heap → us.length = n → (us ++ ws).length = ps.length → BindsTo s fd ⟨us, ks.zip ws⟩ (ps.zip (us ++ ws))) : KBinds K fd ps ks (arG n) (arG n) := by
  refine ⟨fun s us ws hK hl => ?_, fun {vs us zs ws} r1 r2 => ?_⟩
  · unfold arG at hl ⊢
    by_cases hn : us.length = n
    · rw [if_pos hn] at hl ⊢; exact h s us ws hK hn hl
    · rw [if_neg hn] at hl; exact absurd (List.eq_nil_of_length_eq_zero hl.symm) h0
  · unfold arG
    rw [r1.length]
    split
    · exact r1.append r2
    · exact .nil
variable {k kk n : Nat} {sp : Sp2} {x : Str} {ks : List Str} {es : List Expr}
/-- all by names -/
theorem callK0U (D : DefKw X.prog X.w X.K X.mg X.base k x sp 0 ks) (hr : Room kk X.A) (hg : Gl X x) (hkw : PK2 X ω kws tk) (hk : k ≤ kk := by decide)
    (hall : (backToKw pos (keywordEach kws X.env)).all (·.1.isSome) = true := by rfl) (hks : (backToKw pos (keywordEach kws X.env)).filterMap (·.1) = ks := by rfl) (hdb : (x == ("__debug__" : Str)) = false := by decide)
    (hpl : ((backTo pos (starEach [] X.env)).any (·.1) || (backToKw pos (keywordEach kws X.env)).any (·.1.isNone)) = false := by rfl) : PE2 X ω (.Call (.Name x p) [] kws pos) (tCallKU sp 0 tNil2 tk) := by
  obtain ⟨f, fd, ps, F, h1, h2, h0, h3⟩ := D.ex
  refine ⟨fun {σ H g m Q} S hm q pins s I => ?_⟩
  refine wpAny_Call_Name_kw (ld_glob I hg h1 ?_ hdb)
  refine PySem.W.callWith_KW0 (h₀ := X.base) I.ok.mod.kin h2 hall (thn (hkw.sem S hm q pos pins s I) fun ws s2 ⟨zs, H2, I2, rz, ds, m2, s2', r2, hl, q2⟩ => ⟨I2.kIn, ?_⟩) hpl
  rw [hks]
  exact run_fnk (us := []) (vs := []) F (hr.mono hk) (kb_of (n := 0) h0 h3) pass0 I2 .nil rz ⟨ds, m2, Q, no2, s2'.mem, by show Reps _ _ (arG 0 [] zs) ds; exact r2, q2, fun v H' h => P2.go s2' h, fun _ _ _ _ h => h.elim⟩
end
end Z

/-! Z40: list.insert, pop(i), reverse; tuple.index of ints. -/
namespace Z
open PySem PySem.Spec PyProof.Rows L2
section
variable {K : PySem.W.Frag}
theorem Reps.erase {G : Hp} : ∀ {vs : List V} {ds : List D} (i : Nat), Reps K G vs ds → Reps K G (vs.eraseIdx i) (ds.eraseIdx i)
  | _, _, _, .nil => .nil
  | _, _, 0, .cons _ t => t
  | _, _, i + 1, .cons r t => .cons r (Reps.erase i t)
/-- the first place of an int in a tuple -/
@[irreducible] def idxTK (x y : D) (m : M) (Q : Kd) : Prop := Box <| ∃ (ns : List Int) (z : Int) (j : Nat), res m x = .tup (ns.map D.int) ∧ y = .int z ∧ ns[j]? = some z ∧ (∀ i, i < j → ns[i]? ≠ some z) ∧ Q (.int (j : Int)) m
end
/-! ### tuples known to be without a dict: made, joined, cut, asked -/
section
variable {X : Cx} {ω : Bx}
def PtA (H : Hp) (a : Addr) (xs : List V) : Prop := ∃ o : Obj, H a = some (.frz o (.tup xs)) ∧ o.dict = none
theorem PtA.t {K : PySem.W.Frag} {H : Hp} {a : Addr} {xs : List V} (h : PtA H a xs) : SqT K H a xs := let ⟨o, h1, _⟩ := h; .inl (.inr ⟨o, h1⟩)
/-- t + u of such tuples -/
@[irreducible] def oCatP : R22 := fun x y m Q => Box <| ∃ xs ys, x = .ptu xs ∧ y = .ptu ys ∧ xs.length + ys.length ≤ sizeLine ∧ Q (.ptu (xs ++ ys)) m
variable {a b e : Expr} {ta tb te : TE2} {pos : Pos}
end

@[irreducible] def sUP : D → Option Int → Option Int → M → Kd → Prop := fun x lo hi m Q => Box <| ∃ xs, x = .ptu xs ∧ Q (.ptu (Z.cutD xs lo hi)) m
section
variable {X : Cx} {ω : Bx} {o e : Expr} {es : List Expr} {te to : TE2} {p2 pos apos cpos : Pos} {lo hi : Option Expr} {tl th : TO2}
end
end Z

/-! Z41: ways that join behind an if; tuple(range(..)). -/
namespace Z
open PySem PySem.Spec PyProof.Rows L2
section
variable {X : Cx} {ω : Bx} {st : Stmt} {t : TS2}
end
/-! ### tuple(range(..)) -/
@[irreducible] def tupRgK (i j : Int) (m : M) (Q : Kd) : Prop := Box <| RgOk i j ∧ Q (.tup (rngD i (j - i).toNat)) m
section
variable {X : Cx} {ω : Bx} {a b : Expr} {ta tb : TE2} {p p2 pos pos2 : Pos}
end

/-! ### t + u of any tuples -/
@[irreducible] def oAddT : R22 := fun x y m Q => Box <| ∃ xs ys, res m x = .tup xs ∧ res m y = .tup ys ∧ xs.length + ys.length ≤ sizeLine ∧ Q (.tup (xs ++ ys)) m
theorem addT_of {m : M} {x y : D} {xs ys : List D} {Q : Kd} (h1 : res m x = .tup xs) (h2 : res m y = .tup ys) (h3 : xs.length + ys.length ≤ sizeLine) (q : Q (.tup (xs ++ ys)) m) : oAddT x y m Q := by unfold oAddT; exact ⟨⟨xs, ys, h1, h2, h3, q⟩⟩
section
variable {X : Cx} {ω : Bx} {a b : Expr} {ta tb : TE2} {pos : Pos}
theorem oAddT_U {x y : D} {m : M} {Q : Kd} (h : oAddT x y m Q) : oAddU x y m Q := by
  unfold oAddT at h
  obtain ⟨xs, ys, h1, h2, h3, q⟩ := h.out
  unfold oAddU
  rw [h1, h2]
  exact ⟨h3, q⟩
theorem addTU (ha : PE2 X ω a ta) (hb : PE2 X ω b tb) : PE2 X ω (.BinOp a .Add b pos) (tOp2 oAddT ta tb) := q_op op_addU (fun H m dx dy x y Q Q' hm rx ry h k => cv_addU H m dx dy x y Q Q' hm rx ry (oAddT_U h) k) ha hb
end
end Z

/-! Z42: drawing states of two numbers. -/
namespace Z
open PySem PySem.Spec PyProof.Rows L2
def DrB (ds : List D) : Prop := ∃ a b : Int, ds = [.int a, .int b] ∧ 0 ≤ a ∧ 0 ≤ b
def StB (p : Addr) (m m' : M) : Prop := ∃ ds, DrB ds ∧ m' = upM m p (.lst ds)
theorem StB.at {p : Addr} {m m' : M} (h : StB p m m') : ∃ ds, DrB ds ∧ m' p = some (.lst ds) := by
  obtain ⟨ds, h1, rfl⟩ := h
  exact ⟨ds, h1, upM_same⟩
theorem StB.self {p : Addr} {m m' : M} (h : StB p m m') : StB p m' m' := by
  obtain ⟨ds, h1, rfl⟩ := h
  exact ⟨ds, h1, upM_upM.symm⟩
theorem StB.trans {p : Addr} {m m' m2 : M} (h : StB p m m') (h2 : StB p m' m2) : StB p m m2 := by
  obtain ⟨ds, h1, rfl⟩ := h
  obtain ⟨ds2, h2, rfl⟩ := h2
  exact ⟨ds2, h2, upM_upM⟩
theorem StB.ne {p a : Addr} {m m' : M} (h : StB p m m') (ha : a ≠ p) : m' a = m a := by
  obtain ⟨ds, h1, rfl⟩ := h
  exact upM_ne ha
theorem StB.mk {p : Addr} {m : M} {ds : List D} (h : m p = some (.lst ds)) (s : DrB ds) : StB p m m := ⟨ds, s, by
  funext b
  by_cases e : b = p
  · subst e; rw [h, upM_same]
  · rw [upM_ne e]⟩
theorem StB.grow {p l : Addr} {m m' : M} {c c' : C} (h : StB p (upM m l c) m') (hne : l ≠ p) : StB p (upM m l c') (upM m' l c') := by
  obtain ⟨st, h1, rfl⟩ := h
  refine ⟨st, h1, ?_⟩
  rw [upM_comm hne.symm, upM_upM]
theorem StB.own {p l : Addr} {m m' : M} {c : C} (h : StB p (upM m l c) m') (hne : l ≠ p) : m' l = some c := by
  obtain ⟨st, h1, rfl⟩ := h
  rw [upM_ne hne, upM_same]
theorem StB.start {p l : Addr} {m : M} {c : C} (h : StB p m m) (hl : m l = none) : StB p (upM m l c) (upM m l c) ∧ l ≠ p := by
  obtain ⟨st, h1, h2⟩ := h.at
  have hne : p ≠ l := ne_ofM h2 hl
  exact ⟨StB.mk (by rw [upM_ne hne]; exact h2) h1, hne.symm⟩
theorem StB.drop {p l : Addr} {m m' : M} {c : C} (h : StB p (upM m l c) m') (hl : m l = none) : ∃ m2, Sub m2 m' ∧ StB p m m2 := by
  obtain ⟨st, h1, rfl⟩ := h
  refine ⟨upM m p (.lst st), fun a d q => ?_, st, h1, rfl⟩
  by_cases e : a = p
  · subst e
    rw [upM_same] at q ⊢
    exact q
  · rw [upM_ne e] at q ⊢
    rw [upM_ne (ne_ofM q hl)]
    exact q
/-- a list of one's own, by the way of which other ones were made and left -/
def Hold (p l : Addr) (m m' : M) (ds : List D) : Prop := l ≠ p ∧ m l = none ∧ m' l = some (.lst ds) ∧ ∃ st, DrB st ∧ m' p = some (.lst st) ∧ Sub (upM m p (.lst st)) m'
theorem Hold.at {p l : Addr} {m m' : M} {ds : List D} (h : Hold p l m m' ds) : m' l = some (.lst ds) := h.2.2.1
theorem Hold.self {p l : Addr} {m m' : M} {ds : List D} (h : Hold p l m m' ds) : StB p m' m' := by
  obtain ⟨_, _, _, st, h1, h2, _⟩ := h
  exact StB.mk h2 h1
theorem Hold.move {p l : Addr} {m m' m2 : M} {ds : List D} (h : Hold p l m m' ds) (hs : StB p m' m2) : Hold p l m m2 ds := by
  obtain ⟨a, b, c, st, h1, h2, h3⟩ := h
  obtain ⟨st2, k1, rfl⟩ := hs
  refine ⟨a, b, by rw [upM_ne a]; exact c, st2, k1, upM_same, fun x d q => ?_⟩
  by_cases e : x = p
  · subst e
    rw [upM_same] at q ⊢
    exact q
  · rw [upM_ne e] at q ⊢
    exact h3 x d (by rw [upM_ne e]; exact q)
theorem Hold.fresh {p l l2 : Addr} {m m' : M} {ds ds2 : List D} (h : Hold p l m m' ds) (hl : m' l2 = none) : Hold p l2 m (upM m' l2 (.lst ds2)) ds2 := by
  obtain ⟨a, b, c, st, h1, h2, h3⟩ := h
  have hne : l2 ≠ p := fun e => by rw [e, h2] at hl; cases hl
  have h4 : upM m p (.lst st) l2 = none := by
    cases e : upM m p (.lst st) l2 with
    | none => rfl
    | some d => rw [h3 _ _ e] at hl; cases hl
  refine ⟨hne, by rw [upM_ne hne] at h4; exact h4, upM_same, st, h1, by rw [upM_ne hne.symm]; exact h2, h3.up hl⟩
theorem Hold.drop {p l : Addr} {m m' : M} {ds : List D} (h : Hold p l m m' ds) : ∃ m2, Sub m2 m' ∧ StB p m m2 := by
  obtain ⟨_, _, _, st, h1, _, h3⟩ := h
  exact ⟨_, h3, st, h1, rfl⟩
end Z

/-! Z43: the greatest of a tuple of ints, with a default. -/
namespace Z
open PySem PySem.Spec PyProof.Rows L2
/-- the greatest of some whole numbers, c where there are none -/
def IsMax (c : Int) (ns : List Int) (M : Int) : Prop := (ns = [] → M = c) ∧ (ns ≠ [] → M ∈ ns ∧ ∀ z ∈ ns, z ≤ M)
/-- max(t, default=c) -/
@[irreducible] def maxDK (c : Int) (x : D) (m : M) (Q : Kd) : Prop := Box <| ∃ ns : List Int, res m x = .tup (ns.map D.int) ∧ ∀ M, IsMax c ns M → Q (.int M) m
section
variable {X : Cx} {ω : Bx} {e : Expr} {te : TE2} {p pos p2 kpos : Pos} {c : Int} {k j : Nat}
end
end Z

/-! Z44: an owned dict given up and locked: from then on it is never changed. -/
namespace Z
open PySem PySem.Spec PyProof.Rows L2
theorem Step.frz {K : PySem.W.Frag} {m : M} {H : Hp} {p : Addr} {c : C} {o : HO} (h : MemOk K m H) (hm : m p = some c) : Step K m H (Z.dropM m p) (upd H p o) := by
  have ne : ∀ a, m a = none → a ≠ p := fun a z q => by subst q; rw [hm] at z; cases z
  have dn : ∀ a, a ≠ p → Z.dropM m p a = m a := fun a q => if_neg q
  have e : Ex (hid m H) (hid (Z.dropM m p) (upd H p o)) := fun a u z => by
    obtain ⟨z1, z2⟩ := hid_some z
    exact hid_of (by rw [dn a (ne a z1)]; exact z1) (by rw [upd_ne (ne a z1)]; exact z2)
  refine ⟨fun a u h1 h2 => ⟨by rw [upd_ne (ne a h2)]; exact h1, by rw [dn a (ne a h2)]; exact h2⟩, fun a c' hc => ?_⟩
  have q : a ≠ p := fun q => by subst q; rw [Z.dropM_same] at hc; cases hc
  rw [dn a q] at hc
  exact (h a c' hc).mono (upd_ne q) e
end Z

/-! Z45: enumerate over a list or a tuple. -/
namespace Z
open PySem PySem.Spec PyProof.Rows L2
/-! ### on data -/
/-- numbered items, as enumerate yields them -/
def enumD (xs : List D) : List D := xs.zipIdx.map fun p => .tup [.int p.2, p.1]
@[irreducible] def enumK (R : List D → (M → Prop) → M → Prop) (a : D) (m1 : M) : Prop := Box <| match res m1 a with
  | .tup xs => R (enumD xs) (fun _ => True) m1
  | x => ∃ xs, lsD x = some xs ∧ R (enumD xs) (fun m' => lsD (res m' a) = some xs) m1
section
variable {X : Cx} {ω : Bx} {e : Expr}
theorem Reps.one {K : PySem.W.Frag} {G : Hp} {vs : List V} {a : D} (r : Reps K G vs [a]) : ∃ v, vs = [v] ∧ Rep K G v a := by
  cases r with
  | cons r1 r2 =>
    cases r2
    exact ⟨_, rfl, r1⟩
end
end Z

/-! Z46: tables told by functions: turning, what they say, how great their numbers are. -/
namespace Z
/-- a reckoning: rests by places, shares by variables -/
structure Ry where
  re : Nat → Rat
  sh : Int → Rat
structure Tb where
  own : List Int
  free : List Int
  row : Int → Ry
  goal : Nat → Ry
def sumF : List Int → (Int → Rat) → Rat
  | [], _ => 0
  | f :: r, g => g f + sumF r g
theorem sumF_congr {g h : Int → Rat} : ∀ {fs : List Int}, (∀ f ∈ fs, g f = h f) → sumF fs g = sumF fs h
  | [], _ => rfl
  | f :: r, k => by
    show g f + sumF r g = h f + sumF r h
    rw [k f List.mem_cons_self, sumF_congr fun x hx => k x (List.mem_cons_of_mem _ hx)]
theorem sumF_perm {g : Int → Rat} {fs gs : List Int} (h : fs.Perm gs) : sumF fs g = sumF gs g := by
  induction h with
  | nil => rfl
  | cons x _ ih => show _ + _ = _ + _; rw [ih]
  | swap x y l => show g y + (g x + sumF l g) = g x + (g y + sumF l g); grind
  | trans _ _ h1 h2 => exact h1.trans h2
theorem sumF_add {g h : Int → Rat} : ∀ {fs : List Int}, sumF fs (fun f => g f + h f) = sumF fs g + sumF fs h
  | [] => by show (0 : Rat) = 0 + 0; grind
  | f :: r => by show (g f + h f) + sumF r _ = (g f + sumF r g) + (h f + sumF r h); rw [sumF_add]; grind
theorem sumF_mul {g : Int → Rat} {a : Rat} : ∀ {fs : List Int}, sumF fs (fun f => a * g f) = a * sumF fs g
  | [] => by show (0 : Rat) = a * 0; grind
  | f :: r => by show a * g f + sumF r _ = a * (g f + sumF r g); rw [sumF_mul]; grind
theorem sumF_out {g : Int → Rat} {fs : List Int} {z : Int} (h : z ∈ fs) : sumF fs g = g z + sumF (fs.erase z) g := sumF_perm (List.perm_cons_erase h)
/-- one thing put in where it belongs -/
def insS (i : Int) : List Int → List Int
  | [] => [i]
  | x :: r => if i ≤ x then i :: x :: r else x :: insS i r
theorem insS_perm {i : Int} : ∀ {l : List Int}, (insS i l).Perm (i :: l)
  | [] => .refl _
  | x :: r => by
    unfold insS
    split
    · exact .refl _
    · exact (List.Perm.cons x insS_perm).trans (.swap i x r)
theorem insS_mem {i x : Int} {l : List Int} : x ∈ insS i l ↔ x = i ∨ x ∈ l := insS_perm.mem_iff.trans List.mem_cons
theorem insS_sorted {i : Int} : ∀ {l : List Int}, l.Pairwise (· < ·) → i ∉ l → (insS i l).Pairwise (· < ·)
  | [], _, _ => List.pairwise_singleton _ _
  | x :: r, h, hi => by
    have ⟨h1, h2⟩ := List.pairwise_cons.mp h
    unfold insS
    split
    · rename_i hx
      have hix : i < x := Int.lt_iff_le_and_ne.mpr ⟨hx, fun e => hi (e ▸ List.mem_cons_self)⟩
      exact List.pairwise_cons.mpr ⟨fun y hy => (List.mem_cons.mp hy).elim (fun e => e ▸ hix) fun hy => Int.lt_trans hix (h1 y hy), h⟩
    · rename_i hx
      refine List.pairwise_cons.mpr ⟨fun y hy => ?_, insS_sorted h2 fun h => hi (List.mem_cons_of_mem _ h)⟩
      rcases insS_mem.mp hy with e | hy
      · omega
      · exact h1 y hy
/-- what a reckoning comes to; u = 1 with its rest, u = 0 without -/
def ev (y : Ry) (c : Nat) (fs : List Int) (u : Rat) (v : Int → Rat) : Rat := y.re c * u + sumF fs fun f => y.sh f * v f
theorem ev_congr {y : Ry} {c : Nat} {fs : List Int} {u : Rat} {v w : Int → Rat} (h : ∀ f ∈ fs, v f = w f) : ev y c fs u v = ev y c fs u w := by
  unfold ev
  rw [sumF_congr (h := fun f => y.sh f * w f) fun f hf => by rw [h f hf]]
def swV (i z k : Int) : Int := if k = i then z else k
def solY (i z : Int) (y : Ry) : Ry := ⟨fun c => -1 / y.sh z * y.re c, fun f => if f = i then 1 / y.sh z else -1 / y.sh z * y.sh f⟩
def putY (i z : Int) (o y : Ry) : Ry := ⟨fun c => y.re c + y.sh z * o.re c, fun f => if f = i then y.sh z * o.sh i else y.sh f + y.sh z * o.sh f⟩
/-- a table turned by an own variable and a free one -/
def turnT (T : Tb) (i z : Int) : Tb where
  own := T.own.map (swV i z)
  free := insS i (T.free.erase z)
  row := fun x => if x = z then solY i z (T.row i) else putY i z (solY i z (T.row i)) (T.row x)
  goal := fun k => putY i z (solY i z (T.row i)) (T.goal k)
structure TbW (T : Tb) : Prop where
  nd : (T.own ++ T.free).Nodup
  inc : T.free.Pairwise (· < ·)
theorem TbW.ndo {T : Tb} (h : TbW T) : T.own.Nodup := (List.nodup_append.mp h.nd).1
theorem TbW.ndf {T : Tb} (h : TbW T) : T.free.Nodup := (List.nodup_append.mp h.nd).2.1
theorem TbW.dis {T : Tb} (h : TbW T) {i : Int} (h1 : i ∈ T.own) (h2 : i ∈ T.free) : False := (List.nodup_append.mp h.nd).2.2 i h1 i h2 rfl
theorem mem_swV {own : List Int} {i z x : Int} (hi : i ∈ own) : x ∈ own.map (swV i z) ↔ x = z ∨ (x ∈ own ∧ x ≠ i) := by
  refine ⟨fun h => ?_, fun h => ?_⟩
  · obtain ⟨v, hv, rfl⟩ := List.mem_map.mp h
    unfold swV
    by_cases e : v = i
    · rw [if_pos e]; exact .inl rfl
    · rw [if_neg e]; exact .inr ⟨hv, e⟩
  · rcases h with rfl | ⟨h1, h2⟩
    · exact List.mem_map.mpr ⟨i, hi, if_pos rfl⟩
    · exact List.mem_map.mpr ⟨x, h1, if_neg h2⟩
theorem swV_perm {own : List Int} {i z : Int} (hn : own.Nodup) (hi : i ∈ own) : (own.map (swV i z)).Perm (z :: own.erase i) := by
  refine ((List.perm_cons_erase hi).map (swV i z)).trans ?_
  rw [List.map_cons]
  have e : (own.erase i).map (swV i z) = own.erase i := (List.map_congr_left fun x hx => show swV i z x = id x from if_neg fun e => absurd (e ▸ hx) (by rw [hn.mem_erase_iff]; exact fun h => h.1 rfl)).trans (List.map_id _)
  rw [e, show swV i z i = z from if_pos rfl]
theorem mem_freeT {T : Tb} (h : TbW T) {i z x : Int} : x ∈ (turnT T i z).free ↔ x = i ∨ (x ∈ T.free ∧ x ≠ z) := by
  show x ∈ insS i (T.free.erase z) ↔ _
  rw [insS_mem, h.ndf.mem_erase_iff]
  exact ⟨fun k => k.imp id fun k => ⟨k.2, k.1⟩, fun k => k.imp id fun k => ⟨k.2, k.1⟩⟩
theorem turn_vars {T : Tb} (h : TbW T) {i z : Int} (hi : i ∈ T.own) (hz : z ∈ T.free) : (T.own ++ T.free).Perm ((turnT T i z).own ++ (turnT T i z).free) := by
  have h1 := swV_perm (z := z) h.ndo hi
  have h2 : (turnT T i z).free.Perm (i :: T.free.erase z) := insS_perm
  have h3 := List.perm_cons_erase hi
  have h4 := List.perm_cons_erase hz
  refine ((h3.append h4).trans ?_).trans (h1.append h2).symm
  refine List.Perm.trans (List.Perm.cons i List.perm_middle) ?_
  refine List.Perm.trans ?_ (List.Perm.cons z List.perm_middle.symm)
  exact .swap z i _
theorem TbW.turn {T : Tb} (h : TbW T) {i z : Int} (hi : i ∈ T.own) (hz : z ∈ T.free) : TbW (turnT T i z) :=
  ⟨(turn_vars h hi hz).nodup_iff.mp h.nd, insS_sorted (h.inc.sublist List.erase_sublist) fun k => h.dis hi (List.mem_of_mem_erase k)⟩
/-! ### what a table says -/
def Holds (T : Tb) (c : Nat) (u : Rat) (v : Int → Rat) : Prop := ∀ i ∈ T.own, v i = ev (T.row i) c T.free u v
theorem ev_sol {T : Tb} (h : TbW T) {i z : Int} (hi : i ∈ T.own) (hz : z ∈ T.free) {y : Ry} (ha : y.sh z ≠ 0) {c : Nat} {u : Rat} {v : Int → Rat} :
    v z = ev (solY i z y) c (turnT T i z).free u v ↔ v i = ev y c T.free u v := by
  unfold ev
  rw [sumF_perm (show (turnT T i z).free.Perm (i :: T.free.erase z) from insS_perm), sumF_out hz]
  have e : sumF (T.free.erase z) (fun f => (solY i z y).sh f * v f) = -1 / y.sh z * sumF (T.free.erase z) (fun f => y.sh f * v f) := by
    rw [← sumF_mul]
    refine sumF_congr fun f hf => ?_
    have : f ≠ i := fun e => h.dis hi (e ▸ List.mem_of_mem_erase hf)
    show (if f = i then _ else _) * v f = _
    rw [if_neg this]
    grind
  show v z = (-1 / y.sh z * y.re c) * u + ((if i = i then 1 / y.sh z else _) * v i + sumF (T.free.erase z) _) ↔ _
  rw [if_pos rfl, e]
  generalize sumF (T.free.erase z) (fun f => y.sh f * v f) = S
  constructor
  · intro k; grind
  · intro k; grind
theorem ev_put {T : Tb} (h : TbW T) {i z : Int} (hi : i ∈ T.own) (hz : z ∈ T.free) {o y : Ry} {c : Nat} {u : Rat} {v : Int → Rat} (k : v z = ev o c (turnT T i z).free u v) :
    ev (putY i z o y) c (turnT T i z).free u v = ev y c T.free u v := by
  unfold ev at k ⊢
  have hp : (turnT T i z).free.Perm (i :: T.free.erase z) := insS_perm
  rw [sumF_perm hp] at k
  rw [sumF_perm hp, sumF_out hz]
  have e : sumF (T.free.erase z) (fun f => (putY i z o y).sh f * v f) = sumF (T.free.erase z) (fun f => y.sh f * v f) + y.sh z * sumF (T.free.erase z) (fun f => o.sh f * v f) := by
    rw [← sumF_mul, ← sumF_add]
    refine sumF_congr fun f hf => ?_
    have : f ≠ i := fun e => h.dis hi (e ▸ List.mem_of_mem_erase hf)
    show (if f = i then _ else _) * v f = _
    rw [if_neg this]
    grind
  show (y.re c + y.sh z * o.re c) * u + ((if i = i then y.sh z * o.sh i else _) * v i + sumF (T.free.erase z) _) = _
  rw [if_pos rfl, e]
  replace k : v z = o.re c * u + (o.sh i * v i + sumF (T.free.erase z) (fun f => o.sh f * v f)) := k
  generalize sumF (T.free.erase z) (fun f => y.sh f * v f) = S at k ⊢
  generalize sumF (T.free.erase z) (fun f => o.sh f * v f) = R at k ⊢
  grind
/-- two tables that say the same -/
structure Eqv (T T' : Tb) : Prop where
  vars : (T.own ++ T.free).Perm (T'.own ++ T'.free)
  say : ∀ c u v, Holds T c u v ↔ Holds T' c u v
  goals : ∀ k c u v, Holds T c u v → ev (T.goal k) c T.free u v = ev (T'.goal k) c T'.free u v
theorem Eqv.refl (T : Tb) : Eqv T T := ⟨.refl _, fun _ _ _ => Iff.rfl, fun _ _ _ _ _ => rfl⟩
theorem Eqv.symm {T T' : Tb} (h : Eqv T T') : Eqv T' T := ⟨h.vars.symm, fun c u v => (h.say c u v).symm, fun k c u v hv => (h.goals k c u v ((h.say c u v).mpr hv)).symm⟩
theorem Eqv.trans {T T' T'' : Tb} (h : Eqv T T') (h2 : Eqv T' T'') : Eqv T T'' :=
  ⟨h.vars.trans h2.vars, fun c u v => (h.say c u v).trans (h2.say c u v), fun k c u v hv => (h.goals k c u v hv).trans (h2.goals k c u v ((h.say c u v).mp hv))⟩
theorem Eqv.turn {T : Tb} (h : TbW T) {i z : Int} (hi : i ∈ T.own) (hz : z ∈ T.free) (ha : (T.row i).sh z ≠ 0) : Eqv T (turnT T i z) := by
  have hzo : z ∉ T.own := fun k => h.dis k hz
  refine ⟨turn_vars h hi hz, fun c u v => ⟨fun hv x hx => ?_, fun hv x hx => ?_⟩, fun k c u v hv => ?_⟩
  · have hs := (ev_sol h hi hz ha (c := c)).mpr (hv i hi)
    show v x = ev (if x = z then _ else _) c _ u v
    rcases (mem_swV hi).mp hx with rfl | ⟨h1, h2⟩
    · rw [if_pos rfl]; exact hs
    · rw [if_neg fun (e : x = z) => hzo (e ▸ h1), ev_put h hi hz hs]
      exact hv x h1
  · have hs : v z = ev (solY i z (T.row i)) c (turnT T i z).free u v := by
      have := hv z ((mem_swV hi).mpr (.inl rfl))
      rw [show (turnT T i z).row z = solY i z (T.row i) from if_pos rfl] at this
      exact this
    by_cases e : x = i
    · subst e
      exact (ev_sol h hi hz ha).mp hs
    · have := hv x ((mem_swV hi).mpr (.inr ⟨hx, e⟩))
      rw [show (turnT T i z).row x = putY i z (solY i z (T.row i)) (T.row x) from if_neg fun (e : x = z) => hzo (e ▸ hx), ev_put h hi hz hs] at this
      exact this
  · have hs := (ev_sol h hi hz ha (c := c)).mpr (hv i hi)
    exact (ev_put h hi hz hs).symm
/-- the values of all by those of the free ones -/
def bas (T : Tb) (c : Nat) (u : Rat) (x : Int → Rat) (w : Int) : Rat := if w ∈ T.own then ev (T.row w) c T.free u x else x w
theorem bas_own {T : Tb} {c : Nat} {u : Rat} {x : Int → Rat} {w : Int} (h : w ∈ T.own) : bas T c u x w = ev (T.row w) c T.free u x := if_pos h
theorem bas_not {T : Tb} {c : Nat} {u : Rat} {x : Int → Rat} {w : Int} (h : w ∉ T.own) : bas T c u x w = x w := if_neg h
theorem bas_free {T : Tb} (hT : TbW T) {c : Nat} {u : Rat} {x : Int → Rat} {w : Int} (h : w ∈ T.free) : bas T c u x w = x w := bas_not fun k => hT.dis k h
theorem bas_ev {T : Tb} (hT : TbW T) {c : Nat} {u : Rat} {x : Int → Rat} {y : Ry} {d : Nat} {u' : Rat} : ev y d T.free u' (bas T c u x) = ev y d T.free u' x := ev_congr fun f hf => bas_free hT hf
theorem bas_holds {T : Tb} (hT : TbW T) (c : Nat) (u : Rat) (x : Int → Rat) : Holds T c u (bas T c u x) := fun i hi => by rw [bas_own hi, bas_ev hT]
theorem Eqv.mem {T T' : Tb} (E : Eqv T T') {w : Int} : w ∈ T.own ∨ w ∈ T.free ↔ w ∈ T'.own ∨ w ∈ T'.free := by
  have := E.vars.mem_iff (a := w)
  rwa [List.mem_append, List.mem_append] at this
end Z

/-! Z47: how great the numbers of a turned table are. -/
namespace Z
/-- a number over a given under, within n bits -/
def Ud (n : Nat) (d : Int) (a : Rat) : Prop := ∃ p : Int, a * (d : Rat) = (p : Rat) ∧ p.natAbs < 2 ^ n
theorem Ud.sz {n : Nat} {d : Int} {a : Rat} (h : Ud n d a) (h0 : 0 < d) (hd : d.natAbs < 2 ^ n) : Sz n a := by
  obtain ⟨p, e, hp⟩ := h
  have : (d : Rat) ≠ 0 := cast_ne (by omega)
  have ea : a = (p : Rat) / (d : Rat) := by grind
  unfold Sz
  rw [ea, ← fr_low h0]
  exact lowP_bd ⟨hp, hd⟩
/-- all numbers of a reckoning over one under, within n bits -/
def RB (n r : Nat) (fs : List Int) (y : Ry) : Prop := ∃ d : Int, 0 < d ∧ d.natAbs < 2 ^ n ∧ (∀ c, c < r → Ud n d (y.re c)) ∧ ∀ f ∈ fs, Ud n d (y.sh f)
theorem RB.re {n r c : Nat} {fs : List Int} {y : Ry} (h : RB n r fs y) (hc : c < r) : Sz n (y.re c) := by
  obtain ⟨d, h0, hd, h1, _⟩ := h
  exact (h1 c hc).sz h0 hd
theorem RB.sh {n r : Nat} {f : Int} {fs : List Int} {y : Ry} (h : RB n r fs y) (hf : f ∈ fs) : Sz n (y.sh f) := by
  obtain ⟨d, h0, hd, _, h1⟩ := h
  exact (h1 f hf).sz h0 hd
theorem RB.same {n r : Nat} {fs : List Int} {y z : Ry} (h : RB n r fs y) (h1 : ∀ c, y.re c = z.re c) (h2 : ∀ f ∈ fs, y.sh f = z.sh f) : RB n r fs z := by
  obtain ⟨d, h0, hd, k1, k2⟩ := h
  exact ⟨d, h0, hd, fun c hc => h1 c ▸ k1 c hc, fun f hf => h2 f hf ▸ k2 f hf⟩
theorem mulB {n k : Nat} {p q : Int} (hp : p.natAbs < 2 ^ n) (hq : q.natAbs < 2 ^ k) : (p * q).natAbs < 2 ^ (n + k) := by
  rw [Int.natAbs_mul, Nat.pow_add]
  exact Nat.mul_lt_mul'' hp hq
theorem lt_up {a n k : Nat} (h : a < 2 ^ n) (hk : n ≤ k) : a < 2 ^ k := Nat.lt_of_lt_of_le h (Nat.pow_le_pow_right (by decide) hk)
theorem addB {n : Nat} {p q : Int} (hp : p.natAbs < 2 ^ n) (hq : q.natAbs < 2 ^ n) : (p + q).natAbs < 2 ^ (n + 1) := by
  rw [Nat.pow_succ]
  have := Int.natAbs_add_le p q
  omega
theorem RB.mono {n k r : Nat} {fs : List Int} {y : Ry} (h : RB n r fs y) (hk : n ≤ k) : RB k r fs y := by
  obtain ⟨d, h0, hd, h1, h2⟩ := h
  exact ⟨d, h0, lt_up hd hk, fun c hc => let ⟨p, e, hp⟩ := h1 c hc; ⟨p, e, lt_up hp hk⟩, fun f hf => let ⟨p, e, hp⟩ := h2 f hf; ⟨p, e, lt_up hp hk⟩⟩
theorem RB.sol {T : Tb} (h : TbW T) {i z : Int} (hz : z ∈ T.free) {n r : Nat} {y : Ry} (ha : y.sh z ≠ 0) (k : RB n r T.free y) : RB n r (turnT T i z).free (solY i z y) := by
  obtain ⟨d, h0, hd, h1, h2⟩ := k
  obtain ⟨pz, ez, hpz⟩ := h2 z hz
  have hd0 : (d : Rat) ≠ 0 := cast_ne (by omega)
  have hp0 : pz ≠ 0 := fun e => by
    subst e
    have : y.sh z * (d : Rat) = 0 := by rw [ez]; rfl
    grind
  have hp1 : (pz : Rat) ≠ 0 := cast_ne hp0
  -- the sign
  obtain ⟨s, hs, es⟩ : ∃ s : Int, (s = 1 ∨ s = -1) ∧ 0 < s * pz := by
    rcases Int.lt_or_gt_of_ne hp0 with k | k
    · exact ⟨-1, .inr rfl, by omega⟩
    · exact ⟨1, .inl rfl, by omega⟩
  have ab : ∀ p : Int, (s * p).natAbs = p.natAbs := fun p => by
    rcases hs with rfl | rfl
    · rw [Int.one_mul]
    · omega
  have ss : (s : Rat) * (s : Rat) = 1 := by rcases hs with rfl | rfl <;> decide +kernel
  have un : ∀ x : Rat, Ud n d x → Ud n (s * pz) (-1 / y.sh z * x) := fun x ⟨p, e, hp⟩ => by
    refine ⟨-(s * p), ?_, by rw [Int.natAbs_neg, ab]; exact hp⟩
    push_cast
    have : y.sh z = (pz : Rat) / d := by grind
    rw [this]
    grind
  have u1 : Ud n (s * pz) (1 / y.sh z) := by
    refine ⟨s * d, ?_, by rw [ab]; exact hd⟩
    push_cast
    have : y.sh z = (pz : Rat) / d := by grind
    rw [this]
    grind
  refine ⟨s * pz, es, by rw [ab]; exact hpz, fun c hc => un _ (h1 c hc), fun f hf => ?_⟩
  show Ud n (s * pz) (if f = i then 1 / y.sh z else -1 / y.sh z * y.sh f)
  by_cases e : f = i
  · rw [if_pos e]; exact u1
  · rw [if_neg e]
    exact un _ (h2 f (((mem_freeT h).mp hf).resolve_left e).1)
theorem RB.put {T : Tb} (h : TbW T) {i z : Int} (hz : z ∈ T.free) {n r : Nat} {o y : Ry} (ko : RB n r (turnT T i z).free o) (k : RB n r T.free y) : RB (2 * n + 1) r (turnT T i z).free (putY i z o y) := by
  obtain ⟨d, h0, hd, h1, h2⟩ := k
  obtain ⟨e, g0, ge, g1, g2⟩ := ko
  obtain ⟨pb, eb, hb⟩ := h2 z hz
  have nn : n + n = 2 * n := by omega
  have add : ∀ x w : Rat, Ud n d x → Ud n e w → Ud (2 * n + 1) (d * e) (x + y.sh z * w) := fun x w ⟨p, e1, hp⟩ ⟨q, e2, hq⟩ => by
    refine ⟨p * e + pb * q, ?_, addB (by rw [← nn]; exact mulB hp ge) (by rw [← nn]; exact mulB hb hq)⟩
    push_cast
    grind
  have tim : ∀ w : Rat, Ud n e w → Ud (2 * n + 1) (d * e) (y.sh z * w) := fun w ⟨q, e2, hq⟩ => by
    refine ⟨pb * q, ?_, lt_up (mulB hb hq) (by omega)⟩
    push_cast
    grind
  refine ⟨d * e, Int.mul_pos h0 g0, lt_up (mulB hd ge) (by omega), fun c hc => add _ _ (h1 c hc) (g1 c hc), fun f hf => ?_⟩
  show Ud _ _ (if f = i then y.sh z * o.sh i else y.sh f + y.sh z * o.sh f)
  by_cases e1 : f = i
  · rw [if_pos e1]; exact tim _ (g2 i (e1 ▸ hf))
  · rw [if_neg e1]
    exact add _ _ (h2 f (((mem_freeT h).mp hf).resolve_left e1).1) (g2 f hf)
/-- a table whose reckonings are within n bits -/
structure TB (n r g : Nat) (T : Tb) : Prop where
  row : ∀ i ∈ T.own, RB n r T.free (T.row i)
  goal : ∀ k, k < g → RB n r T.free (T.goal k)
theorem TB.mono {n k r g : Nat} {T : Tb} (h : TB n r g T) (hk : n ≤ k) : TB k r g T := ⟨fun i hi => (h.row i hi).mono hk, fun j hj => (h.goal j hj).mono hk⟩
theorem TB.turn {T : Tb} (h : TbW T) {i z : Int} (hi : i ∈ T.own) (hz : z ∈ T.free) (ha : (T.row i).sh z ≠ 0) {n r g : Nat} (k : TB n r g T) : TB (2 * n + 1) r g (turnT T i z) := by
  have ks := (k.row i hi).sol h (i := i) hz ha
  refine ⟨fun x hx => ?_, fun j hj => RB.put h hz ks (k.goal j hj)⟩
  show RB _ r _ (if x = z then _ else _)
  rcases (mem_swV hi).mp hx with e | ⟨h1, h2⟩
  · rw [if_pos e]; exact ks.mono (by omega)
  · rw [if_neg fun (e : x = z) => h.dis (e ▸ h1) hz]
    exact RB.put h hz ks (k.row x h1)
end Z

/-! Z48: the least-variable rule goes round in no ring. -/
namespace Z
/-- the sign of the first number that isn't 0 -/
def lsg : List Rat → Int
  | [] => 0
  | a :: r => if a < 0 then -1 else if 0 < a then 1 else lsg r
section
variable {α : Type}
theorem lsg_zero {js : List α} {x : α → Rat} (h : ∀ j ∈ js, x j = 0) : lsg (js.map x) = 0 := by
  induction js with
  | nil => rfl
  | cons j r ih =>
    rw [List.map_cons]
    unfold lsg
    rw [h j List.mem_cons_self, if_neg (by decide), if_neg (by decide)]
    exact ih fun k hk => h k (List.mem_cons_of_mem _ hk)
/-- a sum of two that aren't below noughts -/
theorem lsg_add {js : List α} {x y : α → Rat} (h1 : 0 ≤ lsg (js.map x)) (h2 : 0 ≤ lsg (js.map y)) : 0 ≤ lsg (js.map fun j => x j + y j) ∧ (0 < lsg (js.map x) ∨ 0 < lsg (js.map y) → 0 < lsg (js.map fun j => x j + y j)) := by
  induction js with
  | nil => exact ⟨Int.le_refl _, fun h => h.elim id id⟩
  | cons j r ih =>
    rw [List.map_cons] at h1 h2 ⊢
    rw [List.map_cons, List.map_cons]
    unfold lsg at h1 h2 ⊢
    split at h1
    · exact absurd h1 (by decide)
    · split at h2
      · exact absurd h2 (by decide)
      · rename_i a1 b1
        rw [if_neg (show ¬ (x j + y j < 0) by grind), if_neg a1, if_neg b1]
        by_cases hx : 0 < x j
        · rw [if_pos (show 0 < x j + y j by grind)]
          exact ⟨by decide, fun _ => by decide⟩
        · by_cases hy : 0 < y j
          · rw [if_pos (show 0 < x j + y j by grind)]
            exact ⟨by decide, fun _ => by decide⟩
          · rw [if_neg hx] at h1
            rw [if_neg hy] at h2
            rw [if_neg (show ¬ (0 < x j + y j) by grind), if_neg hx, if_neg hy]
            exact ih h1 h2
theorem lsg_pos {js : List α} {x : α → Rat} {k : Rat} (hk : 0 < k) : lsg (js.map fun j => k * x j) = lsg (js.map x) := by
  induction js with
  | nil => rfl
  | cons j r ih =>
    rw [List.map_cons, List.map_cons]
    unfold lsg
    rw [ih]
    have e1 : k * x j < 0 ↔ x j < 0 := ⟨fun h => by
      refine Rat.not_le.mp fun h2 => ?_
      have := Rat.mul_nonneg (Rat.le_of_lt hk) h2
      grind, fun h => by have := Rat.mul_pos hk (show 0 < -(x j) by grind); grind⟩
    have e2 : 0 < k * x j ↔ 0 < x j := ⟨fun h => by
      refine Rat.not_le.mp fun h2 => ?_
      have := Rat.mul_nonneg (Rat.le_of_lt hk) (show 0 ≤ -(x j) by grind)
      grind, fun h => Rat.mul_pos hk h⟩
    simp only [e1, e2]
theorem lsg_neg {js : List α} {x : α → Rat} : lsg (js.map fun j => -x j) = -lsg (js.map x) := by
  induction js with
  | nil => rfl
  | cons j r ih =>
    rw [List.map_cons, List.map_cons]
    unfold lsg
    rw [ih]
    by_cases h1 : x j < 0
    · rw [if_neg (show ¬ (-x j < 0) by grind), if_pos (show 0 < -x j by grind), if_pos h1]; rfl
    · by_cases h2 : 0 < x j
      · rw [if_pos (show -x j < 0 by grind), if_neg h1, if_pos h2]
      · rw [if_neg (show ¬ (-x j < 0) by grind), if_neg (show ¬ (0 < -x j) by grind), if_neg h1, if_neg h2]
theorem lsg_congr {js : List α} {x y : α → Rat} (h : ∀ j ∈ js, x j = y j) : lsg (js.map x) = lsg (js.map y) := by rw [List.map_congr_left h]
theorem lsg_nonneg_mul {js : List α} {x : α → Rat} {k : Rat} (hk : 0 ≤ k) (h : 0 ≤ lsg (js.map x)) : 0 ≤ lsg (js.map fun j => k * x j) := by
  by_cases h0 : k = 0
  · rw [lsg_zero fun j _ => by rw [h0]; grind]; decide
  · rw [lsg_pos (by grind)]; exact h
end
/-- below noughts where the goals look first: a free variable draws -/
def dr (g : Nat) (T : Tb) (f : Int) : Prop := lsg ((List.range g).map fun k => (T.goal k).sh f) < 0
def lim (T : Tb) (z m : Int) (c : Nat) : Rat := -1 / (T.row m).sh z * (T.row m).re c
def Sound (r : Nat) (T : Tb) : Prop := ∀ i ∈ T.own, 0 ≤ lsg ((List.range r).map (T.row i).re)
/-- how two own variables stand that might go out -/
def lcm2 (r : Nat) (T : Tb) (z i m : Int) : Int := lsg ((List.range r).map fun c => lim T z i c - lim T z m c)
structure DueT (r g : Nat) (T : Tb) (i z : Int) : Prop where
  hz : z ∈ T.free
  draws : dr g T z
  first : ∀ f ∈ T.free, f < z → ¬ dr g T f
  hi : i ∈ T.own
  neg : (T.row i).sh z < 0
  least : ∀ m ∈ T.own, (T.row m).sh z < 0 → lcm2 r T z i m < 0 ∨ lcm2 r T z i m = 0 ∧ i ≤ m
theorem DueT.ne {r g : Nat} {T : Tb} {i z : Int} (h : DueT r g T i z) : (T.row i).sh z ≠ 0 := by have := h.neg; grind
theorem inv_pos {a : Rat} (h : a < 0) : 0 < -1 / a := by
  have := Rat.inv_pos.mpr (show 0 < -a by grind)
  have e : -1 / a = (-a)⁻¹ := by grind
  rw [e]; exact this
theorem lim_sg {T : Tb} {z m : Int} {r : Nat} (h : (T.row m).sh z < 0) : lsg ((List.range r).map (lim T z m)) = lsg ((List.range r).map (T.row m).re) := lsg_pos (inv_pos h)
theorem turn_z {T : Tb} {i z : Int} : (turnT T i z).row z = solY i z (T.row i) := if_pos rfl
theorem turn_x {T : Tb} {i z x : Int} (h : x ≠ z) : (turnT T i z).row x = putY i z (solY i z (T.row i)) (T.row x) := if_neg h
/-- a sound table turned as is due is sound -/
theorem Sound.turn {r g : Nat} {T : Tb} {i z : Int} (hT : TbW T) (h : Sound r T) (d : DueT r g T i z) : Sound r (turnT T i z) := by
  have hL : 0 ≤ lsg ((List.range r).map (lim T z i)) := by rw [lim_sg d.neg]; exact h i d.hi
  intro x hx
  rcases (mem_swV d.hi).mp hx with rfl | ⟨h1, h2⟩
  · rw [turn_z]; exact hL
  · rw [turn_x fun (e : x = z) => hT.dis (e ▸ h1) d.hz]
    show 0 ≤ lsg ((List.range r).map fun c => (T.row x).re c + (T.row x).sh z * lim T z i c)
    by_cases hs : (T.row x).sh z < 0
    · have h3 : 0 ≤ lsg ((List.range r).map fun c => lim T z x c - lim T z i c) := by
        have e : lsg ((List.range r).map fun c => lim T z x c - lim T z i c) = -lcm2 r T z i x := by
          unfold lcm2
          rw [← lsg_neg]
          exact lsg_congr fun c _ => by grind
        rw [e]
        rcases d.least x h1 hs with k | ⟨k, _⟩ <;> omega
      rw [lsg_congr (y := fun c => -(T.row x).sh z * (lim T z x c - lim T z i c)) fun c _ => by
        have : (T.row x).sh z ≠ 0 := by grind
        unfold lim
        grind]
      exact lsg_nonneg_mul (by grind) h3
    · exact (lsg_add (h x h1) (lsg_nonneg_mul (by grind) hL)).1
/-! ### the goals fall, or all stays where it is -/
/-- a row of due turns -/
structure Seq (r g n : Nat) (S : Nat → Tb) (I Z : Nat → Int) : Prop where
  w : ∀ k, k ≤ n → TbW (S k)
  s : ∀ k, k ≤ n → Sound r (S k)
  due : ∀ k, k < n → DueT r g (S k) (I k) (Z k)
  step : ∀ k, k < n → S (k + 1) = turnT (S k) (I k) (Z k)
section
variable {r g n : Nat} {S : Nat → Tb} {I Zz : Nat → Int}
theorem Seq.eqv (Q : Seq r g n S I Zz) : ∀ b, b ≤ n → Eqv (S 0) (S b)
  | 0, _ => .refl _
  | b + 1, h => by
    have d := Q.due b h
    rw [Q.step b h]
    exact (Q.eqv b (Nat.le_of_lt h)).trans (Eqv.turn (Q.w b (Nat.le_of_lt h)) d.hi d.hz d.ne)
theorem Seq.stay (Q : Seq r g n S I Zz) {a : Nat} {w : Int} (hw : w ∈ (S a).own) : ∀ d, a + d ≤ n → (∀ k, a ≤ k → k < a + d → I k ≠ w) → w ∈ (S (a + d)).own
  | 0, _, _ => hw
  | d + 1, h, k => by
    have ih := Q.stay hw d (by omega) fun j h1 h2 => k j h1 (by omega)
    have hd := Q.due (a + d) (by omega)
    rw [show a + (d + 1) = a + d + 1 from rfl, Q.step (a + d) (by omega)]
    exact (mem_swV hd.hi).mpr (.inr ⟨ih, fun e => k (a + d) (by omega) (by omega) e.symm⟩)
theorem Seq.off (Q : Seq r g n S I Zz) {a : Nat} {w : Int} (hw : w ∉ (S a).own) : ∀ d, a + d ≤ n → (∀ k, a ≤ k → k < a + d → Zz k ≠ w) → w ∉ (S (a + d)).own
  | 0, _, _ => hw
  | d + 1, h, k => by
    have ih := Q.off hw d (by omega) fun j h1 h2 => k j h1 (by omega)
    have hd := Q.due (a + d) (by omega)
    rw [show a + (d + 1) = a + d + 1 from rfl, Q.step (a + d) (by omega)]
    intro hm
    rcases (mem_swV hd.hi).mp hm with e | ⟨h1, _⟩
    · exact k (a + d) (by omega) (by omega) e.symm
    · exact ih h1
theorem Seq.left (Q : Seq r g n S I Zz) {a b : Nat} {w : Int} (hab : a ≤ b) (hb : b ≤ n) (h1 : w ∈ (S a).own) (h2 : w ∉ (S b).own) : ∃ k, a ≤ k ∧ k < b ∧ I k = w := Classical.byContradiction fun no => by
  have := Q.stay h1 (b - a) (by omega) fun k k1 k2 e => no ⟨k, k1, by omega, e⟩
  rw [show a + (b - a) = b by omega] at this
  exact h2 this
theorem Seq.not_own (Q : Seq r g n S I Zz) {k : Nat} (hk : k < n) : Zz k ∉ (S k).own := fun h => (Q.w k (Nat.le_of_lt hk)).dis h (Q.due k hk).hz
theorem Seq.out (Q : Seq r g n S I Zz) {k : Nat} (hk : k < n) : I k ∉ (S (k + 1)).own := fun h => by
  rw [Q.step k hk] at h
  rcases (mem_swV (Q.due k hk).hi).mp h with e | ⟨_, h2⟩
  · exact Q.not_own hk (e ▸ (Q.due k hk).hi)
  · exact h2 rfl
end
end Z

/-! Z49: rows of due turns end; what is due is one. -/
namespace Z
def runT (T : Tb) (ts : List (Int × Int)) : Tb := ts.foldl (fun T p => turnT T p.1 p.2) T
def Dues (r g : Nat) (T : Tb) (ts : List (Int × Int)) : Prop := ∀ k p, ts[k]? = some p → DueT r g (runT T (ts.take k)) p.1 p.2
theorem runT_app {T : Tb} {xs ys : List (Int × Int)} : runT T (xs ++ ys) = runT (runT T xs) ys := List.foldl_append
theorem runT_one {T : Tb} {xs : List (Int × Int)} {p : Int × Int} : runT T (xs ++ [p]) = turnT (runT T xs) p.1 p.2 := runT_app
theorem Dues.nil {r g : Nat} {T : Tb} : Dues r g T [] := fun k p h => by simp at h
theorem Dues.snoc {r g : Nat} {T : Tb} {ts : List (Int × Int)} {p : Int × Int} (h : Dues r g T ts) (d : DueT r g (runT T ts) p.1 p.2) : Dues r g T (ts ++ [p]) := fun k q hq => by
  by_cases hk : k < ts.length
  · rw [List.getElem?_append_left hk] at hq
    rw [List.take_append_of_le_length (Nat.le_of_lt hk)]
    exact h k q hq
  · rw [List.getElem?_append_right (by omega)] at hq
    have hl := (List.getElem?_eq_some_iff.mp hq).1
    have e : k = ts.length := by simp at hl; omega
    subst e
    rw [Nat.sub_self] at hq
    cases hq
    rw [List.take_left']
    · exact d
    · rfl
/-- all the way: tables, sound, that say the same -/
structure Way (r : Nat) (T T' : Tb) : Prop where
  w : TbW T'
  s : Sound r T'
  e : Eqv T T'
theorem Way.self {r : Nat} {T : Tb} (w : TbW T) (s : Sound r T) : Way r T T := ⟨w, s, .refl _⟩
theorem Way.turn {r g : Nat} {T T' : Tb} {i z : Int} (h : Way r T T') (d : DueT r g T' i z) : Way r T (turnT T' i z) := ⟨h.w.turn d.hi d.hz, h.s.turn h.w d, h.e.trans (Eqv.turn h.w d.hi d.hz d.ne)⟩
theorem runT_take {T : Tb} {ts : List (Int × Int)} {k : Nat} {p : Int × Int} (h : ts[k]? = some p) : runT T (ts.take (k + 1)) = turnT (runT T (ts.take k)) p.1 p.2 := by
  obtain ⟨hl, e⟩ := List.getElem?_eq_some_iff.mp h
  rw [List.take_succ_eq_append_getElem hl, runT_one, e]
theorem Dues.way {r g : Nat} {T : Tb} {ts : List (Int × Int)} (w : TbW T) (s : Sound r T) (h : Dues r g T ts) : ∀ k, k ≤ ts.length → Way r T (runT T (ts.take k))
  | 0, _ => .self w s
  | k + 1, hk => by
    have e : ts[k]? = some ts[k] := List.getElem?_eq_getElem hk
    rw [runT_take e]
    exact (h.way w s k (Nat.le_of_lt hk)).turn (h k _ e)
theorem Dues.end {r g : Nat} {T : Tb} {ts : List (Int × Int)} (w : TbW T) (s : Sound r T) (h : Dues r g T ts) : Way r T (runT T ts) := by
  have := h.way w s ts.length (Nat.le_refl _)
  rwa [List.take_length] at this
/-- a row of a table over one under -/
theorem DueT.one {r g : Nat} {T : Tb} {i z i' z' : Int} (h : DueT r g T i z) (h' : DueT r g T i' z') : i = i' ∧ z = z' := by
  have ez : z = z' := by
    rcases Int.lt_trichotomy z z' with k | k | k
    · exact absurd h.draws (h'.first z h.hz k)
    · exact k
    · exact absurd h'.draws (h.first z' h'.hz k)
  subst ez
  have e1 := h.least i' h'.hi h'.neg
  have e2 := h'.least i h.hi h.neg
  have e3 : lcm2 r T z i' i = -lcm2 r T z i i' := by
    unfold lcm2
    rw [← lsg_neg]
    exact lsg_congr fun c _ => by grind
  rw [e3] at e2
  exact ⟨by omega, rfl⟩
end Z

/-! Z50: calls by keywords of defs that may raise. -/
namespace Z
open PySem PySem.Spec PyProof.Rows L2
structure DefKwX (P : Program) (w : World) (K : PySem.W.Frag) (mg : Str → Option Value) (base : Heap) (k : Nat) (x : Str) (sp : Sp2) (n : Nat) (ks : List Str) : Prop where
  ex : ∃ (f : Addr) (fd : FuncData) (ps : List Str), FnOk P w K mg base (L2.CX P w) k f fd ps (lift K sp) ∧ mg x = some (.ref f) ∧ PySem.W.keepIn K (.ref f) = true ∧ ps ≠ [] ∧ ∀ (s : Shared) (us ws : List Value), K.In s.heap → us.length = n → (us ++ ws).length = ps.length → BindsTo s fd ⟨us, ks.zip ws⟩ (ps.zip (us ++ ws))
section
variable {X : Cx} {ω : Bx} {k kk n : Nat} {sp : Sp2} {x : Str} {ks : List Str} {e : Expr} {es : List Expr} {kws : List Keyword} {t tk : TA2} {p pos : Pos}
end
end Z

/-! Z51: zip of a list and a tuple, in any mix. -/
namespace Z
open PySem PySem.Spec PyProof.Rows L2
def IsSq (b : Bool) (h : Heap) (a : Addr) (items : Array Value) : Prop := match b with | true => h.IsTuple a items | false => h.IsList a items
def IsIt (b : Bool) (h : Heap) (it a : Addr) (i : Nat) : Prop := match b with | true => h.IsTupleIter it a i | false => h.IsListIter it a i
theorem IsSq.at {b : Bool} {h h' : Heap} {a : Addr} {items : Array Value} (x : IsSq b h a items) (e : ∀ o, h.get? a = some o → h'.get? a = some o) : IsSq b h' a items := by
  cases b
  · exact Heap.IsList.at x e
  · exact Heap.IsTuple.at x e
theorem IsIt.at {b : Bool} {h h' : Heap} {it a : Addr} {i : Nat} (x : IsIt b h it a i) (e : ∀ o, h.get? it = some o → h'.get? it = some o) : IsIt b h' it a i := by
  cases b
  · exact Heap.IsListIter.at x e
  · exact Heap.IsTupleIter.at x e
theorem IsIt.obj {b : Bool} {h : Heap} {it a : Addr} {i : Nat} (x : IsIt b h it a i) : ∃ o, h.get? it = some o ∧ o.data = .fields #[.ref a, .int i 0] := by
  cases b
  · obtain ⟨o, ho, _, hd⟩ := x; exact ⟨o, ho, hd⟩
  · obtain ⟨o, ho, _, hd⟩ := x; exact ⟨o, ho, hd⟩
theorem IsSq.lt {b : Bool} {h : Heap} {a : Addr} {items : Array Value} (x : IsSq b h a items) : a < h.objs.size := by
  cases b
  · obtain ⟨o, ho, _⟩ := x; exact Heap.lt_size ho
  · obtain ⟨o, ho, _⟩ := x; exact Heap.lt_size ho
section
variable {prog : Program} {w : World} {A : Around}
end
section
variable {X : Cx} {pins : List (Addr × Obj)} {σ : L2.St} {H : Hp} {s : Shared}
end
/-- the cells of a zip as it goes -/
structure ZipM (b c : Bool) (z TI TO i1 i2 p q : Addr) (i : Nat) (h : Heap) : Prop where
  z : IsZip h z TI TO .none
  TI : IsTupOf2 h TI (.ref i1) (.ref i2)
  TO : ∃ x y, IsTupOf2 h TO x y
  i1 : IsIt b h i1 p i
  i2 : IsIt c h i2 q i
/-! ### on data -/
section
variable {K : PySem.W.Frag} {m : M} {H : Hp} {v : V} {d : D}
end
@[irreducible] def zipMK (R : List D → (M → Prop) → M → Prop) (a b : D) (m1 : M) : Prop := Box <| ∃ xs ys, itsD (res m1 a) = some xs ∧ itsD (res m1 b) = some ys ∧ R (zipD xs ys) (fun m' => itsD (res m' a) = some xs ∧ itsD (res m' b) = some ys) m1
section
variable {X : Cx} {ω : Bx} {e e2 : Expr}
end
end Z

/-! Z52: a dict of whole numbers sorted; its values and its pairs walked. -/
namespace Z
open PySem PySem.Spec PyProof.Rows L2
@[irreducible] def sortDIK (x : D) (m : M) (Q : Kd) : Prop := Box <| ∃ (l : List (Key × D)) (zs : List Int), res m x = tbD l ∧ l.map (·.1) = zs.map Sum.inl ∧ zs.length < 64 ∧ ∀ ys : List Int, ys.Perm zs → ys.Pairwise (· ≤ ·) → Q (.lst (ys.map D.int)) m
/-- walks over a dict that is never changed -/
@[irreducible] def valsK (R : List D → (M → Prop) → M → Prop) (d : D) (m1 : M) : Prop := Box <| ∃ l, d = fdD l ∧ R (l.map fun p => p.2) (fun _ => True) m1
@[irreducible] def itemsK (R : List D → (M → Prop) → M → Prop) (d : D) (m1 : M) : Prop := Box <| ∃ l, d = fdD l ∧ R (l.map fun p => .tup [keyV p.1, p.2]) (fun _ => True) m1
section
variable {X : Cx} {ω : Bx} {p pos apos cpos tpos : Pos} {e tg : Expr} {es elts : List Expr} {kk : Nat} {t : TA2} {te : TE2}
end
end Z

/-! Z53: a tuple taken no times. -/
namespace Z
open PySem PySem.Spec PyProof.Rows L2
section
variable {X : Cx} {ω : Bx} {a b : Expr} {ta tb : TE2} {pos : Pos} {K : PySem.W.Frag}
theorem tuple_none (l : Addr) (xs : Array Value) (n : Nat) (dd : Option Addr) (sl : Array (Option Value)) (u : Tok) (hi : xs.isEmpty = false) :
    Meets (Builtin.«tuple.__mul__» ⟨[.ref l, .int 0 u], []⟩) (fun _ R s => s.heap.get? l = some { cls := .type "tuple", dict := dd, data := .seq xs n, slots := sl } ∧
      R (.ok (.ret (Value.ref s.heap.objs.size))) { s with heap := s.heap.push { cls := Value.type "tuple", data := Data.seq #[] }, toks := s.toks }) :=
  .of_wp fun prog w A R s h => by
    obtain ⟨hp, g, d, tk, os⟩ := s
    obtain ⟨hl, h⟩ := h
    have f1 := AutoSeq1.idx_int
    have c1 : (xs.isEmpty || (0 : Int) == 1) = false := by rw [hi]; rfl
    have c2 : (decide ((0 : Int) ≤ 0) || xs.isEmpty) = true := rfl
    wp_walk using wpAny_loadPart' hl
    repeat (first
      | (refine wpAny_ite_false (decide_eq_false (by rw [c1]; exact Bool.false_ne_true)) ?_; wp_walk using wpAny_loadPart' hl)
      | (refine wpAny_ite_true (decide_eq_true c2) ?_; wp_walk using wpAny_loadPart' hl))
    exact ⟨_, rfl, h⟩
def rRep0 (K : PySem.W.Frag) : R2 := fun x y H Q => ∃ l xs, x = .ref l ∧ y = .int 0 ∧ SqT K H l xs ∧ xs ≠ [] ∧ ∀ p, H p = none → Q (.ref p) (upd H p (.tup []))
theorem op_rep0 : OpR X (binaryOp .Mult) (rRep0 X.K) := by
  intro pins s σ H x y v u Q I rx ry h
  obtain ⟨l, xs, rfl, rfl, hT, hne, q⟩ := h
  cases rx
  obtain ⟨t, rfl⟩ := ry
  obtain ⟨its, r, ⟨⟨cls, dd, data, sl⟩, ho, hc, n, hd⟩, hs⟩ := I.tuple hT
  simp only at hc hd
  subst hc hd
  have hle : its.length = xs.length := r.length.symm
  have hn : its ≠ [] := fun e => hne (by
    rw [e] at hle
    exact List.eq_nil_of_length_eq_zero hle.symm)
  have hi : its.toArray.isEmpty = false := by
    cases its with
    | nil => exact absurd rfl hn
    | cons a b => rfl
  refine wpAny_binaryOp_repeat_ref (T := "tuple") (U := "int") (by decide) ⟨_, ho, rfl⟩ (fun s' => typeIs_int s' 0 t) noFill_tuple_mul F.fills_int_mul F.slot_int_rmul repeat_tuple F.slot_int_index.lookup
    (call_meets F.slot_int_rmul (typeIs_int s 0 t) F.entry_int_rmul (F.args_int_rmul_2 _ _) (int_rmul_tuple 0 t l its.toArray n dd sl)
      ⟨ho, rfl, ⟨_, ho, rfl⟩, call_meets F.slot_tuple_mul ⟨_, ho, rfl⟩ F.entry_tuple_mul (F.args_tuple_mul_2 _ _) (tuple_none l its.toArray n dd sl t hi) ⟨ho, ?_⟩⟩)
  refine ⟨.ref s.heap.objs.size, _, I.laid (t' := s.toks) (o := .tup []) (fun b ob q => Heap.get?_push_of_some _ q) (Nat.le_refl _) ?_, rfl, q _ (I.hok.fresh (Nat.le_refl _))⟩
  exact ⟨Nat.zero_le _, [], .nil, IsTup.new _ _⟩
/-- times, no times too -/
@[irreducible] def oMulZ : R22 := fun x y m Q => Box <| (∃ xs, res m x = .tup xs ∧ xs ≠ [] ∧ y = .int 0 ∧ Q (.tup []) m) ∨ oMulU x y m Q
theorem mulZ_0 {m : M} {x : D} {xs : List D} {k : Int} {Q : Kd} (h : res m x = .tup xs) (h1 : xs ≠ []) (h2 : k = 0) (q : Q (.tup []) m) : oMulZ x (.int k) m Q := by subst h2; unfold oMulZ; exact ⟨.inl ⟨xs, h, h1, rfl, q⟩⟩
theorem mulZ_u {m : M} {x y : D} {Q : Kd} (q : oMulU x y m Q) : oMulZ x y m Q := by unfold oMulZ; exact ⟨.inr q⟩
def rMulZ (K : PySem.W.Frag) : R2 := fun x y H Q => rRep0 K x y H Q ∨ rMulU K x y H Q
theorem cv_mulZ : Cv2 K (rMulZ K) oMulZ := fun H m dx dy x y Q Q' hm rx ry h k => by
  unfold oMulZ at h
  rcases h.out with ⟨xs, e1, h1, rfl, q⟩ | h
  · cases ry
    obtain ⟨a1, v1, rfl, h2, r1⟩ := tupOf rx e1
    refine .inl ⟨a1, v1, rfl, rfl, h2, fun z => ?_, fun p hp => k _ _ (.new hm hp (.tup (SqT.of (Step.new_at hm hp)) .nil) q)⟩
    subst z
    cases r1
    exact h1 rfl
  · exact .inr (cv_mulU H m dx dy x y Q Q' hm rx ry h k)
theorem mulZ (ha : PE2 X ω a ta) (hb : PE2 X ω b tb) : PE2 X ω (.BinOp a .Mult b pos) (tOp2 oMulZ ta tb) := q_op (op_rep0.or op_mulU) cv_mulZ ha hb
end
section
variable {P : Program} {w : World} {K : PySem.W.Frag} {mg : Str → Option Value} {base : Heap} {x : Str} {st : Stmt} {f : Addr} {fd : FuncData} {N ps : List Str} {k : Nat}
end
end Z

/-! Z54: an owned dict at a name, locked from a statement on. -/
namespace Z
open PySem PySem.Spec PyProof.Rows L2
theorem SlotOk.put {K : PySem.W.Frag} {ω : Bx} {g : Sl} {σ : St} {G : Hp} (s : SlotOk K ω g σ G) {i : Nat} {v : V} {d : D} (h : σ[i]? = some (some v)) (r : Rep K G v d) : SlotOk K ω (g.set i (some d)) σ G := by
  refine ⟨s.tie, by rw [List.length_set]; exact s.len, fun j e k => ?_⟩
  by_cases hj : i = j
  · subst hj
    by_cases hl : i < g.length
    · rw [List.getElem?_set_self hl] at k
      cases k
      exact ⟨v, h, r⟩
    · rw [List.getElem?_eq_none (by rw [List.length_set]; omega)] at k; cases k
  · rw [List.getElem?_set_ne hj] at k
    exact s.val j e k
/-! ### list(d), d.clear() -/
@[irreducible] def lstDK (x : D) (m : M) (Q : Kd) : Prop := Box <| ∃ l, res m x = tbD l ∧ Q (.lst (l.map fun p => keyV p.1)) m
@[irreducible] def clrK (d : D) (m : M) (Q : Kd) : Prop := Box <| ∃ p l, d = .ref p ∧ m p = some (tbC l) ∧ Q .non (upM m p (tbC []))
section
variable {X : Cx} {ω : Bx} {p pos apos cpos : Pos} {o e : Expr} {es : List Expr} {t : TA2} {to te : TE2}
end
end Z

/-! Z55: a few equations in more unknowns have a small answer; so a turned table's numbers are small. -/
namespace Z
/-! ### digits -/
/-! ### sums -/
/-! ### a small answer -/
/-! ### over M -/
/-- over M, not greater than B either way -/
def On (M : Int) (B : Nat) (a : Rat) : Prop := ∃ p : Int, a * (M : Rat) = (p : Rat) ∧ p.natAbs ≤ B
theorem On.ud {M : Int} {B n : Nat} {a : Rat} (h : On M B a) (hB : B < 2 ^ n) : Ud n M a := by
  obtain ⟨p, e, hp⟩ := h
  exact ⟨p, e, by omega⟩
theorem On.sz {M : Int} {B n : Nat} {a : Rat} (h : On M B a) (h0 : 0 < M) (hM : M.natAbs < 2 ^ n) (hB : B < 2 ^ n) : Sz n a := (h.ud hB).sz h0 hM
theorem On.of {n : Nat} {M : Int} {a : Rat} (h : Ud n M a) : On M (2 ^ n) a := by
  obtain ⟨p, e, hp⟩ := h
  exact ⟨p, e, by omega⟩
theorem On.mono {M : Int} {B C : Nat} {a : Rat} (h : On M B a) (hb : B ≤ C) : On M C a := by
  obtain ⟨p, e, hp⟩ := h
  exact ⟨p, e, by omega⟩
theorem On.zero {M : Int} : On M 0 0 := ⟨0, by rw [Rat.zero_mul]; rfl, Nat.le_refl 0⟩
theorem On.times {M N : Int} {A B : Nat} {a b : Rat} (h : On M A a) (k : On N B b) : On (M * N) (A * B) (a * b) := by
  obtain ⟨p, e, hp⟩ := h
  obtain ⟨q, f, hq⟩ := k
  exact ⟨p * q, by push_cast; rw [← e, ← f]; grind, by rw [Int.natAbs_mul]; exact Nat.mul_le_mul hp hq⟩
theorem On.neg {M : Int} {A : Nat} {a : Rat} (h : On M A a) : On M A (-a) := by
  obtain ⟨p, e, hp⟩ := h
  exact ⟨-p, by push_cast; rw [← e]; grind, by omega⟩
theorem On.up {M : Int} {A k : Nat} {a : Rat} (h : On M A a) : On (M * (k : Int)) (A * k) a := by
  obtain ⟨p, e, hp⟩ := h
  exact ⟨p * (k : Int), by push_cast; rw [← e]; grind, by rw [Int.natAbs_mul]; exact Nat.mul_le_mul hp (Nat.le_of_eq (Int.natAbs_natCast k))⟩
theorem On.int {M i : Int} : On M (i.natAbs * M.natAbs) (i : Rat) := ⟨i * M, by push_cast; rfl, by rw [Int.natAbs_mul]; exact Nat.le_refl _⟩
structure RowsOn (M : Int) (B r : Nat) (T : Tb) : Prop where
  re : ∀ i ∈ T.own, ∀ c, c < r → On M B ((T.row i).re c)
  sh : ∀ i ∈ T.own, ∀ f ∈ T.free, On M B ((T.row i).sh f)
/-- numbers of a reckoning, each of n bits -/
structure RS (n r : Nat) (fs : List Int) (y : Ry) : Prop where
  re' : ∀ c, c < r → Sz n (y.re c)
  sh' : ∀ f ∈ fs, Sz n (y.sh f)
theorem RS.re {n r c : Nat} {fs : List Int} {y : Ry} (h : RS n r fs y) (hc : c < r) : Sz n (y.re c) := h.re' c hc
theorem RS.sh {n r : Nat} {f : Int} {fs : List Int} {y : Ry} (h : RS n r fs y) (hf : f ∈ fs) : Sz n (y.sh f) := h.sh' f hf
theorem RS.mono {n k r : Nat} {fs : List Int} {y : Ry} (h : RS n r fs y) (hk : n ≤ k) : RS k r fs y := ⟨fun c hc => (h.re' c hc).mono hk, fun f hf => (h.sh' f hf).mono hk⟩
theorem RB.rs {n r : Nat} {fs : List Int} {y : Ry} (h : RB n r fs y) : RS n r fs y := ⟨fun c hc => h.re hc, fun f hf => h.sh hf⟩
structure TS (n r g : Nat) (T : Tb) : Prop where
  row : ∀ i ∈ T.own, RS n r T.free (T.row i)
  goal : ∀ k, k < g → RS n r T.free (T.goal k)
theorem TS.mono {n k r g : Nat} {T : Tb} (h : TS n r g T) (hk : n ≤ k) : TS k r g T := ⟨fun i hi => (h.row i hi).mono hk, fun j hj => (h.goal j hj).mono hk⟩
theorem TB.ts {n r g : Nat} {T : Tb} (h : TB n r g T) : TS n r g T := ⟨fun i hi => (h.row i hi).rs, fun j hj => (h.goal j hj).rs⟩
end Z

/-! Z56: a dict compared with the empty one. -/
namespace Z
open PySem PySem.Spec PyProof.Rows L2
@[irreducible] def oEqE (neg : Bool) : R22 := fun x y m Q => Box <| ∃ l, res m x = tbD l ∧ res m y = tbD [] ∧ Q (.bl (if neg then !l.isEmpty else l.isEmpty)) m
section
variable {X : Cx} {ω : Bx} {a b : Expr} {ta tb : TE2} {pos : Pos}
end
end Z

/-! Z57: range that goes down. -/
namespace Z
open PySem PySem.Spec PyProof.Rows L2
end Z

/-! Z58: goals of a turned table, some of them lent to, over one small number. -/
namespace Z
end Z

/-! Z59: the numbers of one column of a turned table over one small number. -/
namespace Z
end Z

/-! Z60: d.copy(), a dict of one's own; list(d.items()) of a dict of one's own. -/
namespace Z
open PySem PySem.Spec PyProof.Rows L2
@[irreducible] def cpyK (d : D) (m : M) (Q : Kd) : Prop := Box <| ∃ l, res m d = tbD l ∧ ∀ p, m p = none → Q (.ref p) (upM m p (tbC l))
theorem Step.more {K : PySem.W.Frag} {m : M} {H H' : Hp} (h : MemOk K m H) (k : ∀ b o, H b = some o → H' b = some o) : Step K m H m H' := by
  have e : Ex (hid m H) (hid m H') := fun a u z => by
    obtain ⟨z1, z2⟩ := hid_some z
    exact hid_of z1 (k a u z2)
  refine ⟨fun a u h1 h2 => ⟨k a u h1, h2⟩, fun a c hc => ?_⟩
  have hco := h a c hc
  have hs : ∃ o, H a = some o := by
    cases c with
    | lst ds => obtain ⟨vs, h1, _⟩ := hco; exact ⟨_, h1⟩
    | dic ks ds => obtain ⟨vs, h1, _⟩ := hco; exact ⟨_, h1⟩
    | obj _ _ fs => obtain ⟨vs, h1, _⟩ := hco; exact ⟨_, h1⟩
  obtain ⟨o, ho⟩ := hs
  exact hco.mono ((k a o ho).trans ho.symm) e
@[irreducible] def itmLK (d : D) (m : M) (Q : Kd) : Prop := Box <| ∃ p l, d = .ref p ∧ m p = some (tbC l) ∧ Q (.lst (l.map fun q => .tup [keyV q.1, q.2])) m
section
variable {X : Cx} {ω : Bx} {p pos apos cpos : Pos} {o e : Expr} {to te : TE2}
end
end Z

/-! Z61: repr(x) of plain data, where no repr is under way (the law's own def, or a def that it calls so). -/
namespace Z
open PySem PySem.Spec PyProof.Rows L2
def keyP : Key → PyData
  | .inl i => .int i
  | .inr x => .str x
mutual
/-- data as what repr shows -/
def pyR : D → PyData
  | .non => .none | .bl b => .bool b | .int i => .int i | .str x => .str x
  | .tup xs => .tuple (pysR xs) | .ptu xs => .tuple (pysR xs) | .lst xs => .list (pysR xs) | .rol xs => .list (pysR xs)
  | .dic ks vs => .dict ((ks.map keyP).zip (pysR vs)) | .fdi ks vs => .dict ((ks.map keyP).zip (pysR vs))
  | .ty _ => .none | .ref _ => .none | .exc _ => .none
def pysR : List D → List PyData
  | [] => []
  | x :: r => pyR x :: pysR r
end
/-- small data: with lists and no dicts (b), or with dicts and no lists -/
def Shw (b : Bool) : Nat → D → Prop
  | _, .non => True
  | _, .bl _ => True
  | _, .int i => i.natAbs < 2 ^ 1900
  | _, .str x => (reprText x).length ≤ 600
  | n + 1, .tup xs => xs.length ≤ 8 ∧ ∀ x ∈ xs, Shw b n x
  | n + 1, .ptu xs => xs.length ≤ 8 ∧ ∀ x ∈ xs, Shw b n x
  | n + 1, .lst xs => b = true ∧ xs.length ≤ 8 ∧ ∀ x ∈ xs, Shw b n x
  | n + 1, .rol xs => b = true ∧ xs.length ≤ 8 ∧ ∀ x ∈ xs, Shw b n x
  | n + 1, .dic ks xs => b = false ∧ ks.length = xs.length ∧ xs.length ≤ 8 ∧ (∀ k ∈ ks, Shw b 0 (keyV k)) ∧ ∀ x ∈ xs, Shw b n x
  | n + 1, .fdi ks xs => b = false ∧ ks.length = xs.length ∧ xs.length ≤ 8 ∧ (∀ k ∈ ks, Shw b 0 (keyV k)) ∧ ∀ x ∈ xs, Shw b n x
  | _, _ => False
def lenR : Nat → Nat
  | 0 => 700
  | n + 1 => 8 * (lenR n + 704) + 3
/-- what is asked of a thing shown -/
structure Okp (b : Bool) (n : Nat) (d : PyData) : Prop where
  sh : d.showable = true
  dp : d.depth ≤ n
  ln : d.shown.length ≤ lenR n
  nd : b = true → d.hasDict = false
theorem log1900 {i : Int} (h : i.natAbs < 2 ^ 1900) : i.natAbs.log2 < 1920 := by
  by_cases h0 : i.natAbs = 0
  · rw [h0]; decide
  · exact (Nat.log2_lt h0).mpr (Nat.lt_of_lt_of_le h (Nat.pow_le_pow_right (by decide) (by decide)))
/-! ### what the heap holds of it -/
section
variable {X : Cx} {pins : List (Addr × Obj)} {σ : St} {H : Hp} {s : Shared} {b : Bool}
/-- the addresses of lists and dicts; of dicts alone where lists are out -/
def AsOk (b : Bool) (as : List Addr) : Prop := b = false → sysModules ∉ as
theorem AsOk.nil : AsOk b [] := fun _ h => nomatch h
end
end Z

/-! Z62: the rule of repr(x); defs that are promised only where no repr is under way (FnG), their calls, the law's end by one. -/
namespace Z
open PySem PySem.Spec PyProof.Rows L2
@[irreducible] def reprK : RC2 := fun xs m Q => Box <| ∃ d b, xs = [d] ∧ Shw b 4 (res m d) ∧ Q (.str (pyR (res m d)).shown) m
section
variable {X : Cx} {ω : Bx} {x : Str} {p pos : Pos} {e : Expr} {es : List Expr} {t : TA2}
end

/-! ### defs promised where no repr is under way -/
structure FnG (P : Program) (w : World) (K : PySem.W.Frag) (mg : Str → Option Value) (base : Heap) (k : Nat) (f : Addr) (fd : FuncData) (ps : List Str) (sp : Sp) : Prop where
  len : ∀ vs H Q E, sp vs H Q E → vs.length = ps.length
  run : ∀ (A : Around) (outer : List Env) (s : Shared) (H : Hp) (args : Args) (us : List Value) (vs : List V) (Q : VK) (E : XK), A.guards = some [] → Room k A → Env0 P w K mg base A outer s H → BindsTo s fd args (ps.zip us) → Vals vs us → sp vs H Q E →
    codeAny (model P w) A (.call (.ref f) args) (CR CX0 outer P w H s Q E) s
section
variable {P : Program} {w : World} {K : PySem.W.Frag} {mg : Str → Option Value} {base : Heap} {x qual : Str} {st : Stmt} {f : Addr} {fd : FuncData} {N ps : List Str} {k : Nat}
end
structure DefG (P : Program) (w : World) (K : PySem.W.Frag) (mg : Str → Option Value) (base : Heap) (k : Nat) (x : Str) (sp : Sp2) : Prop where
  ex : ∃ (f : Addr) (fd : FuncData) (ps : List Str), FnG P w K mg base k f fd ps (lift K sp) ∧ mg x = some (.ref f) ∧ PySem.W.keepIn K (.ref f) = true ∧ Binds K fd ps []
section
variable {X : Cx} {ω : Bx} {k kk : Nat} {sp : Sp2} {x : Str} {p pos : Pos} {e : Expr} {es : List Expr} {t : TA2}
end

/-! ### the law's end -/
/-! ### == and != of texts of any signs -/
@[irreducible] def oEqS (neg : Bool) : R22 := fun x y m Q => Box <| ∃ a b : Str, x = .str a ∧ y = .str b ∧ Q (.bl (if neg then !decide (a = b) else decide (a = b))) m
section
variable {X : Cx} {ω : Bx} {a b : Expr} {ta tb : TE2} {pos : Pos}
end
end Z

/-! Z63: != of two tuples that are equal and may hold dicts. -/
namespace Z
open PySem PySem.Spec PyProof.Rows L2
open PySem.SeqAt (EqIn EqAt)
open AutoSeq1 (wpAny_loadPart')
def EqDD (m : M) (d e : D) : Prop := (okD 60 d = true ∧ okD 60 e = true ∧ eqD d e = true) ∨ ∃ l l', res m d = tbD l ∧ res m e = tbD l' ∧ l.length = l'.length ∧ ∀ p ∈ l, ∃ e, gtK l' p.1 = some e ∧ okD 60 p.2 = true ∧ okD 60 e = true ∧ eqD p.2 e = true
@[irreducible] def oNeTT : R22 := fun x y m Q => Box <| ∃ xs ys, res m x = .tup xs ∧ res m y = .tup ys ∧ xs.length = ys.length ∧ (∀ (i : Nat) d e, xs[i]? = some d → ys[i]? = some e → EqDD m d e) ∧ Q (.bl false) m
section
variable {X : Cx} {ω : Bx} {a b : Expr} {ta tb : TE2} {pos : Pos}
end
end Z

/-! Z64: repr(x) of plain data with lists and dicts in one another. -/
namespace Z
open PySem PySem.Spec PyProof.Rows L2
/-- small data -/
def ShM : Nat → D → Prop
  | _, .non => True
  | _, .bl _ => True
  | _, .int i => i.natAbs < 2 ^ 1900
  | _, .str x => (reprText x).length ≤ 600
  | n + 1, .tup xs => xs.length ≤ 8 ∧ ∀ x ∈ xs, ShM n x
  | n + 1, .ptu xs => xs.length ≤ 8 ∧ ∀ x ∈ xs, ShM n x
  | n + 1, .lst xs => xs.length ≤ 8 ∧ ∀ x ∈ xs, ShM n x
  | n + 1, .rol xs => xs.length ≤ 8 ∧ ∀ x ∈ xs, ShM n x
  | n + 1, .dic ks xs => ks.length = xs.length ∧ xs.length ≤ 8 ∧ (∀ k ∈ ks, Shw false 0 (keyV k)) ∧ ∀ x ∈ xs, ShM n x
  | n + 1, .fdi ks xs => ks.length = xs.length ∧ xs.length ≤ 8 ∧ (∀ k ∈ ks, Shw false 0 (keyV k)) ∧ ∀ x ∈ xs, ShM n x
  | _, _ => False
/-! ### what the heap holds, and how repr goes through it -/
section
variable {X : Cx} {pins : List (Addr × Obj)} {σ : St} {H : Hp} {s : Shared}
end
/-- what is owned, read through to that depth -/
def resN (m : M) : Nat → D → D
  | n + 1, .tup xs => .tup (xs.map (resN m n))
  | n + 1, .ptu xs => .tup (xs.map (resN m n))
  | n + 1, .lst xs => .rol (xs.map (resN m n))
  | n + 1, .rol xs => .rol (xs.map (resN m n))
  | n + 1, .dic ks xs => .dic ks (xs.map (resN m n))
  | n + 1, .fdi ks xs => .dic ks (xs.map (resN m n))
  | n + 1, .ref a => match m a with
    | some (.lst xs) => .rol (xs.map (resN m n))
    | some (.dic ks xs) => .dic ks (xs.map (resN m n))
    | some (.obj _ _ _) => .ref a
    | none => .ref a
  | _, d => d
@[irreducible] def reprMK : RC2 := fun xs m Q => Box <| ∃ d, xs = [d] ∧ ShM 4 (resN m 4 d) ∧ Q (.str (pyR (resN m 4 d)).shown) m
section
variable {X : Cx} {ω : Bx} {x : Str} {p pos : Pos} {e : Expr} {es : List Expr} {t : TA2}
end
/-! ### defs that ask repr themselves -/
section
variable {P : Program} {w : World} {K : PySem.W.Frag} {mg : Str → Option Value} {base : Heap} {x : Str} {st : Stmt} {f : Addr} {fd : FuncData} {N ps : List Str} {k : Nat}
end
end Z

/-! Z65: a, b, .. = a list. -/
namespace Z
open PySem PySem.Spec PyProof.Rows L2
section
variable {X : Cx} {ω : Bx} {pos : Pos}
end
end Z

/-! Z66: dict(zip(xs, ys)) of lists and tuples in any mix. -/
namespace Z
open PySem PySem.Spec PyProof.Rows L2
section
variable {prog : Program} {w : World} {A : Around} {E : Value → Shared → Prop} {s : Shared} {z TI TO i1 i2 T : Addr} {fp1 fp2 : List Addr} {n1 n2 i : Nat} {P1 P2 : Nat → Value → Prop} {St1 St2 : Nat → Heap → Prop} {f : Bool} {oT : Obj}
end
theorem IsIt.lt {b : Bool} {h : Heap} {it a : Addr} {i : Nat} (x : IsIt b h it a i) : ∃ o, h.get? it = some o := let ⟨o, ho, _⟩ := x.obj; ⟨o, ho⟩
theorem IsSq.ex {b : Bool} {h : Heap} {a : Addr} {items : Array Value} (x : IsSq b h a items) : ∃ o, h.get? a = some o := by
  cases b
  · obtain ⟨o, ho, _⟩ := x; exact ⟨o, ho⟩
  · obtain ⟨o, ho, _⟩ := x; exact ⟨o, ho⟩
section
variable {X : Cx} {ω : Bx} {e e2 : Expr} {ta : TA} {p p2 q pos : Pos}
end
/-- dict(zip(a, b)) of keys and as many things: a dict that is never changed -/
@[irreducible] def dzipK (a b : D) (m : M) (Q : Kd) : Prop := Box <| ∃ (ks : List Key) (ds : List D), itsD (res m a) = some (ks.map keyV) ∧ itsD (res m b) = some ds ∧ ks.length = ds.length ∧ ks.length ≤ sizeLine ∧ Q (fdD (mgK [] (ks.zip ds))) m
section
variable {X : Cx} {ω : Bx} {e e2 : Expr} {ta : TA2} {p p2 q pos : Pos}
end
/-! ### an owned dict's display with pairs -/
section
variable {X : Cx} {ω : Bx} {pos : Pos}
end
end Z

/-! Z67: partition; a text in a text; xs[::st] of a list, st 1 or -1. -/
namespace Z
open PySem PySem.Spec PyProof.Rows L2
@[irreducible] def partK (a b : Str) (m : M) (Q : Kd) : Prop := Box <| (b.length == 0) = false ∧ a.length ≤ sizeLine ∧ Q (.tup [.str (Txt.partition a b).1, .str (Txt.partition a b).2.1, .str (Txt.partition a b).2.2]) m
section
variable {X : Cx} {ω : Bx} {o e : Expr} {to te : TE2} {apos pos : Pos}
end
/-! ### a text in a text -/
def hasS (z y : Str) : Bool := !(Builtin.Str.occurrences z y 0 z.length 1).isEmpty
@[irreducible] def oInS (neg : Bool) : R22 := fun x y m Q => Box <| ∃ w z, x = .str w ∧ res m y = .str z ∧ Q (.bl (if neg then !hasS z w else hasS z w)) m
section
variable {X : Cx} {ω : Bx} {a b : Expr} {ta tb : TE2} {pos : Pos}
end
/-! ### xs[::st] -/
@[irreducible] def stepK (x y : D) (m : M) (Q : Kd) : Prop := Box <| ∃ ds, ∃ b : Bool, lsD (res m x) = some ds ∧ y = .int (if b = true then -1 else 1) ∧ Q (.lst (if b = true then ds.reverse else ds)) m
section
variable {X : Cx} {ω : Bx} {e st : Expr} {te ts : TE2} {p3 pos : Pos}
end
end Z

/-! Z68: xs[a:b] = ys: a slice of an owned list stored. -/
namespace Z
open PySem PySem.Spec PyProof.Rows L2
section
variable {X : Cx} {ω : Bx} {o lo up : Expr} {to tl tu : TE2} {p2 pos : Pos}
end
end Z

/-! Z69: try .. except C: without a name. -/
namespace Z
open PySem PySem.Spec PyProof.Rows L2
section
variable {X : Cx} {ω : Bx} {x : Str} {c : Value} {body suite : List Stmt} {b0 : Stmt} {np pos pos' : Pos} {tb : (Value → Sl → M → Prop) → TS2} {ts : TS2}
end
end Z

/-! Z70: objects of an own class: fields read and stored, methods called, objects made. -/
namespace Z
open PySem PySem.Spec PyProof.Rows L2
/-- a field put: its place stays where it is there -/
def putD (f : Str) (d : D) : List (Str × D) → List (Str × D)
  | [] => [(f, d)]
  | (g, x) :: r => if g = f then (g, d) :: r else (g, x) :: putD f d r
theorem RFs.get {K : PySem.W.Frag} {G : Hp} {f : Str} {d : D} : ∀ {vs : List (Str × V)} {fs : List (Str × D)}, RFs K G vs fs → fs.lookup f = some d → ∃ v, vs.lookup f = some v ∧ Rep K G v d
  | _, _, .nil, h => by simp at h
  | _, _, .cons (a := p) (b := q) a t, h => by
    obtain ⟨g, v⟩ := p
    obtain ⟨g', e⟩ := q
    obtain ⟨h1, h2⟩ := a
    have h1 : g = g' := h1
    subst h1
    by_cases k : f = g
    · subst k
      simp [List.lookup] at h ⊢
      subst h
      exact h2
    · have kb : (f == g) = false := beq_eq_false_iff_ne.mpr k
      simp only [List.lookup, kb] at h ⊢
      exact RFs.get t h
theorem RFs.none {K : PySem.W.Frag} {G : Hp} {f : Str} : ∀ {vs : List (Str × V)} {fs : List (Str × D)}, RFs K G vs fs → fs.lookup f = none → vs.lookup f = none
  | _, _, .nil, _ => rfl
  | _, _, .cons (a := p) (b := q) a t, h => by
    obtain ⟨g, v⟩ := p
    obtain ⟨g', e⟩ := q
    obtain ⟨h1, h2⟩ := a
    have h1 : g = g' := h1
    subst h1
    by_cases k : f = g
    · subst k
      simp [List.lookup] at h
    · have kb : (f == g) = false := beq_eq_false_iff_ne.mpr k
      simp only [List.lookup, kb] at h ⊢
      exact RFs.none t h
theorem RFs.len {K : PySem.W.Frag} {G : Hp} : ∀ {vs : List (Str × V)} {fs : List (Str × D)}, RFs K G vs fs → vs.length = fs.length
  | _, _, .nil => rfl
  | _, _, .cons _ t => by rw [List.length_cons, List.length_cons, RFs.len t]
theorem RFs.put {K : PySem.W.Frag} {G : Hp} {f : Str} {v : V} {d : D} (r : Rep K G v d) : ∀ {vs : List (Str × V)} {fs : List (Str × D)}, RFs K G vs fs → RFs K G (putF f v vs) (putD f d fs)
  | _, _, .nil => .cons ⟨rfl, r⟩ .nil
  | _, _, .cons (a := p) (b := q) (l₁ := vs) (l₂ := fs) a t => by
    obtain ⟨g, u⟩ := p
    obtain ⟨g', e⟩ := q
    obtain ⟨h1, h2⟩ := a
    have h1 : g = g' := h1
    subst h1
    show RFs K G (if g = f then (g, v) :: vs else (g, u) :: putF f v vs) (if g = f then (g, d) :: fs else (g, e) :: putD f d fs)
    by_cases k : g = f
    · rw [if_pos k, if_pos k]
      exact .cons ⟨rfl, r⟩ t
    · rw [if_neg k, if_neg k]
      exact .cons ⟨rfl, h2⟩ (RFs.put r t)
/-! ### readings -/
/-- a method, as it stands behind the top, and what it promises -/
structure MetOk (P : Program) (w : World) (K : PySem.W.Frag) (mg : Str → Option Value) (base : Heap) (k : Nat) (C : Addr) (m : Str) (sp : Sp2) : Prop where
  ex : ∃ (f : Addr) (fd : FuncData) (ps : List Str), FnOk P w K mg base CX0 k f fd ps (lift K sp) ∧ Meth K C m f ∧ Binds K fd ps [] ∧ Cls K C
/-- a class that is made by its __init__ -/
structure MkOk (P : Program) (w : World) (K : PySem.W.Frag) (mg : Str → Option Value) (base : Heap) (k : Nat) (x : Str) (C : Addr) (sp : Sp2) : Prop where
  ex : ∃ (f : Addr) (fd : FuncData) (ps : List Str), FnOk P w K mg base CX0 k f fd ps (lift K sp) ∧ Mk K C f ∧ mg x = some (.ref C) ∧ Binds K fd ps []
section
variable {X : Cx} {ω : Bx} {k kk : Nat} {sp : Sp2} {x f m : Str} {C : Addr} {p pos pos' apos : Pos} {e o value : Expr} {es : List Expr} {ta : TA2} {t tv : TE2}
end
/-! ### None or x -/
section
variable {X : Cx} {ω : Bx} {a b : Expr} {rest : List Expr} {pos : Pos} {ta tb : TE2}
end
/-! ### bodies of methods: the name x, the whole name y -/
section
variable {P : Program} {w : World} {K : PySem.W.Frag} {mg : Str → Option Value} {base : Heap} {x y : Str} {st : Stmt} {f : Addr} {fd : FuncData} {N ps : List Str} {k : Nat}
end
end Z

/-! Z71: zip of three lists or tuples, in any mix. -/
namespace Z
open PySem PySem.Spec PyProof.Rows L2
/-- the cells of a zip as it goes -/
structure ZipM3 (b c d : Bool) (z TI TO i1 i2 i3 p q r : Addr) (i : Nat) (h : Heap) : Prop where
  z : IsZip h z TI TO .none
  TI : IsTupOf3 h TI (.ref i1) (.ref i2) (.ref i3)
  TO : ∃ x y w, IsTupOf3 h TO x y w
  i1 : IsIt b h i1 p i
  i2 : IsIt c h i2 q i
  i3 : IsIt d h i3 r i
/-! ### on data -/
def zipD3 (xs ys zs : List D) : List D := (xs.zip (ys.zip zs)).map fun p => .tup [p.1, p.2.1, p.2.2]
@[irreducible] def zip3K (R : List D → (M → Prop) → M → Prop) (a b c : D) (m1 : M) : Prop := Box <| ∃ xs ys zs, itsD (res m1 a) = some xs ∧ itsD (res m1 b) = some ys ∧ itsD (res m1 c) = some zs ∧ R (zipD3 xs ys zs) (fun m' => itsD (res m' a) = some xs ∧ itsD (res m' b) = some ys ∧ itsD (res m' c) = some zs) m1
section
variable {X : Cx} {ω : Bx} {e e2 e3 : Expr}
end
end Z

/-! Z72: x == [] of a list of anything, owned lists too. -/
namespace Z
open PySem PySem.Spec PyProof.Rows L2
/-- a list told by its length alone -/
@[irreducible] def oEqN : R22 := fun x y m Q => Box <| ∃ xs, lsD (res m x) = some xs ∧ lsD (res m y) = some [] ∧ Q (.bl xs.isEmpty) m
section
variable {X : Cx} {ω : Bx} {a b : Expr} {ta tb : TE2} {pos : Pos}
end
/-- how many -/
def rngK (i j c : Int) : Nat := if i < j then ((j - i - 1) / c + 1).toNat else 0
theorem RgC.pos {i j c : Int} (h0 : 0 < c) (h1 : c < 1000000) (a1 : 0 ≤ i) (a2 : i < 2 ^ 40) (b1 : 0 ≤ j) (b2 : j < 2 ^ 40) : RgC i j c (rngK i j c) := by
  have e : Builtin.Range.rangeSize i j c = ((rngK i j c : Nat) : Int) := by
    unfold Builtin.Range.rangeSize rngK
    rw [if_pos h0]
    split
    · have : 0 ≤ (j - i - 1) / c := Int.ediv_nonneg (by omega) (by omega)
      omega
    · rfl
  have hk : ((rngK i j c : Nat) : Int) ≤ 2 ^ 40 := by
    unfold rngK
    split
    · have h2 : (j - i - 1) / c ≤ j - i - 1 := Int.ediv_le_self _ (by omega)
      omega
    · omega
  have hm : i + ((rngK i j c : Nat) : Int) * c < 2 ^ 62 := by
    have h2 : ((rngK i j c : Nat) : Int) * c ≤ 2 ^ 40 * 1000000 := Int.mul_le_mul hk (by omega) (by omega) (by omega)
    omega
  refine ⟨by omega, by omega, ?_, e⟩
  unfold Builtin.Range.small
  rw [e]
  simp only [Builtin.Range.rangeFitsLong, Bool.and_eq_true, Bool.or_eq_true, decide_eq_true_eq, beq_iff_eq]
  have h63 : (2 : Int) ^ 62 < 2 ^ 63 := by decide
  have h40 : (2 : Int) ^ 40 < 2 ^ 50 := by decide
  have h41 : (2 : Int) ^ 50 + 1000000 < 2 ^ 63 := by decide
  refine ⟨⟨⟨⟨⟨by omega, by omega⟩, by omega, by omega⟩, by omega, by omega⟩, by omega, by omega⟩, .inr ?_⟩
  rw [if_pos h0, Bool.and_eq_true]
  exact ⟨decide_eq_true (by omega), decide_eq_true (by omega)⟩
end Z

/-! Z73: x or y where x is a tuple. -/
namespace Z
open PySem PySem.Spec PyProof.Rows L2
section
variable {X : Cx} {ω : Bx} {a b : Expr} {rest : List Expr} {pos : Pos} {ta tb : TE2}
end
end Z

/-! Z74: == of two tuples that are equal and may hold dicts. -/
namespace Z
open PySem PySem.Spec PyProof.Rows L2
open PySem.SeqAt (EqIn EqAt)
open AutoSeq1 (wpAny_loadPart')
@[irreducible] def oEqTT : R22 := fun x y m Q => Box <| ∃ xs ys, res m x = .tup xs ∧ res m y = .tup ys ∧ xs.length = ys.length ∧ (∀ (i : Nat) d e, xs[i]? = some d → ys[i]? = some e → EqDD m d e) ∧ Q (.bl true) m
section
variable {X : Cx} {ω : Bx} {a b : Expr} {ta tb : TE2} {pos : Pos}
end
end Z

/-! Z75: sum of a list of lists, an empty list to start with. -/
namespace Z
open PySem PySem.Spec PyProof.Rows L2
open Sem (wp)
section
variable {prog : Program} {w : World} {A : Around} {R : Result → Shared → Prop} {I : Addr} {fp wr : List Addr} {n : Nat} {P : Nat → Value → Prop} {St : Nat → Heap → Prop}
end
section
variable {prog : Program} {w : World} {A : Around} {E : Value → Shared → Prop} {s : Shared}
end
section
variable {X : Cx}
end
@[irreducible] def kSumL : RC2 := fun xs m Q => Box <| match xs with
  | [x, y] => ∃ dss : List (List D), res m x = .lst (dss.map .lst) ∧ y = .lst [] ∧ dss.flatten.length ≤ sizeLine ∧ Q (.lst dss.flatten) m
  | _ => False
section
variable {X : Cx} {ω : Bx} {p pos : Pos} {e : Expr} {es : List Expr} {t : TA2}
end
end Z

/-! Z76: len of a dict. -/
namespace Z
open PySem PySem.Spec PyProof.Rows L2
section
variable {X : Cx}
end
/-- len of a dict -/
@[irreducible] def kLenD : RC2 := fun xs m Q => Box <| match xs with
  | [x] => ∃ l, res m x = tbD l ∧ Q (.int l.length) m
  | _ => False
section
variable {X : Cx} {ω : Bx} {p pos : Pos} {e : Expr} {es : List Expr} {t : TA2}
end
/-! ### list(d.items()) of a dict of any kind -/
section
variable {X : Cx} {ω : Bx} {e : Expr} {te : TE} {t2 : TE2} {p apos cpos pos : Pos}
/-- list(d.items()) of a dict of any kind -/
@[irreducible] def itmRK (d : D) (m : M) (Q : Kd) : Prop := Box <| ∃ l, res m d = tbD l ∧ Q (.lst (l.map fun q => .tup [keyV q.1, q.2])) m
end
end Z

/-! Z77: list(range(n)), for k in reversed(range(n)), sorted(set(t)) of ints. -/
namespace Z
open PySem PySem.Spec PyProof.Rows L2
@[irreducible] def lstRgK (i j : Int) (m : M) (Q : Kd) : Prop := Box <| RgOk i j ∧ Q (.lst (rngD i (j - i).toNat)) m
section
variable {X : Cx} {ω : Bx} {a b : Expr} {ta tb : TE2} {p p2 q pos pos2 : Pos} {tg : Expr}
@[irreducible] def sortSetK (x : D) (m : M) (Q : Kd) : Prop := Box <| ∃ ns : List Int, res m x = .tup (ns.map D.int) ∧ ns.length < 64 ∧ ∀ ks : List Int, ks.Pairwise (· < ·) → (∀ k, k ∈ ks ↔ k ∈ ns) → Q (.lst (ks.map D.int)) m
end
end Z

/-! Z78: list(zip(a, b)) of lists and tuples in any mix. -/
namespace Z
open PySem PySem.Spec PyProof.Rows L2
/-- tuples of two, one behind the other, all behind an address -/
structure ZipR (Rel : Nat → Value → Value → Prop) (lo : Addr) (h : Heap) (as : List Addr) : Prop where
  rise : as.Pairwise (· < ·)
  above : ∀ a ∈ as, lo < a
  pairs : ∀ (j : Nat) (a : Addr), as[j]? = some a → ∃ k x, Rel j k x ∧ IsTupOf2 h a k x
theorem ZipR.there {Rel : Nat → Value → Value → Prop} {lo : Addr} {h : Heap} {as : List Addr} (g : ZipR Rel lo h as) {a : Addr} (ha : a ∈ as) : a < h.objs.size := by
  obtain ⟨j, hj⟩ := List.mem_iff_getElem?.mp ha
  obtain ⟨_, _, _, e⟩ := g.pairs j a hj
  exact Heap.lt_size e
/-- an iterator that tells tuples of two, while a list at S is being filled -/
structure LSrc (prog : Program) (w : World) (A : Around) (I S : Addr) (wr : List Addr) (n : Nat) (Rel : Nat → Value → Value → Prop) (St : Nat → Heap → Prop) : Prop where
  low : ∀ b ∈ wr, b < S
  frame : ∀ i h h', St i h → (∀ b o, b ≠ S → h.get? b = some o → h'.get? b = some o) → St i h'
  item : ∀ i (s : Shared) (Q : Option Value → Shared → Prop) (E : Value → Shared → Prop), i < n → St i s.heap → S < s.heap.objs.size →
    (∀ k v h' tk, Rel i k v → IsTupOf2 h' s.heap.objs.size k v → h'.objs.size = s.heap.objs.size + 1 → St (i + 1) h' → (∀ b o, b ∉ wr → s.heap.get? b = some o → h'.get? b = some o) → Q (some (.ref s.heap.objs.size)) { s with heap := h', toks := tk }) → wpAny (model prog w) A (pyNext (.ref I)) Q E s
  done : ∀ (s : Shared) (Q : Option Value → Shared → Prop) (E : Value → Shared → Prop), St n s.heap →
    (∀ h' tk, (∀ b o, b ∉ wr → s.heap.get? b = some o → h'.get? b = some o) → Q none { s with heap := h', toks := tk }) → wpAny (model prog w) A (pyNext (.ref I)) Q E s
section
variable {prog : Program} {w : World} {A : Around} {s : Shared} {R : Result → Shared → Prop} {I S : Addr} {wr : List Addr} {n : Nat} {Rel : Nat → Value → Value → Prop} {St : Nat → Heap → Prop}
end
section
variable {prog : Program} {w : World} {A : Around} {E : Value → Shared → Prop} {s : Shared} {z TI TO i1 i2 l1 l2 : Addr} {b c : Bool} {xs ys : Array Value}
/-- a zip of two, told while a list is being filled -/
def ZSt (b c : Bool) (z TI TO i1 i2 l1 l2 S : Addr) (xs ys : Array Value) (i : Nat) (h : Heap) : Prop :=
  IsTupOf2 h TI (.ref i1) (.ref i2) ∧ (IsIt b h i1 l1 i ∧ IsSq b h l1 xs) ∧ (IsIt c h i2 l2 i ∧ IsSq c h l2 ys) ∧
      ((IsZip h z TI TO .none ∧ ∃ a b, IsTupOf2 h TO a b) ∨ ∃ T f oT, IsZipHeld h z TI TO T f ∧ h.get? T = some oT ∧ T ≠ z ∧ T ≠ i1 ∧ T ≠ i2 ∧ T ≠ S)
/-- a zip as it is made -/
def ZNew (b c : Bool) (z TI TO i1 i2 l1 l2 : Addr) (xs ys : Array Value) (h : Heap) : Prop := IsZip h z TI TO .none ∧ IsTupOf2 h TI (.ref i1) (.ref i2) ∧ (∃ a b, IsTupOf2 h TO a b) ∧ IsIt b h i1 l1 0 ∧ IsIt c h i2 l2 0 ∧ IsSq b h l1 xs ∧ IsSq c h l2 ys
theorem ZNew.keep {h h' : Heap} (ok : ZNew b c z TI TO i1 i2 l1 l2 xs ys h) (hk : ∀ d ∈ [z, TI, TO, i1, i2, l1, l2], ∀ o, h.get? d = some o → h'.get? d = some o) : ZNew b c z TI TO i1 i2 l1 l2 xs ys h' := by
  obtain ⟨hz, hTI, ⟨a, b, hTO⟩, h1, h2, hl1, hl2⟩ := ok
  exact ⟨hk _ (by simp) _ hz, hk _ (by simp) _ hTI, ⟨a, b, hk _ (by simp) _ hTO⟩, h1.at fun o e => hk _ (by simp) o e, h2.at fun o e => hk _ (by simp) o e, hl1.at fun o e => hk _ (by simp) o e, hl2.at fun o e => hk _ (by simp) o e⟩
theorem ZNew.there {h : Heap} (ok : ZNew b c z TI TO i1 i2 l1 l2 xs ys h) : ∀ d ∈ [z, TI, TO, i1, i2, l1, l2], d < h.objs.size := fun d hd => by
  obtain ⟨hz, hTI, ⟨a, b, hTO⟩, h1, h2, hl1, hl2⟩ := ok
  simp only [List.mem_cons, List.not_mem_nil, or_false] at hd
  rcases hd with rfl | rfl | rfl | rfl | rfl | rfl | rfl
  · exact Heap.lt_size hz
  · exact Heap.lt_size hTI
  · exact Heap.lt_size hTO
  · obtain ⟨_, e⟩ := h1.lt; exact Heap.lt_size e
  · obtain ⟨_, e⟩ := h2.lt; exact Heap.lt_size e
  · obtain ⟨_, e⟩ := hl1.ex; exact Heap.lt_size e
  · obtain ⟨_, e⟩ := hl2.ex; exact Heap.lt_size e
theorem ZNew.st {S : Addr} {h : Heap} (ok : ZNew b c z TI TO i1 i2 l1 l2 xs ys h) : ZSt b c z TI TO i1 i2 l1 l2 S xs ys 0 h := by
  obtain ⟨hz, hTI, ⟨a, b, hTO⟩, h1, h2, hl1, hl2⟩ := ok
  exact ⟨hTI, ⟨h1, hl1⟩, ⟨h2, hl2⟩, .inl ⟨hz, a, b, hTO⟩⟩
end
section
variable {X : Cx}
end
section
variable {X : Cx} {ω : Bx} {e e2 : Expr} {ta : TA} {p p2 q pos : Pos}
end
/-- list(zip(a, b)) -/
@[irreducible] def lzipK (a b : D) (m : M) (Q : Kd) : Prop := Box <| ∃ ds es, itsD (res m a) = some ds ∧ itsD (res m b) = some es ∧ ds.length ≤ sizeLine ∧ Q (.lst ((ds.zip es).map fun q => .tup [q.1, q.2])) m
section
variable {X : Cx} {ω : Bx} {e e2 : Expr} {ta : TA2} {p p2 q pos : Pos}
end
end Z

/-! Z79: != of two tuples that are equal and hold tuples that may hold dicts. -/
namespace Z
open PySem PySem.Spec PyProof.Rows L2
open PySem.SeqAt (EqIn EqAt)
def EqDN (m : M) (d e : D) : Prop := EqDD m d e ∨ ∃ xs ys, res m d = .tup xs ∧ res m e = .tup ys ∧ xs.length = ys.length ∧ ∀ (i : Nat) d e, xs[i]? = some d → ys[i]? = some e → EqDD m d e
@[irreducible] def oNeTN : R22 := fun x y m Q => Box <| ∃ xs ys, res m x = .tup xs ∧ res m y = .tup ys ∧ xs.length = ys.length ∧ (∀ (i : Nat) d e, xs[i]? = some d → ys[i]? = some e → EqDN m d e) ∧ Q (.bl false) m
section
variable {X : Cx} {ω : Bx} {a b : Expr} {ta tb : TE2} {pos : Pos}
end
end Z

/-! Z80: == of two tuples that are equal and hold tuples that may hold dicts. -/
namespace Z
open PySem PySem.Spec PyProof.Rows L2
open PySem.SeqAt (EqIn EqAt)
@[irreducible] def oEqTN : R22 := fun x y m Q => Box <| ∃ xs ys, res m x = .tup xs ∧ res m y = .tup ys ∧ xs.length = ys.length ∧ (∀ (i : Nat) d e, xs[i]? = some d → ys[i]? = some e → EqDN m d e) ∧ Q (.bl true) m
section
variable {X : Cx} {ω : Bx} {a b : Expr} {ta tb : TE2} {pos : Pos}
end
end Z

/-! Z81: what holds of each list of so many values. -/
namespace Z
open PySem PySem.Spec PyProof.Rows L2
theorem us0 {P : List Value → Prop} (h : P []) : ∀ us : List Value, us.length = 0 → P us
  | [], _ => h
  | _ :: _, e => by cases e
theorem us1 {P : List Value → Prop} (h : ∀ a0, P [a0]) : ∀ us : List Value, us.length = 1 → P us
  | [], e => by cases e
  | a :: us, e => us0 (P := fun us => P (a :: us)) (h a) us (Nat.succ.inj e)
theorem us2 {P : List Value → Prop} (h : ∀ a0 a1, P [a0, a1]) : ∀ us : List Value, us.length = 2 → P us
  | [], e => by cases e
  | a :: us, e => us1 (P := fun us => P (a :: us)) (h a) us (Nat.succ.inj e)
theorem us3 {P : List Value → Prop} (h : ∀ a0 a1 a2, P [a0, a1, a2]) : ∀ us : List Value, us.length = 3 → P us
  | [], e => by cases e
  | a :: us, e => us2 (P := fun us => P (a :: us)) (h a) us (Nat.succ.inj e)
theorem us4 {P : List Value → Prop} (h : ∀ a0 a1 a2 a3, P [a0, a1, a2, a3]) : ∀ us : List Value, us.length = 4 → P us
  | [], e => by cases e
  | a :: us, e => us3 (P := fun us => P (a :: us)) (h a) us (Nat.succ.inj e)
end Z

/-! Z82: == of two tuples of plain things and of dicts at different places, equal or not. -/
namespace Z
open PySem PySem.Spec PyProof.Rows L2
open PySem.SeqAt (EqIn EqAt)
def EqDf (m : M) (d e : D) (f : Bool) : Prop := (okD 60 d = true ∧ okD 60 e = true ∧ eqD d e = f) ∨ ∃ (p : Addr) (l l' : List (Key × D)) (g : Key → Bool), d = .ref p ∧ m p = some (tbC l) ∧ (e = fdD l' ∨ ∃ q, e = .ref q ∧ p ≠ q ∧ m q = some (tbC l')) ∧ l.length = l'.length ∧ (∀ z ∈ l, ∃ e, gtK l' z.1 = some e ∧ okD 60 z.2 = true ∧ okD 60 e = true ∧ eqD z.2 e = g z.1) ∧ f = l.all fun z => g z.1
@[irreducible] def oEqTF : R22 := fun x y m Q => Box <| ∃ xs ys h, res m x = .tup xs ∧ res m y = .tup ys ∧ xs.length = ys.length ∧ (∀ (i : Nat) d e, xs[i]? = some d → ys[i]? = some e → EqDf m d e (h i)) ∧ Q (.bl ((List.range xs.length).all h)) m
theorem RP.all {K : PySem.W.Frag} {G : Hp} {g : Key → Bool} {l : List (Key × V)} {l' : List (Key × D)} (h : RP K G l l') : (l.all fun p => g p.1) = l'.all fun p => g p.1 := by
  induction h with
  | nil => rfl
  | @cons p q ps qs a t ih =>
    show (g p.1 && _) = (g q.1 && _)
    rw [a.1, ih]
section
variable {X : Cx} {ω : Bx} {a b : Expr} {ta tb : TE2} {pos : Pos}
end
end Z

/-! Z83: a def that neither raises nor loops, called within an except suite. -/
namespace Z
open PySem PySem.Spec PyProof.Rows L2
structure RmS (k : Nat) (A : Around) : Prop where
  d : A.depth + 3 * k + 5 < recursionLimit
  u : A.units + 16 * k + 200 < cLine
theorem RmS.mono {j k : Nat} {A : Around} (r : RmS k A) (h : j ≤ k) : RmS j A := ⟨by have := r.d; omega, by have := r.u; omega⟩
theorem RmS.of {k : Nat} {A : Around} {h : Option Value} (r : Room k A) : RmS k (A.mark h) := ⟨r.dp, r.un⟩
structure FnS (P : Program) (w : World) (K : PySem.W.Frag) (mg : Str → Option Value) (base : Heap) (k : Nat) (f : Addr) (fd : FuncData) (ps : List Str) (sp : Sp) : Prop where
  len : ∀ vs H Q E, sp vs H Q E → vs.length = ps.length
  run : ∀ (A : Around) (a : Addr) (outer : List Env) (s : Shared) (H : Hp) (args : Args) (us : List Value) (vs : List V) (Q : VK) (E : XK), RmS k A → A.handled = some (.ref a) →
    Env0 P w K mg base A outer s H → BindsTo s fd args (ps.zip us) → Vals vs us → sp vs H Q E → codeAny (model P w) A (.call (.ref f) args) (CR CX0 outer P w H s Q E) s
/-- a def that may be called within an except suite -/
structure DefS (P : Program) (w : World) (K : PySem.W.Frag) (mg : Str → Option Value) (base : Heap) (k : Nat) (x : Str) (sp : Sp2) : Prop where
  ex : ∃ (f : Addr) (fd : FuncData) (ps : List Str), FnS P w K mg base k f fd ps (lift K sp) ∧ mg x = some (.ref f) ∧ PySem.W.keepIn K (.ref f) = true ∧ Binds K fd ps []
section
variable {P : Program} {w : World} {K : PySem.W.Frag} {mg : Str → Option Value} {base : Heap} {x : Str} {st : Stmt} {f : Addr} {fd : FuncData} {N ps : List Str} {k : Nat}
theorem DefAt.okS {sp : Sp2} (A : DefAt K mg x st ps) (h : ∀ f fd, FunZ K x x st f fd → FnS P w K mg base k f fd ps (lift K sp)) : DefS P w K mg base k x sp := by
  obtain ⟨f, fd, F, hm, hb⟩ := A.ex
  exact ⟨f, fd, ps, h f fd F, hm, F.kp, hb⟩
end
section
variable {Y : Cx} {ω : Bx} {q : Addr} {pn : List (Addr × Obj)} {k kk : Nat} {sp : Sp2} {x : Str} {p pos : Pos} {e : Expr} {es : List Expr} {t : TA2}
end
end Z

/-! Z84: repr(x) of plain data up to 40 deep, whose text is told to be short. -/
namespace Z
open PySem PySem.Spec PyProof.Rows L2
@[irreducible] def reprDK : RC2 := fun xs m Q => Box <| ∃ d b n, xs = [d] ∧ Shw b n (res m d) ∧ n ≤ 40 ∧ (pyR (res m d)).shown.length ≤ lenR 4 ∧ Q (.str (pyR (res m d)).shown) m
section
variable {X : Cx} {ω : Bx} {x : Str} {p pos : Pos} {e : Expr} {es : List Expr} {t : TA2}
end
/-! the signs of what is shown -/
end Z

/-! Z85: sorted of a list of plain things that are alike (tuples ..), by their order as data. -/
namespace Z
open PySem PySem.Spec PyProof.Rows L2
def leD (d e : D) : Bool := PySem.W.dataLe false pyR d e
@[irreducible] def sortDK (x : D) (m : M) (Q : Kd) : Prop := Box <| ∃ (ds : List D) (b : Bool), lsD (res m x) = some ds ∧ (∀ d ∈ ds, Shw b 8 d) ∧ (∀ d ∈ ds, ∀ e ∈ ds, PySem.W.alike (pyR d) (pyR e) = true) ∧ PySem.W.Sortable (ds.map pyR) ∧ Q (.lst (ds.mergeSort leD)) m
section
variable {X : Cx} {ω : Bx} {p pos : Pos} {e : Expr} {es : List Expr} {t : TA2}
end
end Z

/-! Z86: != of two tuples of plain things and of dicts at different places, equal or not. -/
namespace Z
open PySem PySem.Spec PyProof.Rows L2
open PySem.SeqAt (EqIn EqAt)
open AutoSeq1 (wpAny_loadPart')
@[irreducible] def oNeTF : R22 := fun x y m Q => Box <| ∃ xs ys h, res m x = .tup xs ∧ res m y = .tup ys ∧ xs.length = ys.length ∧ (∀ (i : Nat) d e, xs[i]? = some d → ys[i]? = some e → EqDf m d e (h i)) ∧ Q (.bl (!(List.range xs.length).all h)) m
section
variable {X : Cx} {ω : Bx} {a b : Expr} {ta tb : TE2} {pos : Pos}
end
end Z

/-! Z87: a slice of a list as an owned list. -/
namespace Z
open PySem PySem.Spec PyProof.Rows L2
end Z

/-! Z88: a head's run looked at part by part (each part a lemma of its own). -/
namespace Z
open PySem PySem.W PyProof.Rows
/-- what a head asks for, by the quick forms of its lists -/
noncomputable def goodT (q : Program) (loose : List Str) : Seen × (Option Str × List (Str × Value)) × Bool × Bool × (List (Option FnShape) × Bool) × List (Option PlainShape) × List (Option (PlainShape × Bool)) × (List (Option FnShape) × Bool) × List (Option (List (Option FnShape) × Bool) × Option (PlainShape × Bool)) :=
  (⟨PySem.W.R.mapR (fun d => some d.shape) (PySem.W.Fast.tw3399658132070893891 q), true, [], true, true, true, 0⟩, bltViewBooted, true, true, (PySem.W.R.mapR (fun d => some d.1.shape) (PySem.W.Fast.tw3247288618530077131 q), true),
    PySem.W.R.mapR (fun c => some (PySem.W.Fast.tw12515865711710729776 c).plainShape) (PySem.W.Fast.tw210736558901404530 q (PySem.W.Fast.tw821141287760084731 q loose)),
    PySem.W.R.mapR (fun c => some (c.plainShape, true)) (PySem.W.Fast.tw4354255287344443571 q loose),
    (PySem.W.R.mapR (fun d => some d.1.shape) (PySem.W.Fast.tw694669760492028198 q), true),
    PySem.W.R.mapR (fun c => (wclsGood c, (some (c.plainShape, true) : Option (PlainShape × Bool)))) (PySem.W.Fast.tw1571739515156823405 q loose))
/-- a head, but for the parts of its run: what is asked of the run (by worlds), and the head from it -/
structure Cap (H : Prop) : Type where
  Q1 : World → OsState → Prop
  Q2 : World → OsState → Prop
  Q3 : World → OsState → Prop
  Q4 : World → OsState → Prop
  Q5 : World → OsState → Prop
  Q6 : World → OsState → Prop
  Q7 : World → OsState → Prop
  Q8 : World → OsState → Prop
  Q9 : World → OsState → Prop
  Q10 : World → OsState → Prop
  Q11 : World → OsState → Prop
  go : (∀ w os, Q1 w os) → (∀ w os, Q2 w os) → (∀ w os, Q3 w os) → (∀ w os, Q4 w os) → (∀ w os, Q5 w os) → (∀ w os, Q6 w os) → (∀ w os, Q7 w os) → (∀ w os, Q8 w os) → (∀ w os, Q9 w os) → (∀ w os, Q10 w os) → (∀ w os, Q11 w os) → H
end Z

/-! Z89: sets of texts, made of a list or a tuple; sorted(set(..)) of texts. -/
namespace Z
open PySem PySem.Spec PyProof.Rows L2
/-! ### a set of texts, with what a walk over it asks -/
def SetT (P : Program) (w : World) (h : Heap) (a : Addr) (l : List Str) : Prop :=
  ∃ D : Froz.SD, h.get? a = some (Froz.sObj "set" D) ∧ Froz.TxOk P w D l ∧ l.Nodup ∧ Ris D.2.2.place.toList ∧ (w.params.followText "set-order" = true ∨ D.2.2.led = true)
theorem tail_ris {ep : Nat} {es : Array (Int × Value)} {t : SetTable} {b : Bool} (r : Ris t.place.toList) : Ris (Froz.tailTx ep es t b).2.2.place.toList := by
  unfold Froz.tailTx
  split
  · exact relayAll_ris ..
  · exact r
theorem tail_led {ep : Nat} {es : Array (Int × Value)} {t : SetTable} {b : Bool} : (Froz.tailTx ep es t b).2.2.led = t.led := by
  unfold Froz.tailTx
  split
  · exact relayAll_led ..
  · rfl
theorem addTx_ris {h : Int} {v : Value} {D : Froz.SD} (r : Ris D.2.2.place.toList) : Ris (Froz.addTx h v D).2.2.place.toList := by
  unfold Froz.addTx
  refine tail_ris ?_
  split <;> exact layNew_ris _ _ _ _ r
theorem addTx_led {h : Int} {v : Value} {D : Froz.SD} : (Froz.addTx h v D).2.2.led = D.2.2.led := by
  unfold Froz.addTx
  rw [tail_led]
  split <;> exact layNew_led ..
theorem SetT.at {P : Program} {w : World} {h h' : Heap} {a : Addr} {l : List Str} (R : SetT P w h a l) (k : ∀ o, h.get? a = some o → h'.get? a = some o) : SetT P w h' a l := by
  obtain ⟨D, ho, r⟩ := R
  exact ⟨D, k _ ho, r⟩
section
variable {P : Program} {w : World} {A : Around} {E : Value → Shared → Prop} {s : Shared} {a : Addr} {l : List Str}
theorem SetT.add {k : Str} {u : Tok} {Q : Bool → Shared → Prop} (R : SetT P w s.heap a l) (room : l.length + 1 < scanBound)
    (q : ∀ h' l', Heap.SameBut a s.heap h' → SetT P w h' a l' → (∀ j, j ∈ l' ↔ j = k ∨ j ∈ l) → l'.length ≤ l.length + 1 → Q (decide (k ∉ l)) { s with heap := h' }) : wpAny (model P w) A (setAddHashed a (.str k u) (hashStr w k)) Q E s := by
  obtain ⟨D, ho, F, nd, r, le⟩ := R
  by_cases hk : k ∈ l
  · obtain ⟨es, ep, t⟩ := D
    have hd : (Froz.sObj "set" (es, ep, t)).data = .set es ep t := rfl
    have hel : ElemsOf (strKind P w) es.toList := F.el
    have hsz : es.size = l.length := F.sz
    have hkey : (strKind P w).is k (.str k u) = true := Froz.is_str k u
    obtain ⟨e, he, q1⟩ := (F.mem k).mp hk
    unfold setAddHashed setAddHashedIn
    refine wpAny_holding (wpAny_bind (wpAny_setState_of ho hd F.fit ?_))
    dsimp only
    rw [byScan_of rfl (by omega : es.size < scanBound) hel]
    simp only [↓reduceIte]
    unfold setAddByScan
    refine wpAny_bind (wpAny_bind (wpAny_rule (wpAny_bind (wpAny_setScan_of (knd := strKind P w) (k := k) hkey ho hd F.fit hel ?_))))
    cases hfi : List.findIdx? (fun e => (strKind P w).is k e.2) es.toList with
    | none =>
      have c := List.findIdx?_eq_none_iff.mp hfi e he
      rw [q1] at c
      cases c
    | some j =>
      dsimp only
      have z := q s.heap l (Heap.SameBut.refl a s.heap) ⟨(es, ep, t), ho, F, nd, r, le⟩ (fun j => ⟨.inr, fun z => z.elim (fun e => e ▸ hk) id⟩) (by omega)
      rw [decide_eq_false (fun z => z hk)] at z
      exact wpAny_pure (wpAny_pure z)
  · refine Froz.add_x ho F hk room ?_
    have z := q _ (k :: l) (Heap.SameBut.update s.heap a _) ⟨_, Froz.get_upd _ ho rfl, Froz.add_ok u F, List.nodup_cons.mpr ⟨hk, nd⟩, addTx_ris r, by rw [addTx_led]; exact le⟩ (fun j => List.mem_cons) (Nat.le_refl _)
    rw [decide_eq_true hk] at z
    exact z
theorem txOk_fresh {b : Bool} : Froz.TxOk P w (#[], 0, SetTable.fresh 0 0 b) [] := Froz.TxOk.nil rfl
theorem SetT.new {h : Heap} (ho : h.get? a = some { cls := .type "set", dict := none, data := .set #[] 0 (.fresh 0 0 (!w.params.followText "set-order")) }) : SetT P w h a [] :=
  ⟨(#[], 0, SetTable.fresh 0 0 (!w.params.followText "set-order")), ho, txOk_fresh, List.nodup_nil, List.Pairwise.nil, by
    show _ ∨ (!w.params.followText "set-order") = true
    cases w.params.followText "set-order" <;> simp⟩
end
section
variable {P : Program} {w : World} {A : Around} {E : Value → Shared → Prop} {s : Shared}
/-- the loop of set(..): each text put in -/
theorem put_texts {I : Addr} {fp wr : List Addr} {G : Array GenState → Array GenState → Prop} {n : Nat} {Pv : Nat → Value → Prop} {St : Nat → Shared → Prop} {R : Result → Shared → Prop}
    (W : WalksS P w A.in1 I fp wr G n Pv St) (S : Addr) (hSf : S ∉ fp) (zs : List Str) (hn : n = zs.length) (hb : zs.length + 1 < scanBound) (hv : ∀ i v, Pv i v → ∃ k t, zs[i]? = some k ∧ v = .str k t) :
    ∀ (d i : Nat) (s : Shared) (l : List Str), n - i = d → i ≤ n → St i s → SetT P w s.heap S l → (∀ j, j ∈ l ↔ j ∈ zs.take i) → l.length ≤ i →
      (∀ s' l', Moved (S :: wr) G s s' → SetT P w s'.heap S l' → (∀ j, j ∈ l' ↔ j ∈ zs) → R (.ok (.ret .none)) s') →
      codeAny (model P w) A (.builtin "set.update.loop" ⟨[.ref S, .ref I], []⟩) R s := by
  have hSw : S ∉ wr := fun h => hSf (W.sub _ h)
  have sub : ∀ b ∈ wr, b ∈ S :: wr := fun b hb => List.mem_cons_of_mem _ hb
  intro d
  induction d with
  | zero =>
    intro i s l hd hi hst hS hm hl hR
    have e : i = n := by omega
    subst e
    refine codeAny_builtin F.entry_set_update_loop ?_
    rw [Around.under_plainId F.plain_set_update_loop _]
    show wpAny _ A.in1 (pyNext (.ref I) >>= _) _ _ s
    refine wpAny_bind (W.done s _ _ hst fun s' mv => ?_)
    show wpAny _ A.in1 (ret Value.none) _ _ s'
    rw [List.take_of_length_le (by omega)] at hm
    exact wpAny_pure (hR s' l (mv.mono sub) (hS.at fun o e => mv.heap S o hSw e) hm)
  | succ d ih =>
    intro i s l hd hi hst hS hm hl hR
    have hlt : i < n := by omega
    refine codeAny_builtin F.entry_set_update_loop ?_
    rw [Around.under_plainId F.plain_set_update_loop _]
    show wpAny _ A.in1 (pyNext (.ref I) >>= _) _ _ s
    refine wpAny_bind (W.item i s _ _ hlt hst fun v s' hP hst' mv => ?_)
    obtain ⟨z, t, hz, rfl⟩ := hv i v hP
    have hS' : SetT P w s'.heap S l := hS.at fun o e => mv.heap S o hSw e
    show wpAny _ A.in1 (holding [Value.str z t] (setAdd S (.str z t)) >>= _) _ _ s'
    refine wpAny_bind (wpAny_holding ?_)
    unfold setAdd
    refine wpAny_holding (wpAny_bind ((strKind P w).pyHash (k := z) (Froz.is_str z t) ?_))
    refine SetT.add (s := { s' with toks := s'.toks + 1 }) hS' (by omega) fun h' l' sb hS2 hm2 hl2 => ?_
    have hm3 : ∀ j, j ∈ l' ↔ j ∈ zs.take (i + 1) := fun j => by
      rw [hm2, hm, List.take_add_one, hz]
      simp [List.mem_append, or_comm]
    refine wpAny_pure ⟨plainId_quiet F.plain_set_update_loop _, ih (i + 1) _ l' (by omega) hlt (W.frame _ s' _ _ hst' (Nat.le_succ _) fun b hb o e => ?_) hS2 hm3 (by omega) fun s'' l2 mv2 hS3 hm4 => ?_⟩
    · rw [sb.2 b (fun h : b = S => hSf (by rw [← h]; exact hb))]
      exact e
    · refine hR s'' l2 (Moved.trans W.gtrans ((mv.mono sub).then_heap (Nat.le_succ _) fun b o hb e => ?_) mv2) hS3 hm4
      rw [sb.2 b (fun h : b = S => hb (by rw [h]; exact List.mem_cons_self))]
      exact e
theorem str_item {items : Array Value} {zs : List Str} (hi : StrsAre items.toList zs) (hz : items.size = zs.length) (i : Nat) (v : Value) (hv : items[i]? = some v) : ∃ k t, zs[i]? = some k ∧ v = .str k t := by
  have hl : i < zs.length := by rw [← hz]; exact (Array.getElem?_eq_some_iff.mp hv).1
  obtain ⟨t, e⟩ := SS.strs_at hi i v (by rw [Array.getElem?_toList]; exact hv)
  refine ⟨zs[i], t, List.getElem?_eq_getElem hl, ?_⟩
  rw [e, List.getD_eq_getElem?_getD, List.getElem?_eq_getElem hl] <;> rfl
abbrev nuSet (w : World) : Obj := { cls := .type "set", dict := none, data := .set #[] 0 (.fresh 0 0 (!w.params.followText "set-order")) }

theorem set_of_l {l : Addr} {items : Array Value} (zs : List Str) {Q : Value → Shared → Prop} (hh : A.handled = none) (hl : s.heap.IsList l items) (hi : StrsAre items.toList zs) (hb : zs.length + 1 < scanBound)
    (q : ∀ (h' : Heap) (tk : Nat) (zl : List Str), SetT P w h' s.heap.objs.size zl → (∀ j, j ∈ zl ↔ j ∈ zs) → (∀ b o, s.heap.get? b = some o → h'.get? b = some o) → Q (.ref s.heap.objs.size) { s with heap := h', toks := tk }) :
    wpAny (model P w) A (call (.type "set") [.ref l]) Q E s := by
  have hz : items.size = zs.length := by
    have z := StrsAre.len_eq hi
    rw [Array.length_toList] at z
    exact z
  obtain ⟨c, tl, hmro⟩ := F.called_set.mro
  have hmade := F.called_set.made
  have hsub := F.called_set.sub
  refine wpAny_call (codeAny_of_tree ?_)
  show wpAny _ _ (callAny (.type "set") _) _ _ _
  refine wpAny_pure ⟨Code.quiet_builtin _ (by decide +kernel), codeAny_builtin F.entry_type_call ?_⟩
  rw [Around.under_plain (weight_type_call_type "set" [.ref l] []) rfl]
  have h1 := F.called_set.notType
  have h2 := F.called_set.canCreate
  have hct := F.typeCall_set_1 (.ref l)
  repeat (any_goals (first | assumption | wp_step))
  refine codeAny_mono (code_set_led1 (.ref l) (E := E) (Q₁ := fun ob s₁ => ob = .ref s.heap.objs.size ∧ s₁ = { s with heap := s.heap.push (nuSet w) }) ⟨rfl, rfl⟩) fun r s₁ hr => ?_
  cases r with
  | error e => exact hr
  | ok fl =>
    cases fl with
    | ret ob =>
      obtain ⟨rfl, rfl⟩ := hr
      have hS : (s.heap.push (nuSet w)).get? s.heap.objs.size = some (nuSet w) := Heap.get?_push_size _ rfl
      have hT : Shared.TypeIs { s with heap := s.heap.push (nuSet w) } (.ref s.heap.objs.size) "set" := ⟨_, hS, rfl⟩
      have hli := F.called_set.init.lookup
      have hbi := F.called_set.init.bind (.ref s.heap.objs.size)
      repeat (any_goals (first | assumption | wp_step))
      refine codeAny_mono (codeAny_call_builtin (R := wants (fun r s₂ => r = .none ∧ ∃ h' tk zl, s₂ = { s with heap := h', toks := tk } ∧ SetT P w h' s.heap.objs.size zl ∧ (∀ j, j ∈ zl ↔ j ∈ zs) ∧ (∀ b o, s.heap.get? b = some o → h'.get? b = some o)) E) F.called_set.init.plain F.entry_set_init (check_set_init_1 hT ?_)) fun r₂ s₂ hr₂ => ?_
      · obtain ⟨ol, hol, hcl, nl, hdl⟩ := hl
        obtain ⟨ocls, odict, odata, oslots⟩ := ol
        simp only at hcl hdl
        subst hcl; subst hdl
        have hol' : (s.heap.push (nuSet w)).get? l = some { cls := .type "list", dict := odict, data := .seq items nl, slots := oslots } := Heap.get?_push_of_some _ hol
        have hsls := F.sub_list_set
        have hslf := F.sub_list_frozenset
        have hne : (Value.type "list" == Value.type "dict") = false := by decide
        have hl1 : (s.heap.push (nuSet w)).IsList l items := ⟨_, hol', rfl, nl, rfl⟩
        unfold Builtin.«set.__init__» noKeywords Builtin.Frozenset.updateFrom
        generalize hPI : pyIter = PI
        wp_walk
        subst hPI
        refine wpAny_pyIter_list hl1 (wpAny_bind (wpAny_runValue ?_))
        have hlS : l < s.heap.objs.size := Heap.lt_size hol
        have hh3 : A.in1.in1.in1.handled = none := by simp [hh]
        have hz1 : (s.heap.push (nuSet w)).objs.size = s.heap.objs.size + 1 := Heap.size_push ..
        have hneI : l ≠ (s.heap.push (nuSet w)).objs.size := by
          rw [hz1]
          exact Nat.ne_of_lt (Nat.lt_succ_of_lt hlS)
        have hSf : s.heap.objs.size ∉ [(s.heap.push (nuSet w)).objs.size, l] := by
          simp only [List.mem_cons, List.not_mem_nil, or_false, not_or]
          rw [hz1]
          exact ⟨Nat.ne_of_lt (Nat.lt_succ_self _), Nat.ne_of_gt hlS⟩
        refine put_texts ((Walks.list hh3 _ l hneI items).toS) s.heap.objs.size hSf zs hz hb (fun i v => str_item hi hz i v) (items.size - 0) 0 _ [] (by omega) (Nat.zero_le _) ⟨⟨_, Heap.get?_push_size _ rfl, rfl, rfl⟩, (hl1.push _)⟩ (SetT.new (Heap.get?_push_of_some _ hS)) (fun j => by simp) (Nat.le_refl _) ?_
        intro s' l' mv hS' hm'
        obtain ⟨h', g2, d', tk', os'⟩ := s'
        have eg : g2 = s.gens := mv.gens
        have ed : d' = s.drawn := mv.drawn
        have eo : os' = s.os := mv.os
        subst eg; subst ed; subst eo
        show wpAny _ _ _ _ _ _
        refine wpAny_pure ?_
        show wpAny _ _ (ret Value.none) _ _ _
        refine wpAny_pure ⟨rfl, h', tk', l', rfl, hS', hm', fun b o e => ?_⟩
        have hb0 : b < s.heap.objs.size := Heap.lt_size e
        refine mv.heap b o ?_ (Heap.get?_push_of_some _ (Heap.get?_push_of_some _ e))
        simp only [List.mem_cons, List.not_mem_nil, or_false, not_or]
        rw [hz1]
        exact ⟨Nat.ne_of_lt hb0, Nat.ne_of_lt (Nat.lt_succ_of_lt hb0)⟩
      · cases r₂ with
        | error e => exact hr₂
        | ok fl₂ =>
          cases fl₂ with
          | ret r =>
            obtain ⟨rfl, h', tk, zl, rfl, hS', hm', hk'⟩ := hr₂
            repeat (any_goals (first | assumption | wp_step))
            exact q _ _ _ hS' hm' hk'
          | _ => exact hr₂.elim
    | _ => exact hr.elim

theorem set_of_t {l : Addr} {items : Array Value} (zs : List Str) {Q : Value → Shared → Prop} (hh : A.handled = none) (hl : s.heap.IsTuple l items) (hi : StrsAre items.toList zs) (hb : zs.length + 1 < scanBound)
    (q : ∀ (h' : Heap) (tk : Nat) (zl : List Str), SetT P w h' s.heap.objs.size zl → (∀ j, j ∈ zl ↔ j ∈ zs) → (∀ b o, s.heap.get? b = some o → h'.get? b = some o) → Q (.ref s.heap.objs.size) { s with heap := h', toks := tk }) :
    wpAny (model P w) A (call (.type "set") [.ref l]) Q E s := by
  have hz : items.size = zs.length := by
    have z := StrsAre.len_eq hi
    rw [Array.length_toList] at z
    exact z
  obtain ⟨c, tl, hmro⟩ := F.called_set.mro
  have hmade := F.called_set.made
  have hsub := F.called_set.sub
  refine wpAny_call (codeAny_of_tree ?_)
  show wpAny _ _ (callAny (.type "set") _) _ _ _
  refine wpAny_pure ⟨Code.quiet_builtin _ (by decide +kernel), codeAny_builtin F.entry_type_call ?_⟩
  rw [Around.under_plain (weight_type_call_type "set" [.ref l] []) rfl]
  have h1 := F.called_set.notType
  have h2 := F.called_set.canCreate
  have hct := F.typeCall_set_1 (.ref l)
  repeat (any_goals (first | assumption | wp_step))
  refine codeAny_mono (code_set_led1 (.ref l) (E := E) (Q₁ := fun ob s₁ => ob = .ref s.heap.objs.size ∧ s₁ = { s with heap := s.heap.push (nuSet w) }) ⟨rfl, rfl⟩) fun r s₁ hr => ?_
  cases r with
  | error e => exact hr
  | ok fl =>
    cases fl with
    | ret ob =>
      obtain ⟨rfl, rfl⟩ := hr
      have hS : (s.heap.push (nuSet w)).get? s.heap.objs.size = some (nuSet w) := Heap.get?_push_size _ rfl
      have hT : Shared.TypeIs { s with heap := s.heap.push (nuSet w) } (.ref s.heap.objs.size) "set" := ⟨_, hS, rfl⟩
      have hli := F.called_set.init.lookup
      have hbi := F.called_set.init.bind (.ref s.heap.objs.size)
      repeat (any_goals (first | assumption | wp_step))
      refine codeAny_mono (codeAny_call_builtin (R := wants (fun r s₂ => r = .none ∧ ∃ h' tk zl, s₂ = { s with heap := h', toks := tk } ∧ SetT P w h' s.heap.objs.size zl ∧ (∀ j, j ∈ zl ↔ j ∈ zs) ∧ (∀ b o, s.heap.get? b = some o → h'.get? b = some o)) E) F.called_set.init.plain F.entry_set_init (check_set_init_1 hT ?_)) fun r₂ s₂ hr₂ => ?_
      · obtain ⟨ol, hol, hcl, nl, hdl⟩ := hl
        obtain ⟨ocls, odict, odata, oslots⟩ := ol
        simp only at hcl hdl
        subst hcl; subst hdl
        have hol' : (s.heap.push (nuSet w)).get? l = some { cls := .type "tuple", dict := odict, data := .seq items nl, slots := oslots } := Heap.get?_push_of_some _ hol
        have hsls := F.sub_tuple_set
        have hslf := F.sub_tuple_frozenset
        have hne : (Value.type "tuple" == Value.type "dict") = false := by decide
        have hl1 : (s.heap.push (nuSet w)).IsTuple l items := ⟨_, hol', rfl, nl, rfl⟩
        unfold Builtin.«set.__init__» noKeywords Builtin.Frozenset.updateFrom
        generalize hPI : pyIter = PI
        wp_walk
        subst hPI
        refine wpAny_pyIter_tuple hl1 (wpAny_bind (wpAny_runValue ?_))
        have hlS : l < s.heap.objs.size := Heap.lt_size hol
        have hh3 : A.in1.in1.in1.handled = none := by simp [hh]
        have hz1 : (s.heap.push (nuSet w)).objs.size = s.heap.objs.size + 1 := Heap.size_push ..
        have hneI : l ≠ (s.heap.push (nuSet w)).objs.size := by
          rw [hz1]
          exact Nat.ne_of_lt (Nat.lt_succ_of_lt hlS)
        have hSf : s.heap.objs.size ∉ [(s.heap.push (nuSet w)).objs.size, l] := by
          simp only [List.mem_cons, List.not_mem_nil, or_false, not_or]
          rw [hz1]
          exact ⟨Nat.ne_of_lt (Nat.lt_succ_self _), Nat.ne_of_gt hlS⟩
        refine put_texts ((Walks.tuple hh3 _ l hneI items).toS) s.heap.objs.size hSf zs hz hb (fun i v => str_item hi hz i v) (items.size - 0) 0 _ [] (by omega) (Nat.zero_le _) ⟨⟨_, Heap.get?_push_size _ rfl, rfl, rfl⟩, (hl1.push _)⟩ (SetT.new (Heap.get?_push_of_some _ hS)) (fun j => by simp) (Nat.le_refl _) ?_
        intro s' l' mv hS' hm'
        obtain ⟨h', g2, d', tk', os'⟩ := s'
        have eg : g2 = s.gens := mv.gens
        have ed : d' = s.drawn := mv.drawn
        have eo : os' = s.os := mv.os
        subst eg; subst ed; subst eo
        show wpAny _ _ _ _ _ _
        refine wpAny_pure ?_
        show wpAny _ _ (ret Value.none) _ _ _
        refine wpAny_pure ⟨rfl, h', tk', l', rfl, hS', hm', fun b o e => ?_⟩
        have hb0 : b < s.heap.objs.size := Heap.lt_size e
        refine mv.heap b o ?_ (Heap.get?_push_of_some _ (Heap.get?_push_of_some _ e))
        simp only [List.mem_cons, List.not_mem_nil, or_false, not_or]
        rw [hz1]
        exact ⟨Nat.ne_of_lt hb0, Nat.ne_of_lt (Nat.lt_succ_of_lt hb0)⟩
      · cases r₂ with
        | error e => exact hr₂
        | ok fl₂ =>
          cases fl₂ with
          | ret r =>
            obtain ⟨rfl, h', tk, zl, rfl, hS', hm', hk'⟩ := hr₂
            repeat (any_goals (first | assumption | wp_step))
            exact q _ _ _ hS' hm' hk'
          | _ => exact hr₂.elim
    | _ => exact hr.elim
end

theorem perm_of_sub : ∀ {l m : List Str}, l.Nodup → (∀ x ∈ l, x ∈ m) → m.length ≤ l.length → m.Perm l
  | [], m, _, _, hl => by
    have e : m = [] := List.length_eq_zero_iff.mp (Nat.le_zero.mp hl)
    rw [e]
  | x :: l, m, hn, hs, hl => by
    obtain ⟨h1, h2⟩ := List.nodup_cons.mp hn
    have hx := hs x List.mem_cons_self
    refine (List.perm_cons_erase hx).trans ((perm_of_sub h2 (fun y hy => ?_) ?_).cons x)
    · exact (List.mem_erase_of_ne fun (e : y = x) => h1 (by rw [← e]; exact hy)).mpr (hs y (List.mem_cons_of_mem _ hy))
    · rw [List.length_erase_of_mem hx]
      rw [List.length_cons] at hl
      omega
section
variable {P : Program} {w : World} {A : Around} {E : Value → Shared → Prop} {s : Shared}

/-! ### sorted -/
theorem elem_str {e : Int × Value} {es : List (Int × Value)} (hel : ElemsOf (strKind P w) es) (he : e ∈ es) : ∃ k t, e.2 = .str k t := by
  obtain ⟨⟨k, h1, _⟩, _⟩ := hel e he
  have h1 : Value.isStrOf k e.2 = true := h1
  cases hv : e.2 with
  | str x t => exact ⟨x, t, rfl⟩
  | _ => rw [hv] at h1; cases h1
theorem is_of {k j : Str} {t : Tok} (h : (strKind P w).is k (.str j t) = true) : j = k := by
  have h : Value.isStrOf k (.str j t) = true := h
  simpa [Value.isStrOf] using h
theorem SetT.sorted {a : Addr} {l : List Str} {Q : Value → Shared → Prop} (R : SetT P w s.heap a l) (hh : A.handled = none) (h64 : l.length < 64)
    (q : ∀ s' p (out : Array Value) (c : Nat) (zs : List Str), (∀ b o, s.heap.get? b = some o → s'.heap.get? b = some o) → s'.gens = s.gens → s'.os = s.os → s.heap.objs.size ≤ p →
      s'.heap.get? p = some (seqObj "list" out c) → StrsAre out.toList zs → sortedS zs = true → zs.Perm l → Q (.ref p) s') : wpAny (model P w) A (call (.builtin "sorted") [.ref a]) Q E s := by
  obtain ⟨⟨es, ep, t⟩, ho, F, nd, r, le⟩ := R
  have hel : ElemsOf (strKind P w) es.toList := F.el
  have hsz : es.size = l.length := F.sz
  have hb : es.size < scanBound := by rw [hsz]; unfold scanBound; omega
  have nde : (es.toList.map fun e => strOf e.2).Perm l := by
    refine perm_of_sub nd (fun k hk => ?_) (by rw [List.length_map, Array.length_toList, hsz]; exact Nat.le_refl _)
    obtain ⟨e, he, z⟩ := (F.mem k).mp hk
    obtain ⟨j, u, ej⟩ := elem_str hel he
    rw [ej] at z
    exact List.mem_map.mpr ⟨e, he, by rw [ej]; exact is_of z⟩
  refine Calls.call_function_entry kind_sorted plain_sorted entry_sorted (args_sorted1 _) ?_
  unfold Builtin.«sorted»
  refine wpAny_bind (m := checkCount "sorted" 1 1 _) (wpAny_pure ?_)
  refine wpAny_bind (collect_set (A := A.in1) hh ⟨_, ho, rfl, rfl⟩ F.fit hb r le fun s1 vs k1 hz g1 o1 pm => ?_)
  have hvl : vs.length = l.length := by rw [pm.length_eq, List.length_map, Array.length_toList]; exact hsz
  have hI : StrsAre vs (vs.map strOf) := strsAre_map vs fun v hv => by
    obtain ⟨e, he, z⟩ := List.mem_map.mp (pm.mem_iff.mp hv)
    obtain ⟨j, u, ej⟩ := elem_str hel he
    exact ⟨j, u, by rw [← z]; exact ej⟩
  have pk : (vs.map strOf).Perm l := by
    have z := pm.map strOf
    rw [List.map_map] at z
    exact z.trans nde
  refine wpAny_bind (wpAny_newList ?_ (by rw [hvl, sizeLine_eq]; omega))
  have hoL : (s1.heap.push (seqObj "list" vs.toArray 0)).get? s1.heap.objs.size = some (seqObj "list" vs.toArray 0) := Heap.get?_push_size _ rfl
  refine wpAny_bind (wpAny_holding (wpAny_call_entry slot_list_sort ⟨_, hoL, rfl⟩ entry_list_sort (list_sort_treeK strKind_oneLt hoL hI.keysOf (fun v₁ v₂ rest e => keyKind_strs (by rw [← e]; exact hI)) (by rw [hvl]; exact h64) fun st' a1 a2 => ⟨_, rfl, ?_⟩) (args_list_sort _)))
  obtain ⟨ss, b1, b2, b3⟩ := sorted_out_str hI a1 a2
  obtain ⟨c, hc⟩ := sortedHeap_at (vs := vs) (out := (arrOf st').map (·.2)) hoL
  refine wpAny_pure ⟨_, rfl, q _ s1.heap.objs.size _ c ss (fun b u e => ?_) g1 o1 hz hc b1 b3 (b2.trans pk)⟩
  have z := k1 b u e
  have hlt := Heap.lt_size z
  show (sortedHeap (s1.heap.push (seqObj "list" vs.toArray 0)) s1.heap.objs.size vs _).get? b = some u
  rw [sortedHeap_old (Nat.ne_of_lt hlt) (by rw [size_push']; exact Nat.lt_succ_of_lt hlt)]
  exact Heap.get?_push_of_some _ z
end
section
variable {X : Cx} {ω : Bx} {a b : Expr} {p p2 q pos pos2 : Pos}
/-- sorted(set(x)): the texts of a list or a tuple, each once -/
def rSortSetS (K : PySem.W.Frag) (x : V) (H1 : Hp) (Q : VK) : Prop := ∃ (l : Addr) (zs : List Str), x = .ref l ∧ (SqL K H1 l (zs.map V.str) ∨ SqT K H1 l (zs.map V.str)) ∧ zs.length < 64 ∧
  ∀ (ys : List Str) (H2 : Hp) (p : Addr), Ex H1 H2 → sortedS ys = true → ys.Nodup → (∀ k, k ∈ ys ↔ k ∈ zs) → H2 p = none → Q (.ref p) (upd H2 p (.lst (ys.map V.str)))
theorem nd_len : ∀ {l m : List Str}, l.Nodup → (∀ x ∈ l, x ∈ m) → l.length ≤ m.length
  | [], _, _, _ => Nat.zero_le _
  | x :: l, m, hn, hs => by
    obtain ⟨h1, h2⟩ := List.nodup_cons.mp hn
    have hx := hs x List.mem_cons_self
    have ih := nd_len h2 (m := m.erase x) fun y hy => (List.mem_erase_of_ne fun (e : y = x) => h1 (by rw [← e]; exact hy)).mpr (hs y (List.mem_cons_of_mem _ hy))
    have hp := List.length_pos_of_mem hx
    rw [List.length_erase_of_mem hx] at ih
    rw [List.length_cons]
    omega
theorem SetT.nd {P : Program} {w : World} {h : Heap} {a : Addr} {l : List Str} (R : SetT P w h a l) : l.Nodup := by
  obtain ⟨D, ho, F, nd, r⟩ := R
  exact nd
theorem laid_texts {pins : List (Addr × Obj)} {σ : St} {H : Hp} {s s' : Shared} {p : Addr} {out : Array Value} {c : Nat} {ys : List Str} (I : Inv X pins σ H s) (k : ∀ b o, s.heap.get? b = some o → s'.heap.get? b = some o) (g : s'.gens = s.gens) (o : s'.os = s.os) (hp : s.heap.objs.size ≤ p)
    (hgt : s'.heap.get? p = some (seqObj "list" out c)) (hi : StrsAre out.toList ys) (hl : ys.length ≤ sizeLine) : Inv X pins σ (upd H p (.lst (ys.map V.str))) s' ∧ H p = none := by
  have hn : H p = none := I.hok.fresh hp
  have hlen : (ys.map V.str).length ≤ sizeLine := by rw [List.length_map]; exact hl
  have J : Inv X pins σ (upd H p (.lst (ys.map V.str))) { s with heap := s'.heap, gens := s'.gens, drawn := s'.drawn, toks := s'.toks } :=
    I.call (ch := []) (Un.laid k hp hn) (I.hok.laid k hp ⟨hlen, out.toList, c, vals_of_strs hi, hgt⟩) (by rw [g]; exact I.bare) (fun _ z => nomatch z)
  have e : s' = { s with heap := s'.heap, gens := s'.gens, drawn := s'.drawn, toks := s'.toks } := by
    cases s'
    cases s
    cases o
    rfl
  rw [e]
  exact ⟨J, hn⟩
theorem pe_sortSetS {ta : TE} (hc : X.calm = true) (hg : Gl X "sorted") (hm : X.mg "sorted" = none) (hg2 : Gl X "set") (hm2 : X.mg "set" = none) (ha : PE X a ta)
    (na : starEach [a] X.env = (false, eval a X.env) :: starEach [] X.env := by rfl) : PE X (.Call (.Name "sorted" p) [.Call (.Name "set" p2) [a] [] q] [] pos) (fun σ H Q => ta σ H fun x H1 => rSortSetS X.K x H1 Q) := by
  refine ⟨fun pins s σ H Q I h => ?_⟩
  refine Call_ (ld_blt I hg hm bt_sorted ?_)
  refine PyProof.Rows.callWith_builtin1 (PyProof.Rows.args_cons ?_ rfl) rfl rfl
  refine Call_ (ld_blt I hg2 hm2 boot_set ?_)
  refine PyProof.Rows.callWith_type1 (PyProof.Rows.args_cons (thn (ha.run pins s σ H _ I h) fun v s1 ⟨x, H1, I1, r1, q1⟩ => PyProof.Rows.args_nil ?_) na) na rfl
  obtain ⟨l, zs, rfl, hq, hb, q1⟩ := q1
  cases r1
  have hsb : zs.length + 1 < scanBound := by unfold scanBound; omega
  have fin : ∀ (h' : Heap) (tk : Nat) (zl : List Str), SetT X.prog X.w h' s1.heap.objs.size zl → (∀ j, j ∈ zl ↔ j ∈ zs) → (∀ b o, s1.heap.get? b = some o → h'.get? b = some o) →
      wpAny (model X.prog X.w) X.A (spliced (backTo pos (starEach [] X.env))) (fun vs s₂ => wpAny (model X.prog X.w) X.A (call (.builtin "sorted") (Value.ref s1.heap.objs.size :: vs)) (EP X pins σ Q) X.xe s₂) X.xe { s1 with heap := h', toks := tk } := fun h' tk zl R hm2 hk => by
    refine PyProof.Rows.args_nil ?_
    have I2 : Inv X pins σ H1 { s1 with heap := h', toks := tk } := I1.kept fun b o e => hk b o e
    have hzl : zl.length ≤ zs.length := nd_len R.nd fun x hx => (hm2 x).mp hx
    refine SetT.sorted (s := { s1 with heap := h', toks := tk }) R (I1.ok.hd hc) (by omega) fun s' p out c ys k g o hp hgt hi hs pm => ?_
    obtain ⟨J, hn⟩ := laid_texts I2 k g o hp hgt hi (by rw [pm.length_eq, sizeLine_eq]; omega)
    exact ⟨.ref p, _, J, rfl, q1 ys H1 p (fun b o e => e) hs (pm.nodup_iff.mpr R.nd) (fun k => by rw [pm.mem_iff]; exact hm2 k) hn⟩
  rcases hq with hq | hq
  · obtain ⟨its, r, pl, hz⟩ := I1.list hq
    exact set_of_l zs (I1.ok.hd hc) pl.isList (by simpa using r.strs) hsb fin
  · obtain ⟨its, r, pl, hz⟩ := I1.tuple hq
    exact set_of_t zs (I1.ok.hd hc) pl (by simpa using r.strs) hsb fin
@[irreducible] def sortSetSK (x : D) (m : M) (Q : Kd) : Prop := Box <| ∃ zs : List Str, itsD (res m x) = some (zs.map D.str) ∧ zs.length < 64 ∧ ∀ ys : List Str, sortedS ys = true → ys.Nodup → (∀ k, k ∈ ys ↔ k ∈ zs) → Q (.lst (ys.map D.str)) m
theorem sortSetS_of {x : D} {m : M} {Q : Kd} (zs : List Str) (e : itsD (res m x) = some (zs.map D.str)) (h : zs.length < 64) (q : ∀ ys : List Str, sortedS ys = true → ys.Nodup → (∀ k, k ∈ ys ↔ k ∈ zs) → Q (.lst (ys.map D.str)) m) : sortSetSK x m Q := by unfold sortSetSK; exact ⟨⟨zs, e, h, q⟩⟩
theorem sortSetSU {ta : TE2} (hc : X.calm = true) (hg : Gl X "sorted") (hm : X.mg "sorted" = none) (hg2 : Gl X "set") (hm2 : X.mg "set" = none) (ha : PE2 X ω a ta)
    (na : starEach [a] X.env = (false, eval a X.env) :: starEach [] X.env := by rfl) : PE2 X ω (.Call (.Name "sorted" p) [.Call (.Name "set" p2) [a] [] q] [] pos) (fun g m Q => ta g m fun x m1 => sortSetSK x m1 Q) :=
  (pe_sortSetS hc hg hm hg2 hm2 pe_sem na).to2 fun σ H g m Q S hm q => (ha.sem S hm q).mono fun x H1 ⟨d, m1, s1, r1, q1⟩ => by
    have q1 : sortSetSK d m1 Q := q1
    unfold sortSetSK at q1
    obtain ⟨zs, e, hl, q1⟩ := q1.out
    obtain ⟨a, ws, rfl, hs, hr⟩ := itsOf r1 s1.mem e
    rw [hr.strs] at hs
    refine ⟨a, zs, rfl, hs, hl, fun ys H2 p hx h1 h2 h3 hp => ?_⟩
    have st := Step.more s1.mem hx
    exact P2.go (s1.trans st) (.new st.mem hp (.lst (Step.new_at st.mem hp) (Reps.of_strs ys)) (q1 ys h1 h2 h3))
end
end Z

/-! Z90: sorted of a tuple of texts; sum of a list of tuples. -/
namespace Z
open PySem PySem.Spec PyProof.Rows L2
section
variable {pg : Program} {w : World} {A : Around} {Ee : Value → Shared → Prop} {z : Shared}
end
/-- sorted of texts, in a list or a tuple -/
@[irreducible] def sortSK (x : D) (m : M) (Q : Kd) : Prop := Box <| ∃ zs : List Str, itsD (res m x) = some (zs.map D.str) ∧ zs.length < 64 ∧ ∀ ys : List Str, ys.Perm zs → sortedS ys = true → Q (.lst (ys.map D.str)) m
section
variable {X : Cx} {ω : Bx} {p pos : Pos} {e : Expr} {es : List Expr} {t : TA2}
end
/-! ### sum(xs, ()) of a list of tuples -/
section
variable {prog : Program} {w : World} {A : Around} {E : Value → Shared → Prop} {s : Shared}
open HT in
theorem add_any {t b : Addr} {vs ws : List Value} {Q : Value → Shared → Prop} (ht : IsTup s.heap t vs.toArray) (hb : IsTup s.heap b ws.toArray) (h0 : vs = [] → Q (.ref b) s) (h1 : vs ≠ [] → ws = [] → Q (.ref t) s)
    (h2 : vs ≠ [] → ws ≠ [] → Q (.ref s.heap.objs.size) { s with heap := s.heap.push { cls := .type "tuple", data := .seq (vs ++ ws).toArray } }) (hsz : vs.length + ws.length ≤ sizeLine) : wpAny (model prog w) A (binaryOp .Add (.ref t) (.ref b)) Q E s := by
  by_cases hv : vs = []
  · subst hv
    exact cat_tup0 ht hb (h0 rfl)
  · exact cat_tup ht hb hv (h1 hv) (h2 hv) hsz
end
section
variable {X : Cx}
end
@[irreducible] def kSumT : RC2 := fun xs m Q => Box <| match xs with
  | [x, y] => ∃ dss : List (List D), lsD (res m x) = some (dss.map .tup) ∧ res m y = .tup [] ∧ dss.flatten.length ≤ sizeLine ∧ Q (.tup dss.flatten) m
  | _ => False
section
variable {X : Cx} {ω : Bx} {p pos : Pos} {e : Expr} {es : List Expr} {t : TA2}
end
end Z

/-! Z91: sorted of a list of plain alike things, as an owned list. -/
namespace Z
open PySem PySem.Spec PyProof.Rows L2
@[irreducible] def sortDMK (x : D) (m : M) (Q : Kd) : Prop := Box <| ∃ (ds : List D) (b : Bool), lsD (res m x) = some ds ∧ (∀ d ∈ ds, Shw b 8 d) ∧ (∀ d ∈ ds, ∀ e ∈ ds, PySem.W.alike (pyR d) (pyR e) = true) ∧ PySem.W.Sortable (ds.map pyR) ∧ ∀ p, m p = none → Q (.ref p) (upM m p (.lst (ds.mergeSort leD)))
section
variable {X : Cx} {ω : Bx} {p pos : Pos} {e : Expr} {es : List Expr} {t : TA2}
end
end Z

/-! Z92: str.upper; a def that promises nothing (the end of a recursion). -/
namespace Z
open PySem PySem.Spec PyProof.Rows L2
theorem fn_false {P : Program} {w : World} {K : PySem.W.Frag} {mg : Str → Option Value} {base : Heap} {k : Nat} {f : Addr} {fd : FuncData} {ps : List Str} : FnOk P w K mg base CX0 k f fd ps (lift K fun _ _ _ _ => False) :=
  ⟨fun _ _ _ _ h => by obtain ⟨_, _, _, _, _, _, h, _⟩ := h; exact h.elim, fun _ _ _ _ _ _ _ _ _ _ _ _ _ h => by obtain ⟨_, _, _, _, _, _, h, _⟩ := h; exact h.elim⟩
@[irreducible] def upK (a : Str) (m : M) (Q : Kd) : Prop := Box <| a.length ≤ 5592405 ∧ Q (.str (Txt.upper a)) m
theorem upK_of {a : Str} {m : M} {Q : Kd} (h : a.length ≤ 5592405) (q : Q (.str (Txt.upper a)) m) : upK a m Q := by unfold upK; exact ⟨h, q⟩
section
variable {X : Cx} {ω : Bx} {o : Expr} {to : TE2} {apos pos : Pos}
theorem m_upper0M (ho : PE2 X ω o to) (hbase : attributeBase o "upper" X.env (eval o X.env) = eval o X.env := by rfl) (hline : (apos.endLine == pos.line) = true := by rfl) :
    PE2 X ω (.Call (.Attribute o "upper" apos) [] [] pos) (fun g m Q => to g m fun d m1 => match d with | .str a => upK a m1 Q | _ => False) :=
  (pe_upper pe_sem hbase hline).to2 fun σ H g m Q S hm q => (ho.sem S hm q).mono fun v H1 ⟨d, m1, s1, r1, q1⟩ => by
    dsimp only at q1
    split at q1
    · rename_i a
      cases r1
      unfold upK at q1
      obtain ⟨h1, h2⟩ := q1.out
      exact ⟨⟨a, rfl⟩, a, rfl, rfl, h1, P2.go s1 (.same s1.mem (.str _) h2)⟩
    · exact q1.elim
end
end Z

/-! Z93: != of a list of whatever things and an empty list. -/
namespace Z
open PySem PySem.Spec PyProof.Rows L2
def rNeNil (K : PySem.W.Frag) : R2 := fun x y H Q => ∃ a b xs, x = .ref a ∧ y = .ref b ∧ SqL K H a xs ∧ SqL K H b [] ∧ Q (.bl (!xs.isEmpty)) H
theorem op_neNil {X : Cx} (hu : X.A.units + 64 < cLine) : OpR X (compareOp .NotEq) (rNeNil X.K) := by
  intro pins s σ H x y v u Q I rx ry h
  obtain ⟨a, b, xs, rfl, rfl, ha, hb, q⟩ := h
  obtain rfl : v = Value.ref a := rx
  obtain rfl : u = Value.ref b := ry
  obtain ⟨us, vu, h1, _⟩ := I.list ha
  obtain ⟨ts, vt, h2, _⟩ := I.list hb
  cases vt
  cases vu with
  | nil =>
    refine SeqAt.RcNeAt.lists (e := fun _ => true) h1.isList h2.isList rfl (by omega) (fun j h1 _ => absurd h1 (by simp)) _ _ _ _ ?_
    exact ⟨.bl false, H, I, rfl, q⟩
  | cons r t =>
    refine SeqAt.RcNeAt.lists_lengths h1.isList h2.isList (by simp) (by omega) _ _ _ _ ?_
    exact ⟨.bl true, H, I, rfl, q⟩
@[irreducible] def oNeNil : R22 := fun x y m Q => Box <| ∃ xs, lsD (res m x) = some xs ∧ y = .lst [] ∧ Q (.bl (!xs.isEmpty)) m
theorem neNil_of {x : D} {m : M} {Q : Kd} {xs : List D} (e : lsD (res m x) = some xs) (q : Q (.bl (!xs.isEmpty)) m) : oNeNil x (.lst []) m Q := by unfold oNeNil; exact ⟨⟨xs, e, rfl, q⟩⟩
theorem cv_neNil {K : PySem.W.Frag} : Cv2 K (rNeNil K) oNeNil := fun H m dx dy x y Q Q' hm rx ry h k => by
  unfold oNeNil at h
  obtain ⟨xs, e1, rfl, q⟩ := h.out
  obtain ⟨a, us, rfl, h1, h2⟩ := lstOf rx hm e1
  obtain ⟨b, ts, rfl, h3, h4⟩ := lstOf ry hm rfl
  cases h4
  have e : (!xs.isEmpty) = (!us.isEmpty) := by cases h2 <;> rfl
  rw [e] at q
  exact ⟨a, b, us, rfl, rfl, h1, h3, k _ _ (.same hm (.bl _) q)⟩
section
variable {X : Cx} {ω : Bx} {a b : Expr} {ta tb : TE2} {pos : Pos}
theorem tneNil {k : Nat} (hr : Room k X.A) (ha : PE2 X ω a ta) (hb : PE2 X ω b tb) : PT2 X ω (.Compare a [.NotEq] [b] pos) (tTU (tOp2 oNeNil ta tb)) := testC (op_neNil hr.units) cv_neNil ha hb (nomark _)
end
end Z

/-! Z94: a text's signs from the end. -/
namespace Z
open PySem PySem.Spec PyProof.Rows L2 HT
section
variable {X : Cx} {ω : Bx} {e : Expr} {te : TE2} {pos : Pos}
def revS (z : Str) : Str := Txt.sliceBy z none none (-1, 0)
theorem revS_eq (z : Str) (u : Tok) : Txt.sliceBy z none none (-1, u) = revS z := by
  have h := (step_rev_list z u).trans (step_rev_list z 0).symm
  have h2 := Array.toList_inj.mp h
  unfold revS
  cases h3 : Txt.sliceBy z none none (-1, u)
  cases h4 : Txt.sliceBy z none none (-1, 0)
  rw [h3, h4] at h2
  exact congrArg Str.mk h2
def tRevS (te : TE) : TE := fun σ H Q => te σ H fun x H1 => ∃ z, x = .str z ∧ z.length ≤ sizeLine ∧ Q (.str (revS z)) H1
theorem pe_revS {e : Expr} {te : TE} {k : Nat} {p1 p2 p3 pos : Pos} (he : PE X e te) : PE X (.Subscript e (.Slice none none (some (.UnaryOp .USub (.Constant (.int 1) k p1) p2)) p3) pos) (tRevS te) := by
  refine ⟨fun pins s σ H Q I h => ?_⟩
  refine Subscript_ (thn (he.run pins s σ H _ I h) fun v s1 ⟨x, H1, I1, r1, q1⟩ => ?_)
  obtain ⟨z, ex, hz, q⟩ := q1
  subst ex
  obtain ⟨tz, rfl⟩ := r1
  have hst : PO X (some (.UnaryOp .USub (.Constant (.int 1) k p1) p2)) (tPart (tUn (rU fun i => .int (-i)) (tC (.int 1)))) := po_some (pe_un un_neg pe_int)
  refine wpAny_Slice (thn (po_none.run pins s1 σ H1 (fun o H2 => o = none ∧ H2 = H1) I1 ⟨rfl, rfl⟩) fun vl s2 ⟨l, H2, I2, pl, el, e2⟩ => ?_)
  subst el e2
  refine thn (po_none.run pins s2 σ H2 (fun o H3 => o = none ∧ H3 = H2) I2 ⟨rfl, rfl⟩) fun vu s3 ⟨u, H3, I3, pu, eu, e3⟩ => ?_
  subst eu e3
  refine thn (hst.run pins s3 σ H3 (fun o H4 => o = some (-1) ∧ H4 = H3) I3 ⟨1, rfl, -1, rfl, rfl, rfl⟩) fun vs s4 ⟨o, H4, I4, ps, eo, e4⟩ => ?_
  subst eo e4
  cases pl
  cases pu
  obtain ⟨tk, rfl⟩ : ∃ tk, vs = Value.int (-1) tk := by cases ps; exact ⟨_, rfl⟩
  have I5 : L2.Inv X pins σ H4 { s4 with heap := s4.heap.push { cls := .type "slice", data := .fields #[.none, .none, .int (-1) tk] } } := I4.kept (t' := s4.toks) fun b ob q => Heap.get?_push_of_some _ q
  show wpAny (model X.prog X.w) X.A (subscriptTail e (.Slice none none (some (.UnaryOp .USub (.Constant (.int 1) k p1) p2)) p3) (.str z tz) (.ref s4.heap.objs.size)) (EP X pins σ Q) X.xe { s4 with heap := s4.heap.push { cls := .type "slice", data := .fields #[.none, .none, .int (-1) tk] } }
  refine tail_any (ops := [.ref s4.heap.objs.size, .str z tz]) (typeIs_str _ _ _) (F.slot_str_getitem.lookup) ?_ (by with_unfolding_all rfl)
  refine wpAny_getItem_str_slice (l := none) (u := none) (st := some (-1, tk)) ⟨_, Heap.get?_push_size _ rfl, rfl, rfl⟩ rfl (post_val_or_str ⟨Nat.le_trans (Txt.sliceBy_le z _ _ (-1, tk) (show (-1 : Int) ≠ 0 by decide)) hz, fun t' c => ?_⟩)
  show EP X pins σ Q (.str (Txt.sliceBy z none none (-1, tk)) t') _
  rw [revS_eq]
  exact ⟨.str (revS z), H4, I5.tok _, ⟨_, rfl⟩, q⟩
/-- xs[::-1] of a text -/
@[irreducible] def revSK (x : D) (m : M) (Q : Kd) : Prop := Box <| ∃ z, x = .str z ∧ z.length ≤ sizeLine ∧ Q (.str (revS z)) m
theorem revS_of {z : Str} {m : M} {Q : Kd} (e : z.length ≤ sizeLine) (q : Q (.str (revS z)) m) : revSK (.str z) m Q := by unfold revSK; exact ⟨⟨z, rfl, e, q⟩⟩
def tRevSU (te : TE2) : TE2 := fun g m Q => te g m fun x m1 => revSK x m1 Q
theorem revSU {k : Nat} {p1 p2 p3 : Pos} (he : PE2 X ω e te) : PE2 X ω (.Subscript e (.Slice none none (some (.UnaryOp .USub (.Constant (.int 1) k p1) p2)) p3) pos) (tRevSU te) :=
  (pe_revS pe_sem).to2 fun σ H g m Q S hm q => (he.sem S hm q).mono fun v H1 ⟨d, m1, s1, r1, q1⟩ => by
    unfold revSK at q1
    obtain ⟨z, rfl, e1, q2⟩ := q1.out
    cases r1
    exact ⟨z, rfl, e1, P2.go s1 (.same s1.mem (.str _) q2)⟩
theorem revS_mem {z : Str} {c : Nat} (h : c ∈ (revS z).cps.toList) : c ∈ z.cps.toList ∨ c = 0 := by
  unfold revS at h
  rw [step_rev_list] at h
  obtain ⟨k, hk, rfl⟩ := List.mem_map.mp h
  rw [Array.getD]
  split
  · exact .inl (Array.getElem_mem_toList _)
  · exact .inr rfl
theorem revS_len (z : Str) : (revS z).length = z.length := step_rev_len z 0
end
end Z



namespace W
open PySem PySem.Spec PyProof.Rows L2 Z

def topS (i : Nat) : Stmt := PySem.Challenge.pw_wishboard_k13_what_lines_are.main.body.getD i (.Pass ⟨0, 0, 0, 0⟩)

/-! ### the mathematics -/
/-- a number, as data: a pair in lowest terms, under above 0 -/
def isNumD : D → Bool
  | .tup [.int a, .int b] => decide (0 < b) && decide (Int.gcd a b = 1)
  | _ => false
theorem isNumD_two {ds : List D} (h : isNumD (.tup ds) = true) : ∃ a b : Int, ds = [.int a, .int b] ∧ 0 < b ∧ Int.gcd a b = 1 := by
  unfold isNumD at h
  split at h
  · rename_i a b e
    rw [Bool.and_eq_true] at h
    cases e
    exact ⟨a, b, rfl, of_decide_eq_true h.1, of_decide_eq_true h.2⟩
  · cases h
theorem isNumD_len {ds : List D} (h : ds.length ≠ 2) : isNumD (.tup ds) = false := by
  cases e : isNumD (.tup ds) with
  | false => rfl
  | true =>
    obtain ⟨a, b, rfl, _⟩ := isNumD_two e
    exact absurd rfl h
theorem tyD_tup {m : M} {d : D} (h : tyD m d = some .tup) : ∃ ds, res m d = .tup ds := by
  unfold tyD at h
  split at h <;> first | exact ⟨_, by assumption⟩ | cases h
theorem tyD_int {m : M} {d : D} (h : tyD m d = some .int) : ∃ i, res m d = .int i := by
  unfold tyD at h
  split at h <;> first | exact ⟨_, by assumption⟩ | cases h
theorem res_int {m : M} {d : D} {i : Int} (h : res m d = .int i) : d = .int i := by
  cases d with
  | ref a =>
    unfold res at h
    cases q : m a with
    | none => simp only [q] at h; cases h
    | some c => cases c <;> (simp only [q] at h; cases h)
  | ptu _ => cases h
  | fdi _ _ => cases h
  | _ => exact h
theorem isNumD_not_tup {m : M} {d : D} {t : Ty} (e : tyD m d = some t) (h : t ≠ .tup) : isNumD (res m d) = false := by
  cases q : isNumD (res m d) with
  | false => rfl
  | true =>
    exfalso
    apply h
    unfold isNumD at q
    split at q
    · rename_i a b e'
      unfold tyD at e
      rw [e'] at e
      cases e
      rfl
    · cases q
abbrev s_is_whole : Stmt := topS 4

theorem sc_is_whole : FnScope ["thing"] ["thing"] (defScope s_is_whole) := ⟨rfl, rfl, rfl, by decide +kernel, rfl, by decide +kernel, by decide +kernel⟩

def sp_is_whole : Sp2 := sp1 fun d m Q => match tyD m d with | some t => Q (.bl (decide (t = .int))) m | none => False

theorem fn_is_whole {P : Program} {w : World} {K : PySem.W.Frag} {mg : Str → Option Value} {base : Heap} {f : Addr} {fd : FuncData} (F : FunZ K "is_whole" "is_whole" s_is_whole f fd) (mg_isinstance : mg "isinstance" = none) (mg_int : mg "int" = none) (mg_bool : mg "bool" = none) : FnOk P w K mg base CX0 1 f fd ["thing"] (lift K sp_is_whole) := by
  refine fn1 (N := ["thing"]) F sc_is_whole rfl fun cdv A outer s H E hr => ⟨_, (qs_one (qs_ret (andV (isiB .int (by decide) (by rfl) mg_isinstance (vU 0) (tyU (by rfl) mg_int bt_int)) (q_one (notV (isiB .bl (by decide) (by rfl) mg_isinstance (vU 0) (tyU (by rfl) mg_bool bt_bool))))))), ?_⟩
  intro a m Q h
  cases e : tyD m a with
  | none => rw [e] at h; exact h.elim
  | some t =>
    rw [e] at h
    refine isiK_of e ?_
    refine br2 (fun c => ?_) (fun c => ?_)
    · refine isiK_of e ?_
      cases t <;> first | exact h | exact absurd c (by decide)
    · cases t <;> first | exact h | exact absurd c (by decide)

abbrev s_common : Stmt := topS 5

theorem sc_common : FnScope ["one", "other"] ["one", "other"] (defScope s_common) := ⟨rfl, rfl, rfl, by decide +kernel, rfl, by decide +kernel, by decide +kernel⟩

def sp_common : Sp2 := sp2 fun x y m Q => ∃ i j : Int, x = .int i ∧ y = .int j ∧ 0 ≤ i ∧ 0 ≤ j ∧ Q (.int (Int.gcd i j)) m

theorem fn_common {P : Program} {w : World} {K : PySem.W.Frag} {mg : Str → Option Value} {base : Heap} {f : Addr} {fd : FuncData} (F : FunZ K "common" "common" s_common f fd) : FnOk P w K mg base CX0 1 f fd ["one", "other"] (lift K sp_common) := by
  refine fn2 (N := ["one", "other"]) F sc_common rfl fun cdv A outer s H E hr => ⟨_, (qs_cons (whileS PassesOwn.never (tgtU (vU 1) q_int) (qs_one (qs_par (i := 0) (j := 1) rfl sc_common.nd rfl rfl (by decide) rfl rfl (qa_cons (vU 1) (qa_cons (modU (vU 0) (vU 1)) qa_nil)) (by rfl))))
    (qs_one (qs_ret (vU 0)))), ?_⟩
  rintro a b m Q ⟨i, j, rfl, rfl, hi, hj, q⟩
  refine ⟨fun n g m' => ∃ i' j' : Int, n = j'.toNat ∧ g = [some (.int i'), some (.int j')] ∧ m' = m ∧ 0 ≤ i' ∧ 0 ≤ j' ∧ Int.gcd i' j' = Int.gcd i j, ⟨_, i, j, rfl, rfl, rfl, hi, hj, rfl⟩, ?_⟩
  rintro n g m' ⟨i', j', rfl, rfl, rfl, hi', hj', e⟩
  refine br2 (fun hc => ?_) (fun hc => ?_)
  · have hc := of_decide_eq_true hc
    have h1 := Int.emod_lt_of_pos i' hc
    have h2 := Int.emod_nonneg i' (by omega : j' ≠ 0)
    refine modI hc ?_
    exact ⟨_, _, rfl, _, by omega, j', i' % j', rfl, rfl, rfl, by omega, h2, (gcd_step hi' hc).trans e⟩
  · have hc := of_decide_eq_false hc
    have e0 : j' = 0 := by omega
    subst e0
    rw [Int.gcd_zero_right] at e
    have : ((Int.gcd i j : Nat) : Int) = i' := by omega
    rw [this] at q
    exact q

abbrev s_is_number : Stmt := topS 6

theorem sc_is_number : FnScope ["thing", "part"] ["thing"] (defScope s_is_number) := ⟨rfl, rfl, rfl, by decide +kernel, rfl, by decide +kernel, by decide +kernel⟩

def sp_is_number : Sp2 := sp1 fun d m Q => ∃ t, tyD m d = some t ∧ (∀ ds, res m d = .tup ds → ∀ x ∈ ds, ∃ t, tyD m x = some t) ∧ Q (.bl (isNumD (res m d))) m

theorem fn_is_number {P : Program} {w : World} {K : PySem.W.Frag} {mg : Str → Option Value} {base : Heap} {f : Addr} {fd : FuncData} (F : FunZ K "is_number" "is_number" s_is_number f fd) (D_common : DefOk P w K mg base 1 "common" sp_common) (D_is_whole : DefOk P w K mg base 1 "is_whole" sp_is_whole) (mg_isinstance : mg "isinstance" = none) (mg_tuple : mg "tuple" = none) (mg_len : mg "len" = none) (mg_all : mg "all" = none) (mg_abs : mg "abs" = none) : FnOk P w K mg base CX0 2 f fd ["thing"] (lift K sp_is_number) := by
  refine fn1 (N := ["thing", "part"]) F sc_is_number rfl fun cdv A outer s H E hr => ⟨_, (qs_cons (ifS (PW2.pt (orW (qt_not (testV (isiB .tup (by decide) (by rfl) mg_isinstance (vU 0) (tyU (by rfl) mg_tuple bt_tuple)))) (orW (tneU hr (lenU (by rfl) mg_len (qa_cons (vU 0) qa_nil)) q_int) (qw_or1 (qt_not (testV (allU rfl (by rfl) mg_all (qa_cons (q_lc (own := [("part", 1)]) rfl sc_is_number.nd (seqU (vU 0)) (blkOk_by (N := ["thing", "part"]) (sc := defScope s_is_number) (by decide +kernel)) (fun _ _ _ _ _ => (qgc_name (i := 1) sc_is_number.nd rfl (by first | exact Or.inl rfl | exact Or.inr rfl) (by decide))) (fun _ _ _ _ _ => qts_nil) (fun _ _ _ _ _ => (callU D_is_whole hr (by rfl) (qa_cons (vU 1) qa_nil)))) qa_nil)))))))) (qs_one (qs_ret q_bl)) qs_nil)
    (qs_one (qs_ret (andV (gtU (ixU (vU 0) q_int (fun _ _ => rfl)) q_int) (q_one (q_eq hr (callU D_common hr (by rfl) (qa_cons (absU (by rfl) mg_abs (qa_cons (ixU (vU 0) q_int (fun _ _ => rfl)) qa_nil)) (qa_cons (ixU (vU 0) q_int (fun _ _ => rfl)) qa_nil))) q_int)))))), ?_⟩
  rintro a m Q ⟨t, e, hp, q⟩
  refine isiK_of e ?_
  refine br2 (fun h => ?_) (fun h => ?_)
  · have e0 : isNumD (res m a) = false := isNumD_not_tup e fun z => by subst z; exact absurd h (by decide)
    rw [e0] at q
    exact brT rfl q
  · have et : t = .tup := by cases t <;> first | rfl | exact absurd h (by decide)
    subst et
    obtain ⟨ds, e'⟩ := tyD_tup e
    rw [e'] at q
    refine kLen_tup e' ?_
    refine neI ?_
    refine br2 (fun h => ?_) (fun h => ?_)
    · have h : ds.length ≠ 2 := by simp at h; omega
      rw [isNumD_len h] at q
      exact brT rfl q
    · have h : ds.length = 2 := by simp at h; omega
      obtain ⟨x, y, rfl⟩ : ∃ x y, ds = [x, y] := by
        match ds, h with
        | [x, y], _ => exact ⟨x, y, rfl⟩
      obtain ⟨tx, ex⟩ := hp _ e' x (by simp)
      obtain ⟨ty, ey⟩ := hp _ e' y (by simp)
      refine seqK_tup e' ?_
      refine lc_map (fun d => .bl (decide (tyD m d = some .int))) (ds := [x, y]) (by show 2 ≤ sizeLine; decide) (fun _ _ => trivial) (fun d hd mm hm k hk => ?_) ?_
      · obtain ⟨td, ed⟩ := hp _ e' d hd
        show (match tyD mm d with | some t => k (.bl (decide (t = .int))) mm | none => False)
        rw [hm.ty ed]
        rw [ed] at hk
        simpa using hk
      · refine kAll_of [decide (tyD m x = some .int), decide (tyD m y = some .int)] rfl ?_
        refine br2 (fun h => ?_) (fun h => ?_)
        · have e0 : isNumD (.tup [x, y]) = false := by
            cases z : isNumD (.tup [x, y]) with
            | false => rfl
            | true =>
              obtain ⟨i, j, e2, _⟩ := isNumD_two z
              cases e2
              simp [tyD, res] at h
          rw [e0] at q
          exact q
        · simp at h
          obtain ⟨i, ei⟩ := tyD_int h.1
          obtain ⟨j, ej⟩ := tyD_int h.2
          have ei := res_int ei
          have ej := res_int ej
          subst ei; subst ej
          refine ix_t e' (d := .int j) rfl ?_
          refine br2 (fun h0 => ?_) (fun h0 => ?_)
          · have h0 := of_decide_eq_true h0
            refine ix_t e' (d := .int i) rfl ?_
            refine ix_t e' (d := .int j) rfl ?_
            refine ⟨_, j, rfl, rfl, by split <;> omega, by omega, ?_⟩
            refine eqI ?_
            have eg : (Int.gcd (if i < 0 then -i else i) j : Nat) = Int.gcd i j := by
              split
              · exact Int.neg_gcd
              · rfl
            rw [eg]
            have e2 : decide (((Int.gcd i j : Nat) : Int) = 1) = decide (Int.gcd i j = 1) := by
              apply decide_eq_decide.mpr
              omega
            rw [e2]
            simp only [isNumD, h0, decide_true, Bool.true_and] at q
            exact q
          · simp only [isNumD, h0, Bool.false_and] at q
            exact q

abbrev s_number : Stmt := topS 7

theorem sc_number : FnScope ["over", "under", "part"] ["over", "under"] (defScope s_number) := ⟨rfl, rfl, rfl, by decide +kernel, rfl, by decide +kernel, by decide +kernel⟩

def sp_number : Sp2 := sp2 fun x y m Q => ∃ a b : Int, x = .int a ∧ y = .int b ∧ b ≠ 0 ∧ b.natAbs.log2 < 9000 ∧ Q (nD (mkP a b)) m

theorem fn_number {P : Program} {w : World} {K : PySem.W.Frag} {mg : Str → Option Value} {base : Heap} {f : Addr} {fd : FuncData} (F : FunZ K "number" "number" s_number f fd) (D_common : DefOk P w K mg base 1 "common" sp_common) (mg_abs : mg "abs" = none) : FnOk P w K mg base CX0 2 f fd ["over", "under"] (lift K sp_number) := by
  refine fn2 (N := ["over", "under", "part"]) F sc_number rfl fun cdv A outer s H E hr => ⟨_, (qs_cons (ifS (teqU hr (vU 1) q_int) (qs_one qs_never) qs_nil)
    (qs_cons (ifS (tltU (vU 1) q_int) (qs_one (qs_par (i := 0) (j := 1) rfl sc_number.nd rfl rfl (by decide) rfl rfl (qa_cons (negU (vU 0)) (qa_cons (negU (vU 1)) qa_nil)) (by rfl))) qs_nil)
    (qs_cons (qs_set (i := 2) sc_number.nd rfl (by first | exact Or.inl rfl | exact Or.inr rfl) (callU D_common hr (by rfl) (qa_cons (absU (by rfl) mg_abs (qa_cons (vU 0) qa_nil)) (qa_cons (vU 1) qa_nil))))
    (qs_one (qs_ret (q_tup (qa_cons (divU (vU 0) (vU 2)) (qa_cons (divU (vU 1) (vU 2)) qa_nil)))))))), ?_⟩
  rintro _ _ m Q ⟨a, b, rfl, rfl, hb, hl, q⟩
  refine eqI ?_
  refine brF (decide_eq_false hb) ?_
  refine br2 (fun h => ?_) (fun h => ?_)
  case' refine_1 =>
    have h := of_decide_eq_true h
    unfold mkP at q
    rw [if_pos h] at q
    obtain ⟨A, B, hA, hB⟩ : ∃ A B : Int, A = -a ∧ B = -b := ⟨_, _, rfl, rfl⟩
    refine ⟨.int A, .int B, by subst hA hB; rfl, ?_⟩
    rw [← hA, ← hB] at q
    have hb0 : 0 < B := by omega
    have hl : B.natAbs.log2 < 9000 := by rw [hB, Int.natAbs_neg]; exact hl
    refine ⟨if A < 0 then -A else A, B, by subst hA hB; rfl, by subst hA hB; rfl, by split <;> omega, by omega, ?_⟩
  case' refine_2 =>
    have h := of_decide_eq_false h
    unfold mkP at q
    rw [if_neg h] at q
    obtain ⟨A, B, hA, hB⟩ : ∃ A B : Int, A = a ∧ B = b := ⟨_, _, rfl, rfl⟩
    subst hA hB
    have hb0 : 0 < B := by omega
    refine ⟨if A < 0 then -A else A, B, rfl, rfl, by split <;> omega, by omega, ?_⟩
  all_goals
    have h0 := gcd_pos_r (a := A) hb0
    have h1 := lg_mono (gcd_le_r (a := A) hb0) hl
    obtain ⟨G, hG, e⟩ : ∃ G : Int, G = Int.gcd (if A < 0 then -A else A) B ∧ G = Int.gcd A B := ⟨_, rfl, by rw [gcd_abs]⟩
    rw [← hG]
    have hg : G.natAbs.log2 < 9000 := by rw [e]; exact h1
    have hi0 : 0 < G := by omega
    try subst hA hB
    refine divI hi0 hg ?_
    refine divI hi0 hg ?_
    unfold lowP at q
    rw [← e] at q
    exact q

abbrev s_is_row_of : Stmt := topS 21

theorem sc_is_row_of : FnScope ["thing", "many"] ["thing", "many"] (defScope s_is_row_of) := ⟨rfl, rfl, rfl, by decide +kernel, rfl, by decide +kernel, by decide +kernel⟩

/-! ### plain things -/
/-- what holds no objects, numbers and texts not too long -/
inductive Pln : D → Prop
  | non : Pln .non
  | bl (b : Bool) : Pln (.bl b)
  | int {i : Int} (h : i.natAbs < 2 ^ 4000) : Pln (.int i)
  | str {z : Str} (h : okT z = true) (hl : z.length ≤ 1000000) : Pln (.str z)
  | tup {ds : List D} (hl : ds.length ≤ 100000) (h : ∀ d ∈ ds, Pln d) : Pln (.tup ds)
  | ptu {ds : List D} (hl : ds.length ≤ 100000) (h : ∀ d ∈ ds, Pln d) : Pln (.ptu ds)
  | lst {ds : List D} (hl : ds.length ≤ 100000) (h : ∀ d ∈ ds, Pln d) : Pln (.lst ds)
  | rol {ds : List D} (hl : ds.length ≤ 100000) (h : ∀ d ∈ ds, Pln d) : Pln (.rol ds)
  | dic (ks : List Key) (vs : List D) : Pln (.dic ks vs)
  | fdi (ks : List Key) (vs : List D) : Pln (.fdi ks vs)
theorem fa_nil {P : D → Prop} : ∀ d ∈ ([] : List D), P d := fun _ h => nomatch h
theorem fa_cons {P : D → Prop} {x : D} {r : List D} (h : P x) (t : ∀ d ∈ r, P d) : ∀ d ∈ x :: r, P d := fun d hd => (List.mem_cons.mp hd).elim (fun e => by rw [e]; exact h) (t d)
theorem fa_app {P : D → Prop} {xs ys : List D} (h : ∀ d ∈ xs, P d) (t : ∀ d ∈ ys, P d) : ∀ d ∈ xs ++ ys, P d := fun d hd => (List.mem_append.mp hd).elim (h d) (t d)
def resP : D → D | .ptu ds => .tup ds | .fdi ks vs => .dic ks vs | x => x
def tyP : D → Ty | .non => .non | .bl _ => .bl | .int _ => .int | .str _ => .str | .tup _ => .tup | .ptu _ => .tup | .lst _ => .lst | .rol _ => .lst | .dic _ _ => .dic | .fdi _ _ => .dic | _ => .non
theorem Pln.ty {m : M} {x : D} (h : Pln x) : tyD m x = some (tyP x) := by cases h <;> rfl
theorem Pln.res {m : M} {x : D} (h : Pln x) : Z.res m x = resP x := by cases h <;> rfl
theorem Pln.sub {x : D} {ds : List D} (h : Pln x) (e : resP x = .tup ds) : ds.length ≤ 100000 ∧ ∀ d ∈ ds, Pln d := by
  cases h with
  | tup hl h => cases e; exact ⟨hl, h⟩
  | ptu hl h => cases e; exact ⟨hl, h⟩
  | _ => cases e
theorem tyP_tup {x : D} (h : tyP x = .tup) : ∃ ds, resP x = .tup ds := by cases x <;> first | exact ⟨_, rfl⟩ | cases h
theorem tyP_no {x : D} (h : tyP x ≠ .tup) : ∀ ds, resP x ≠ .tup ds := fun ds e => h (by cases x <;> first | rfl | cases e)
theorem pln_parts {m : M} {x : D} (h : Pln x) : ∀ ds, res m x = .tup ds → ∀ y ∈ ds, ∃ t, tyD m y = some t := fun ds e y hy => ⟨_, ((h.sub (by rw [← h.res (m := m)]; exact e)).2 y hy).ty⟩
theorem pln_is {m : M} {x : D} (h : Pln x) : isNumD (res m x) = isNumD (resP x) := by rw [h.res]
theorem two_of {α : Type} {ds : List α} (h : ds.length = 2) : ∃ a b, ds = [a, b] := by
  match ds, h with
  | [a, b], _ => exact ⟨a, b, rfl⟩
theorem numD_of {d : D} (h : isNumD d = true) : ∃ p : Fr, d = nD p ∧ Lo p := by
  unfold isNumD at h
  split at h
  · rename_i a b
    rw [Bool.and_eq_true] at h
    exact ⟨(a, b), rfl, of_decide_eq_true h.1, of_decide_eq_true h.2⟩
  · cases h
def lenIs (k : Nat) (x : D) : Bool := match resP x with | .tup ds => decide (ds.length = k) | _ => false
theorem lenIs_not {k : Nat} {x : D} (h : tyP x ≠ .tup) : lenIs k x = false := by
  unfold lenIs
  split
  · rename_i ds e; exact absurd e (tyP_no h _)
  · rfl
theorem lenIs_of {k : Nat} {x : D} {ds : List D} (e : resP x = .tup ds) : lenIs k x = decide (ds.length = k) := by unfold lenIs; rw [e]

def sp_is_row_of : Sp2 := sp2 fun x y m Q => Pln x ∧ ∃ k : Nat, y = .int k ∧ Q (.bl (lenIs k x)) m

theorem fn_is_row_of {P : Program} {w : World} {K : PySem.W.Frag} {mg : Str → Option Value} {base : Heap} {f : Addr} {fd : FuncData} (F : FunZ K "is_row_of" "is_row_of" s_is_row_of f fd) (mg_isinstance : mg "isinstance" = none) (mg_tuple : mg "tuple" = none) (mg_len : mg "len" = none) : FnOk P w K mg base CX0 1 f fd ["thing", "many"] (lift K sp_is_row_of) := by
  refine fn2 (N := ["thing", "many"]) F sc_is_row_of rfl fun cdv A outer s H E hr => ⟨_, (qs_one (qs_ret (andV (isiB .tup (by decide) (by rfl) mg_isinstance (vU 0) (tyU (by rfl) mg_tuple bt_tuple)) (q_one (q_eq hr (lenU (by rfl) mg_len (qa_cons (vU 0) qa_nil)) (vU 1)))))), ?_⟩
  rintro x _ m Q ⟨hx, k, rfl, q⟩
  refine isiK_of (t := tyP x) hx.ty ?_
  by_cases ht : tyP x = .tup
  rotate_left
  · rw [lenIs_not ht] at q
    refine brF ?_ q
    cases hy : tyP x <;> first | rfl | exact absurd hy ht
  rw [ht]
  obtain ⟨ds, e⟩ := tyP_tup ht
  have e' := hx.res (m := m)
  rw [e] at e'
  rw [lenIs_of e] at q
  refine brT rfl ?_
  refine kLen_tup e' ?_
  refine eqI ?_
  have : decide ((ds.length : Int) = (k : Int)) = decide (ds.length = k) := decide_eq_decide.mpr (by omega)
  rw [this]
  exact q

abbrev s_is_name : Stmt := topS 13

theorem sc_is_name : FnScope ["thing", "sign"] ["thing"] (defScope s_is_name) := ⟨rfl, rfl, rfl, by decide +kernel, rfl, by decide +kernel, by decide +kernel⟩


theorem in_f {m : M} {Q : Kd} {x y : D} {ds : List D} {b : Bool} (e : itsD (res m y) = some ds) (h1 : flatD x = true) (h2 : ds.all flatD = true) (hb : inD x ds = b) (q : Q (.bl b) m) : oInU false x y m Q := by
  unfold oInU
  refine ⟨?_⟩
  subst hb
  cases h : res m y <;> rw [h] at e <;> first | (cases e; exact ⟨⟨h1, h2⟩, q⟩) | cases e
theorem inD_no {z : Str} {ks : List Str} (h : z ∉ ks) : inD (.str z) (ks.map D.str) = false := by
  unfold inD inV
  rw [List.map_map, List.any_map, List.any_eq_false]
  intro k hk e
  have e : (k == z) = true := e
  exact h (by rw [← eq_of_beq e]; exact hk)
def keptL : List Str := ["best", "by", "core", "drag", "drop", "end", "follow", "gone", "groups", "let", "might", "missed", "must", "no", "none", "path", "range", "redo", "should", "show", "thing", "to", "undo", "wish", "yes"]
/-- one to six small letters, no kept word -/
def nmOk (z : Str) : Prop := 1 ≤ z.length ∧ z.length ≤ 6 ∧ (∀ c ∈ TL.tl z, 97 ≤ c ∧ c ≤ 122) ∧ z ∉ keptL
theorem az_mem {c : Nat} (h : 97 ≤ c ∧ c ≤ 122) : decide (c ∈ (Str.ofString "abcdefghijklmnopqrstuvwxyz").cps.toList) = true := by
  have h2 : ∀ k < 26, decide ((97 + k) ∈ (Str.ofString "abcdefghijklmnopqrstuvwxyz").cps.toList) = true := by decide
  have := h2 (c - 97) (by omega)
  rw [show 97 + (c - 97) = c by omega] at this
  exact this
theorem nm_okT {z : Str} (h : nmOk z) : okT z = true := okT_of fun c hc => by have := h.2.2.1 c hc; omega
def isNm (z : Str) : Bool := decide (1 ≤ z.length) && decide (z.length ≤ 6) && !decide (z ∈ keptL) && z.cps.toList.all fun c => decide (97 ≤ c ∧ c ≤ 122)
theorem az_iff (c : Nat) : decide (c ∈ (Str.ofString "abcdefghijklmnopqrstuvwxyz").cps.toList) = decide (97 ≤ c ∧ c ≤ 122) := by
  by_cases h : 97 ≤ c ∧ c ≤ 122
  · rw [az_mem h, decide_eq_true h]
  · rw [decide_eq_false h]
    refine decide_eq_false fun h2 => h ?_
    have h3 : ∀ d ∈ (Str.ofString "abcdefghijklmnopqrstuvwxyz").cps.toList, 97 ≤ d ∧ d ≤ 122 := by decide
    exact h3 c h2
theorem isNm_iff {z : Str} : isNm z = true ↔ nmOk z := by
  unfold isNm nmOk
  simp only [Bool.and_eq_true, Bool.not_eq_true', decide_eq_true_eq, decide_eq_false_iff_not, List.all_eq_true]
  exact ⟨fun ⟨⟨⟨a, b⟩, c⟩, d⟩ => ⟨a, b, d, c⟩, fun ⟨a, b, c, d⟩ => ⟨⟨⟨a, b⟩, d⟩, c⟩⟩
theorem inD_in {z : Str} {ks : List Str} (h : z ∈ ks) : inD (.str z) (ks.map D.str) = true := by
  unfold inD inV
  rw [List.map_map, List.any_map, List.any_eq_true]
  exact ⟨z, h, by show (z == z) = true; exact beq_self_eq_true z⟩
theorem inD_dec {z : Str} {ks : List Str} : inD (.str z) (ks.map D.str) = decide (z ∈ ks) := by
  by_cases h : z ∈ ks
  · rw [inD_in h, decide_eq_true h]
  · rw [inD_no h, decide_eq_false h]
def isNmD : D → Bool | .str z => isNm z | _ => false
theorem nmD_not {x : D} (h : tyP x ≠ .str) : isNmD x = false := by cases x <;> first | rfl | exact absurd rfl h
theorem strP {x : D} (h : tyP x = .str) : ∃ z, x = .str z := by cases x <;> first | exact ⟨_, rfl⟩ | cases h

def sp_is_name : Sp2 := sp1 fun x m Q => Pln x ∧ Q (.bl (isNmD x)) m

theorem fn_is_name {P : Program} {w : World} {K : PySem.W.Frag} {mg : Str → Option Value} {base : Heap} {f : Addr} {fd : FuncData} (F : FunZ K "is_name" "is_name" s_is_name f fd) (mg_all : mg "all" = none) (mg_isinstance : mg "isinstance" = none) (mg_str : mg "str" = none) (mg_len : mg "len" = none) (c_KEPT : ConstAt K mg "KEPT" (.tup [.str "best", .str "by", .str "core", .str "drag", .str "drop", .str "end", .str "follow", .str "gone", .str "groups", .str "let", .str "might", .str "missed", .str "must", .str "no", .str "none", .str "path", .str "range", .str "redo", .str "should", .str "show", .str "thing", .str "to", .str "undo", .str "wish", .str "yes"])) (c_MOST_LETTERS : ConstAt K mg "MOST_LETTERS" (.int 6)) (c_LETTERS : ConstAt K mg "LETTERS" (.str "abcdefghijklmnopqrstuvwxyz")) : FnOk P w K mg base CX0 1 f fd ["thing"] (lift K sp_is_name) := by
  refine fn1 (N := ["thing", "sign"]) F sc_is_name rfl fun cdv A outer s H E hr => ⟨_, (qs_cons (ifS (PW2.pt (orW (qt_not (testV (isiB .str (by decide) (by rfl) mg_isinstance (vU 0) (tyU (by rfl) mg_str bt_str)))) (orW (qt_not (chainT op_leU op_leU cv_cmp cv_cmp q_int (lenU (by rfl) mg_len (qa_cons (vU 0) qa_nil)) (cU c_MOST_LETTERS (by rfl)))) (qw_or1 (tinU (vU 0) (cU c_KEPT (by rfl)) (by with_unfolding_all rfl)))))) (qs_one (qs_ret q_bl)) qs_nil)
    (qs_one (qs_ret (allU rfl (by rfl) mg_all (qa_cons (q_lc (own := [("sign", 1)]) rfl sc_is_name.nd (seqU (vU 0)) (blkOk_by (N := ["thing", "sign"]) (sc := defScope s_is_name) (by decide +kernel)) (fun _ _ _ _ _ => (qgc_name (i := 1) sc_is_name.nd rfl (by first | exact Or.inl rfl | exact Or.inr rfl) (by decide))) (fun _ _ _ _ _ => qts_nil) (fun _ _ _ _ _ => (inU (vU 1) (cU c_LETTERS (by rfl)) (by with_unfolding_all rfl)))) qa_nil))))), ?_⟩
  rintro x m Q ⟨hx, q⟩
  refine isiK_of (t := tyP x) hx.ty ?_
  by_cases ht : tyP x = .str
  rotate_left
  · rw [nmD_not ht] at q
    refine brT ?_ (brt q)
    cases hy : tyP x <;> first | rfl | exact absurd hy ht
  obtain ⟨z, rfl⟩ := strP ht
  have hl : z.length ≤ 1000000 := by cases hx with | str h hl => exact hl
  have q : Q (.bl (isNm z)) m := q
  unfold isNm at q
  refine brF rfl ?_
  refine kLen_str rfl (Nat.le_trans hl (szN 1000000)) ?_
  refine br2 (fun h1 => ?_) (fun h1 => ?_)
  · have h1 : (1 : Int) ≤ z.length := of_decide_eq_true h1
    rw [decide_eq_true (p := 1 ≤ z.length) (by omega), Bool.true_and] at q
    refine br2 (fun h2 => ?_) (fun h2 => ?_)
    · have h2 : ¬ (z.length : Int) ≤ 6 := by simpa using h2
      rw [decide_eq_false (p := z.length ≤ 6) (by omega), Bool.false_and, Bool.false_and] at q
      exact brt q
    · have h2 : (z.length : Int) ≤ 6 := by simpa using h2
      rw [decide_eq_true (p := z.length ≤ 6) (by omega), Bool.true_and] at q
      refine in_f (ds := keptL.map D.str) rfl rfl rfl inD_dec ?_
      refine br2 (fun h3 => ?_) (fun h3 => ?_)
      · rw [h3] at q
        exact q
      · rw [h3] at q
        refine seqK_str rfl ?_
        refine lc_mapA z.cps.toList _ rfl (fun c => [some (.str z), some (.str ⟨#[c]⟩)]) (fun c => .bl (decide (97 ≤ c ∧ c ≤ 122))) (by rw [Array.length_toList]; exact Nat.le_trans hl (szN 1000000)) (fun _ _ => trivial) (fun c _ mm _ k hk => hk) (fun c _ mm _ k hk => ?_) ?_
        · refine in_sg rfl ?_
          rw [az_iff]
          exact hk
        · refine kAll_of (z.cps.toList.map fun c => decide (97 ≤ c ∧ c ≤ 122)) (by show _ = some (List.map _ _); rw [List.map_map]; rfl) ?_
          have e : (z.cps.toList.map fun c => decide (97 ≤ c ∧ c ≤ 122)).all id = z.cps.toList.all fun c => decide (97 ≤ c ∧ c ≤ 122) := by rw [List.all_map]; rfl
          rw [e]
          exact q
  · have h1 : ¬ (1 : Int) ≤ z.length := of_decide_eq_false h1
    rw [decide_eq_false (p := 1 ≤ z.length) (by omega), Bool.false_and, Bool.false_and, Bool.false_and] at q
    exact brt (brt q)

abbrev s_is_rising : Stmt := topS 14

theorem sc_is_rising : FnScope ["names", "at"] ["names"] (defScope s_is_rising) := ⟨rfl, rfl, rfl, by decide +kernel, rfl, by decide +kernel, by decide +kernel⟩

/-- each less than the next one -/
def risL : List Str → Bool
  | a :: b :: r => decide (a.cps.toList < b.cps.toList) && risL (b :: r)
  | _ => true
theorem ris_range : ∀ zs : List Str, ((List.range (zs.length - 1)).map fun i => decide ((zs.getD i (Str.ofString "")).cps.toList < (zs.getD (i + 1) (Str.ofString "")).cps.toList)).all id = risL zs
  | [] => rfl
  | [_] => rfl
  | a :: b :: r => by
    have ih := ris_range (b :: r)
    show ((List.range (r.length + 1)).map _).all id = _
    rw [List.range_succ_eq_map, List.map_cons, List.all_cons, List.map_map]
    show (decide (a.cps.toList < b.cps.toList) && _) = (decide (a.cps.toList < b.cps.toList) && _)
    congr 1

def sp_is_rising : Sp2 := sp1 fun x m Q => ∃ zs : List Str, x = .lst (zs.map .str) ∧ zs.length ≤ 100000 ∧ Q (.bl (risL zs)) m

theorem fn_is_rising {P : Program} {w : World} {K : PySem.W.Frag} {mg : Str → Option Value} {base : Heap} {f : Addr} {fd : FuncData} (F : FunZ K "is_rising" "is_rising" s_is_rising f fd) (mg_all : mg "all" = none) (mg_range : mg "range" = none) (mg_len : mg "len" = none) : FnOk P w K mg base CX0 1 f fd ["names"] (lift K sp_is_rising) := by
  refine fn1 (N := ["names", "at"]) F sc_is_rising rfl fun cdv A outer s H E hr => ⟨_, (qs_one (qs_ret (allU rfl (by rfl) mg_all (qa_cons (q_lc (own := [("at", 1)]) rfl sc_is_rising.nd (rngU (by rfl) mg_range (qa_cons (subU (lenU (by rfl) mg_len (qa_cons (vU 0) qa_nil)) q_int) qa_nil)) (blkOk_by (N := ["names", "at"]) (sc := defScope s_is_rising) (by decide +kernel)) (fun _ _ _ _ _ => (qgc_name (i := 1) sc_is_rising.nd rfl (by first | exact Or.inl rfl | exact Or.inr rfl) (by decide))) (fun _ _ _ _ _ => qts_nil) (fun _ _ _ _ _ => (ltU (ixU (vU 0) (vU 1) (fun _ _ => rfl)) (ixU (vU 0) (addU (vU 1) q_int) (fun _ _ => rfl))))) qa_nil)))), ?_⟩
  rintro _ m Q ⟨zs, rfl, hl, q⟩
  refine kLen_lst rfl ?_
  rw [List.length_map]
  refine ⟨⟨by omega, by omega⟩, ?_⟩
  have hn : ((zs.length : Int) - 1).toNat = zs.length - 1 := by omega
  refine lc_mapA (List.range ((zs.length : Int) - 1).toNat) (fun (i : Nat) => D.int (0 + (i : Int))) rfl (fun i => [some (.lst (zs.map .str)), some (.int (0 + (i : Int)))]) (fun i => .bl (decide ((zs.getD i (Str.ofString "")).cps.toList < (zs.getD (i + 1) (Str.ofString "")).cps.toList))) (by rw [List.length_range]; exact Nat.le_trans (by omega) (szN 100000)) (fun _ _ => trivial) (fun i _ mm _ k hk => hk) (fun i hi mm _ k hk => ?_) ?_
  · rw [List.mem_range] at hi
    have h1 : i < zs.length := by omega
    have h2 : i + 1 < zs.length := by omega
    rw [Int.zero_add]
    refine ix_n (i := i) (d := .str (zs.getD i (Str.ofString ""))) rfl (by rw [List.getElem?_map, List.getElem?_eq_getElem h1, List.getD_eq_getElem?_getD, List.getElem?_eq_getElem h1] <;> rfl) ?_
    refine ix_n (i := i + 1) (d := .str (zs.getD (i + 1) (Str.ofString ""))) rfl (by rw [List.getElem?_map, List.getElem?_eq_getElem h2, List.getD_eq_getElem?_getD, List.getElem?_eq_getElem h2] <;> rfl) ?_
    exact hk
  · refine kAll_of ((List.range (zs.length - 1)).map fun i => decide ((zs.getD i (Str.ofString "")).cps.toList < (zs.getD (i + 1) (Str.ofString "")).cps.toList)) (by show some _ = some _; rw [List.map_map, hn]; rfl) ?_
    rw [ris_range]
    exact q

abbrev s_is_part : Stmt := topS 15

theorem sc_is_part : FnScope ["thing"] ["thing"] (defScope s_is_part) := ⟨rfl, rfl, rfl, by decide +kernel, rfl, by decide +kernel, by decide +kernel⟩

def isPtP (x : D) : Bool := match resP x with
  | .tup [a, b] => isNmD a && (isNumD (resP b) && !eqD (resP b) (.tup [.int 0, .int 1]))
  | _ => false
theorem ptP_two {x a b : D} (e : resP x = .tup [a, b]) : isPtP x = (isNmD a && (isNumD (resP b) && !eqD (resP b) (.tup [.int 0, .int 1]))) := by unfold isPtP; rw [e]
theorem ptP_not {x : D} (h : ∀ a b, resP x ≠ .tup [a, b]) : isPtP x = false := by
  unfold isPtP
  split
  · rename_i a b e; exact absurd e (h a b)
  · rfl
theorem num_okD {d : D} (h : isNumD d = true) : okD 60 d = true := by
  obtain ⟨p, rfl, _⟩ := numD_of h
  rfl

def sp_is_part : Sp2 := sp1 fun x m Q => Pln x ∧ Q (.bl (isPtP x)) m

theorem fn_is_part {P : Program} {w : World} {K : PySem.W.Frag} {mg : Str → Option Value} {base : Heap} {f : Addr} {fd : FuncData} (F : FunZ K "is_part" "is_part" s_is_part f fd) (D_is_name : DefOk P w K mg base 1 "is_name" sp_is_name) (D_is_number : DefOk P w K mg base 2 "is_number" sp_is_number) (mg_isinstance : mg "isinstance" = none) (mg_tuple : mg "tuple" = none) (mg_len : mg "len" = none) (c_NOUGHT : ConstAt K mg "NOUGHT" (.tup [.int 0, .int 1])) : FnOk P w K mg base CX0 3 f fd ["thing"] (lift K sp_is_part) := by
  refine fn1 (N := ["thing"]) F sc_is_part rfl fun cdv A outer s H E hr => ⟨_, (qs_cons (ifS (PW2.pt (orW (qt_not (testV (isiB .tup (by decide) (by rfl) mg_isinstance (vU 0) (tyU (by rfl) mg_tuple bt_tuple)))) (qw_or1 (tneU hr (lenU (by rfl) mg_len (qa_cons (vU 0) qa_nil)) q_int)))) (qs_one (qs_ret q_bl)) qs_nil)
    (qs_one (qs_ret (andV (callU D_is_name hr (by rfl) (qa_cons (ixU (vU 0) q_int (fun _ _ => rfl)) qa_nil)) (andV (callU D_is_number hr (by rfl) (qa_cons (ixU (vU 0) q_int (fun _ _ => rfl)) qa_nil)) (q_one (q_ne hr (ixU (vU 0) q_int (fun _ _ => rfl)) (cU c_NOUGHT (by rfl))))))))), ?_⟩
  rintro x m Q ⟨hx, q⟩
  refine isiK_of (t := tyP x) hx.ty ?_
  by_cases ht : tyP x = .tup
  rotate_left
  · rw [ptP_not fun a b => tyP_no ht _] at q
    refine brT ?_ (brt q)
    cases hy : tyP x <;> first | rfl | exact absurd hy ht
  rw [ht]
  obtain ⟨ds, e⟩ := tyP_tup ht
  obtain ⟨hl, hd⟩ := hx.sub e
  have e' := hx.res (m := m)
  rw [e] at e'
  refine brF rfl ?_
  refine kLen_tup e' ?_
  refine neI ?_
  refine br2 (fun h => ?_) (fun h => ?_)
  · have h : ds.length ≠ 2 := by simp at h; omega
    rw [ptP_not fun a b e2 => h (by rw [e] at e2; cases e2; rfl)] at q
    exact q
  · have h : ds.length = 2 := by simp at h; omega
    obtain ⟨a, b, rfl⟩ := two_of h
    have ha : Pln a := hd a (by simp)
    have hb : Pln b := hd b (by simp)
    rw [ptP_two e] at q
    refine ix_t e' (d := a) rfl ?_
    refine ⟨ha, ?_⟩
    refine br2 (fun h1 => ?_) (fun h1 => ?_)
    · rw [h1, Bool.true_and] at q
      refine ix_t e' (d := b) rfl ?_
      refine ⟨_, hb.ty, pln_parts hb, ?_⟩
      rw [pln_is hb]
      refine br2 (fun h2 => ?_) (fun h2 => ?_)
      · rw [h2, Bool.true_and] at q
        refine ix_t e' (d := b) rfl ?_
        refine ne_of (b := eqD (resP b) (.tup [.int 0, .int 1])) (by rw [hb.res]; exact num_okD h2) rfl (by rw [hb.res] <;> rfl) ?_
        exact q
      · rw [h2, Bool.false_and] at q
        exact q
    · rw [h1, Bool.false_and] at q
      exact q

abbrev s_is_form : Stmt := topS 16

theorem sc_is_form : FnScope ["thing", "name", "some", "part"] ["thing"] (defScope s_is_form) := ⟨rfl, rfl, rfl, by decide +kernel, rfl, by decide +kernel, by decide +kernel⟩

def nmOf (x : D) : Str := match resP x with
  | .tup (.str z :: _) => z
  | _ => Str.ofString ""
def isFmP (x : D) : Bool := match resP x with
  | .tup [a, b] => (match resP a with
    | .tup ps => isNumD (resP b) && (ps.all isPtP && risL (ps.map nmOf))
    | _ => false)
  | _ => false
theorem fmP_two {x a b : D} {ps : List D} (e : resP x = .tup [a, b]) (e2 : resP a = .tup ps) : isFmP x = (isNumD (resP b) && (ps.all isPtP && risL (ps.map nmOf))) := by unfold isFmP; rw [e]; dsimp only; rw [e2]
theorem fmP_not {x : D} (h : ∀ a b ps, resP x = .tup [a, b] → resP a ≠ .tup ps) : isFmP x = false := by
  unfold isFmP
  split
  · rename_i a b e
    split
    · rename_i ps e2; exact absurd e2 (h a b ps e)
    · rfl
  · rfl
theorem ptP_of {x : D} (h : isPtP x = true) : ∃ (z : Str) (b : D), resP x = .tup [.str z, b] ∧ nmOf x = z ∧ isNm z = true := by
  unfold isPtP at h
  split at h
  · rename_i a b e
    rw [Bool.and_eq_true] at h
    cases a with
    | str z => exact ⟨z, b, e, by unfold nmOf; rw [e], h.1⟩
    | _ => cases h.1
  · cases h

def sp_is_form : Sp2 := sp1 fun x m Q => Pln x ∧ Q (.bl (isFmP x)) m

theorem fn_is_form {P : Program} {w : World} {K : PySem.W.Frag} {mg : Str → Option Value} {base : Heap} {f : Addr} {fd : FuncData} (F : FunZ K "is_form" "is_form" s_is_form f fd) (D_is_rising : DefOk P w K mg base 1 "is_rising" sp_is_rising) (D_is_number : DefOk P w K mg base 2 "is_number" sp_is_number) (D_is_part : DefOk P w K mg base 3 "is_part" sp_is_part) (mg_isinstance : mg "isinstance" = none) (mg_tuple : mg "tuple" = none) (mg_len : mg "len" = none) (mg_all : mg "all" = none) : FnOk P w K mg base CX0 4 f fd ["thing"] (lift K sp_is_form) := by
  refine fn1 (N := ["thing", "name", "some", "part"]) F sc_is_form rfl fun cdv A outer s H E hr => ⟨_, (qs_cons (ifS (PW2.pt (orW (qt_not (testV (isiB .tup (by decide) (by rfl) mg_isinstance (vU 0) (tyU (by rfl) mg_tuple bt_tuple)))) (orW (tneU hr (lenU (by rfl) mg_len (qa_cons (vU 0) qa_nil)) q_int) (qw_or1 (qt_not (testV (isiB .tup (by decide) (by rfl) mg_isinstance (ixU (vU 0) q_int (fun _ _ => rfl)) (tyU (by rfl) mg_tuple bt_tuple)))))))) (qs_one (qs_ret q_bl)) qs_nil)
    (qs_cons (ifS (PW2.pt (orW (qt_not (testV (callU D_is_number hr (by rfl) (qa_cons (ixU (vU 0) q_int (fun _ _ => rfl)) qa_nil)))) (qw_or1 (qt_not (testV (allU rfl (by rfl) mg_all (qa_cons (q_lc (own := [("part", 3)]) rfl sc_is_form.nd (seqU (ixU (vU 0) q_int (fun _ _ => rfl))) (blkOk_by (N := ["thing", "name", "some", "part"]) (sc := defScope s_is_form) (by decide +kernel)) (fun _ _ _ _ _ => (qgc_name (i := 3) sc_is_form.nd rfl (by first | exact Or.inl rfl | exact Or.inr rfl) (by decide))) (fun _ _ _ _ _ => qts_nil) (fun _ _ _ _ _ => (callU D_is_part hr (by rfl) (qa_cons (vU 3) qa_nil)))) qa_nil))))))) (qs_one (qs_ret q_bl)) qs_nil)
    (qs_one (qs_ret (callU D_is_rising hr (by rfl) (qa_cons (q_lc (own := [("name", 1), ("some", 2)]) rfl sc_is_form.nd (seqU (ixU (vU 0) q_int (fun _ _ => rfl))) (blkOk_by (N := ["thing", "name", "some", "part"]) (sc := defScope s_is_form) (by decide +kernel)) (fun _ _ _ _ _ => (qgc_tup (n := 2) rfl (qgcs_cons (qgc_name (i := 1) sc_is_form.nd rfl (by first | exact Or.inl rfl | exact Or.inr rfl) (by decide)) (qgcs_cons (qgc_name (i := 2) sc_is_form.nd rfl (by first | exact Or.inl rfl | exact Or.inr rfl) (by decide)) qgcs_nil)))) (fun _ _ _ _ _ => qts_nil) (fun _ _ _ _ _ => (vU 1))) qa_nil)))))), ?_⟩
  rintro x m Q ⟨hx, q⟩
  refine isiK_of (t := tyP x) hx.ty ?_
  by_cases ht : tyP x = .tup
  rotate_left
  · rw [fmP_not fun a b ps e => absurd e (tyP_no ht _)] at q
    refine brT ?_ (brt q)
    cases hy : tyP x <;> first | rfl | exact absurd hy ht
  rw [ht]
  obtain ⟨ds, e⟩ := tyP_tup ht
  obtain ⟨hl, hd⟩ := hx.sub e
  have e' := hx.res (m := m)
  rw [e] at e'
  refine brF rfl ?_
  refine kLen_tup e' ?_
  refine neI ?_
  refine br2 (fun h => ?_) (fun h => ?_)
  · have h : ds.length ≠ 2 := by simp at h; omega
    rw [fmP_not fun a b ps e2 => absurd (by rw [e] at e2; cases e2; rfl) h] at q
    exact brt q
  · have h : ds.length = 2 := by simp at h; omega
    obtain ⟨a, b, rfl⟩ := two_of h
    have ha : Pln a := hd a (by simp)
    have hb : Pln b := hd b (by simp)
    refine ix_t e' (d := a) rfl ?_
    refine isiK_of (t := tyP a) ha.ty ?_
    by_cases hta : tyP a = .tup
    rotate_left
    · rw [fmP_not fun a' b' ps e2 => by rw [e] at e2; cases e2; exact tyP_no hta _] at q
      refine brT ?_ q
      cases hy : tyP a <;> first | rfl | exact absurd hy hta
    rw [hta]
    obtain ⟨ps, e2⟩ := tyP_tup hta
    obtain ⟨hpl, hp⟩ := ha.sub e2
    have e2' := ha.res (m := m)
    rw [e2] at e2'
    rw [fmP_two e e2] at q
    refine brF rfl ?_
    refine ix_t e' (d := b) rfl ?_
    refine ⟨_, hb.ty, pln_parts hb, ?_⟩
    rw [pln_is hb]
    refine br2 (fun h1 => ?_) (fun h1 => ?_)
    · have h1 : isNumD (resP b) = false := notT h1
      rw [h1, Bool.false_and] at q
      exact brt q
    have h1 : isNumD (resP b) = true := notF h1
    rw [h1, Bool.true_and] at q
    refine ix_t e' (d := a) rfl ?_
    refine seqK_tup e2' ?_
    refine lc_mapA ps id (by rw [List.map_id]) (fun p => [some x, none, none, some p]) (fun p => .bl (isPtP p)) (Nat.le_trans hpl (szN 100000)) (fun _ _ => trivial) (fun p hp mm _ k hk => hk) (fun p hpm mm _ k hk => ⟨hp p hpm, hk⟩) ?_
    refine kAll_of (ps.map isPtP) (by show some _ = some _; rw [List.map_map] <;> rfl) ?_
    have ea : (ps.map isPtP).all id = ps.all isPtP := by rw [List.all_map]; rfl
    rw [ea]
    refine br2 (fun h2 => ?_) (fun h2 => ?_)
    · have h2 : ps.all isPtP = false := notT h2
      rw [h2, Bool.false_and] at q
      exact q
    have h2 : ps.all isPtP = true := notF h2
    rw [h2, Bool.true_and] at q
    have hal := List.all_eq_true.mp h2
    refine ix_t e' (d := a) rfl ?_
    refine seqK_tup e2' ?_
    refine lc_mapA ps id (by rw [List.map_id]) (fun p => [some x, some (.str (nmOf p)), some ((match resP p with | .tup [_, b] => b | _ => .non)), none]) (fun p => .str (nmOf p)) (Nat.le_trans hpl (szN 100000)) (fun _ _ => trivial) (fun p hpm mm _ k hk => ?_) (fun p hpm mm _ k hk => hk) ?_
    · obtain ⟨z, c, e3, e4, _⟩ := ptP_of (hal p hpm)
      have e5 := (hp p hpm).res (m := mm)
      rw [e3] at e5
      refine ⟨_, e5, rfl, ?_⟩
      rw [e3, e4] at hk
      exact hk
    · exact ⟨ps.map nmOf, by rw [List.map_map] <;> rfl, by rw [List.length_map]; exact hpl, q⟩

abbrev s_is_one_of : Stmt := topS 22

theorem sc_is_one_of : FnScope ["thing", "words"] ["thing", "words"] (defScope s_is_one_of) := ⟨rfl, rfl, rfl, by decide +kernel, rfl, by decide +kernel, by decide +kernel⟩

def isOf (ws : List Str) (x : D) : Bool := match x with | .str z => decide (z ∈ ws) | _ => false
theorem isOf_not {ws : List Str} {x : D} (h : tyP x ≠ .str) : isOf ws x = false := by cases x <;> first | rfl | exact absurd rfl h

def sp_is_one_of : Sp2 := sp2 fun x y m Q => Pln x ∧ ∃ ws : List Str, y = .tup (ws.map .str) ∧ Q (.bl (isOf ws x)) m

theorem fn_is_one_of {P : Program} {w : World} {K : PySem.W.Frag} {mg : Str → Option Value} {base : Heap} {f : Addr} {fd : FuncData} (F : FunZ K "is_one_of" "is_one_of" s_is_one_of f fd) (mg_isinstance : mg "isinstance" = none) (mg_str : mg "str" = none) : FnOk P w K mg base CX0 1 f fd ["thing", "words"] (lift K sp_is_one_of) := by
  refine fn2 (N := ["thing", "words"]) F sc_is_one_of rfl fun cdv A outer s H E hr => ⟨_, (qs_one (qs_ret (andV (isiB .str (by decide) (by rfl) mg_isinstance (vU 0) (tyU (by rfl) mg_str bt_str)) (q_one (inU (vU 0) (vU 1) (by with_unfolding_all rfl)))))), ?_⟩
  rintro x _ m Q ⟨hx, ws, rfl, q⟩
  refine isiK_of (t := tyP x) hx.ty ?_
  by_cases ht : tyP x = .str
  rotate_left
  · rw [isOf_not ht] at q
    refine brF ?_ q
    cases hy : tyP x <;> first | rfl | exact absurd hy ht
  obtain ⟨z, rfl⟩ := strP ht
  refine brT rfl ?_
  exact in_f (ds := ws.map D.str) rfl rfl (by rw [List.all_map, List.all_eq_true]; exact fun _ _ => rfl) inD_dec q

abbrev s_is_line : Stmt := topS 23

theorem sc_is_line : FnScope ["thing"] ["thing"] (defScope s_is_line) := ⟨rfl, rfl, rfl, by decide +kernel, rfl, by decide +kernel, by decide +kernel⟩

abbrev sgs13 : List Str := ["<=", "="]
def isLnP (x : D) : Bool := match resP x with | .tup [a, b] => isFmP a && isOf sgs13 b | _ => false
theorem lnP_two {x a b : D} (e : resP x = .tup [a, b]) : isLnP x = (isFmP a && isOf sgs13 b) := by unfold isLnP; rw [e]
theorem lnP_not {x : D} (h : ∀ a b, resP x ≠ .tup [a, b]) : isLnP x = false := by
  unfold isLnP
  split
  · rename_i a b e; exact absurd e (h a b)
  · rfl
theorem len_two {x : D} (h : lenIs 2 x = true) : ∃ a b, resP x = .tup [a, b] := by
  unfold lenIs at h
  split at h
  · rename_i ds e
    obtain ⟨a, b, rfl⟩ := two_of (of_decide_eq_true h)
    exact ⟨a, b, e⟩
  · cases h
theorem len_no {k : Nat} {x : D} (h : lenIs k x = false) : ∀ ds, resP x = .tup ds → ds.length ≠ k := fun ds e => by
  rw [lenIs_of e] at h
  exact of_decide_eq_false h

def sp_is_line : Sp2 := sp1 fun x m Q => Pln x ∧ Q (.bl (isLnP x)) m

theorem fn_is_line {P : Program} {w : World} {K : PySem.W.Frag} {mg : Str → Option Value} {base : Heap} {f : Addr} {fd : FuncData} (F : FunZ K "is_line" "is_line" s_is_line f fd) (D_is_row_of : DefOk P w K mg base 1 "is_row_of" sp_is_row_of) (D_is_form : DefOk P w K mg base 4 "is_form" sp_is_form) (D_is_one_of : DefOk P w K mg base 1 "is_one_of" sp_is_one_of) (c_SIGNS : ConstAt K mg "SIGNS" (.tup [.str "<=", .str "="])) : FnOk P w K mg base CX0 5 f fd ["thing"] (lift K sp_is_line) := by
  refine fn1 (N := ["thing"]) F sc_is_line rfl fun cdv A outer s H E hr => ⟨_, (qs_one (qs_ret (andV (callU D_is_row_of hr (by rfl) (qa_cons (vU 0) (qa_cons q_int qa_nil))) (andV (callU D_is_form hr (by rfl) (qa_cons (ixU (vU 0) q_int (fun _ _ => rfl)) qa_nil)) (q_one (callU D_is_one_of hr (by rfl) (qa_cons (ixU (vU 0) q_int (fun _ _ => rfl)) (qa_cons (cU c_SIGNS (by rfl)) qa_nil)))))))), ?_⟩
  rintro x m Q ⟨hx, q⟩
  refine ⟨hx, 2, rfl, ?_⟩
  refine br2 (fun h => ?_) (fun h => ?_)
  · obtain ⟨a, b, e⟩ := len_two h
    obtain ⟨hl, hd⟩ := hx.sub e
    have ha : Pln a := hd a (by simp)
    have hb : Pln b := hd b (by simp)
    have e' := hx.res (m := m)
    rw [e] at e'
    rw [lnP_two e] at q
    refine ix_t e' (d := a) rfl ?_
    refine ⟨ha, ?_⟩
    refine br2 (fun h1 => ?_) (fun h1 => ?_)
    · rw [h1, Bool.true_and] at q
      refine ix_t e' (d := b) rfl ?_
      exact ⟨hb, sgs13, rfl, q⟩
    · rw [h1, Bool.false_and] at q
      exact q
  · rw [lnP_not fun a b e => len_no h _ e rfl] at q
    exact q

abbrev s_is_weight : Stmt := topS 24

theorem sc_is_weight : FnScope ["thing"] ["thing"] (defScope s_is_weight) := ⟨rfl, rfl, rfl, by decide +kernel, rfl, by decide +kernel, by decide +kernel⟩

def posN (x : D) : Bool := match resP x with | .tup (.int a :: _) => decide (0 < a) | _ => false
def isWtP (x : D) : Bool := isNumD (resP x) && posN x

def sp_is_weight : Sp2 := sp1 fun x m Q => Pln x ∧ Q (.bl (isWtP x)) m

theorem fn_is_weight {P : Program} {w : World} {K : PySem.W.Frag} {mg : Str → Option Value} {base : Heap} {f : Addr} {fd : FuncData} (F : FunZ K "is_weight" "is_weight" s_is_weight f fd) (D_is_number : DefOk P w K mg base 2 "is_number" sp_is_number) : FnOk P w K mg base CX0 3 f fd ["thing"] (lift K sp_is_weight) := by
  refine fn1 (N := ["thing"]) F sc_is_weight rfl fun cdv A outer s H E hr => ⟨_, (qs_one (qs_ret (andV (callU D_is_number hr (by rfl) (qa_cons (vU 0) qa_nil)) (q_one (gtU (ixU (vU 0) q_int (fun _ _ => rfl)) q_int))))), ?_⟩
  rintro x m Q ⟨hx, q⟩
  refine ⟨_, hx.ty, pln_parts hx, ?_⟩
  rw [pln_is hx]
  unfold isWtP at q
  refine br2 (fun h => ?_) (fun h => ?_)
  · rw [h, Bool.true_and] at q
    obtain ⟨p, e, hp⟩ := numD_of h
    have e' := hx.res (m := m)
    rw [e] at e'
    unfold posN at q
    rw [e] at q
    refine ix_t e' (d := .int p.1) rfl ?_
    exact q
  · rw [h, Bool.false_and] at q
    exact q

abbrev s_is_rung : Stmt := topS 25

theorem sc_is_rung : FnScope ["thing", "one"] ["thing"] (defScope s_is_rung) := ⟨rfl, rfl, rfl, by decide +kernel, rfl, by decide +kernel, by decide +kernel⟩

def isPrP (x : D) : Bool := match resP x with | .tup [a, b] => isWtP a && isLnP b | _ => false
theorem prP_two {x a b : D} (e : resP x = .tup [a, b]) : isPrP x = (isWtP a && isLnP b) := by unfold isPrP; rw [e]
theorem prP_not {x : D} (h : ∀ a b, resP x ≠ .tup [a, b]) : isPrP x = false := by
  unfold isPrP
  split
  · rename_i a b e; exact absurd e (h a b)
  · rfl
def isRgP (x : D) : Bool := match resP x with | .tup ps => decide (ps.length ≤ 16) && ps.all isPrP | _ => false
theorem rgP_of {x : D} {ps : List D} (e : resP x = .tup ps) : isRgP x = (decide (ps.length ≤ 16) && ps.all isPrP) := by unfold isRgP; rw [e]
theorem rgP_not {x : D} (h : ∀ ps, resP x ≠ .tup ps) : isRgP x = false := by
  unfold isRgP
  split
  · rename_i ps e; exact absurd e (h ps)
  · rfl

def sp_is_rung : Sp2 := sp1 fun x m Q => Pln x ∧ Q (.bl (isRgP x)) m

theorem fn_is_rung {P : Program} {w : World} {K : PySem.W.Frag} {mg : Str → Option Value} {base : Heap} {f : Addr} {fd : FuncData} (F : FunZ K "is_rung" "is_rung" s_is_rung f fd) (D_is_row_of : DefOk P w K mg base 1 "is_row_of" sp_is_row_of) (D_is_weight : DefOk P w K mg base 3 "is_weight" sp_is_weight) (D_is_line : DefOk P w K mg base 5 "is_line" sp_is_line) (mg_all : mg "all" = none) (mg_isinstance : mg "isinstance" = none) (mg_tuple : mg "tuple" = none) (mg_len : mg "len" = none) (c_MOST_PAIRS : ConstAt K mg "MOST_PAIRS" (.int 16)) : FnOk P w K mg base CX0 6 f fd ["thing"] (lift K sp_is_rung) := by
  refine fn1 (N := ["thing", "one"]) F sc_is_rung rfl fun cdv A outer s H E hr => ⟨_, (qs_cons (ifS (PW2.pt (orW (qt_not (testV (isiB .tup (by decide) (by rfl) mg_isinstance (vU 0) (tyU (by rfl) mg_tuple bt_tuple)))) (qw_or1 (tgtU (lenU (by rfl) mg_len (qa_cons (vU 0) qa_nil)) (cU c_MOST_PAIRS (by rfl)))))) (qs_one (qs_ret q_bl)) qs_nil)
    (qs_one (qs_ret (allU rfl (by rfl) mg_all (qa_cons (q_lc (own := [("one", 1)]) rfl sc_is_rung.nd (seqU (vU 0)) (blkOk_by (N := ["thing", "one"]) (sc := defScope s_is_rung) (by decide +kernel)) (fun _ _ _ _ _ => (qgc_name (i := 1) sc_is_rung.nd rfl (by first | exact Or.inl rfl | exact Or.inr rfl) (by decide))) (fun _ _ _ _ _ => qts_nil) (fun _ _ _ _ _ => (andV (callU D_is_row_of hr (by rfl) (qa_cons (vU 1) (qa_cons q_int qa_nil))) (andV (callU D_is_weight hr (by rfl) (qa_cons (ixU (vU 1) q_int (fun _ _ => rfl)) qa_nil)) (q_one (callU D_is_line hr (by rfl) (qa_cons (ixU (vU 1) q_int (fun _ _ => rfl)) qa_nil))))))) qa_nil))))), ?_⟩
  rintro x m Q ⟨hx, q⟩
  refine isiK_of (t := tyP x) hx.ty ?_
  by_cases ht : tyP x = .tup
  rotate_left
  · rw [rgP_not (tyP_no ht)] at q
    refine brT ?_ (brt q)
    cases hy : tyP x <;> first | rfl | exact absurd hy ht
  rw [ht]
  obtain ⟨ps, e⟩ := tyP_tup ht
  obtain ⟨hl, hd⟩ := hx.sub e
  have e' := hx.res (m := m)
  rw [e] at e'
  rw [rgP_of e] at q
  refine brF rfl ?_
  refine kLen_tup e' ?_
  refine br2 (fun h => ?_) (fun h => ?_)
  · have h := of_decide_eq_true h
    rw [decide_eq_false (p := ps.length ≤ 16) (by omega), Bool.false_and] at q
    exact q
  · have h := of_decide_eq_false h
    rw [decide_eq_true (p := ps.length ≤ 16) (by omega), Bool.true_and] at q
    refine seqK_tup e' ?_
    refine lc_mapA ps id (by rw [List.map_id]) (fun p => [some x, some p]) (fun p => .bl (isPrP p)) (Nat.le_trans hl (szN 100000)) (fun _ _ => trivial) (fun p hp mm _ k hk => hk) (fun p hpm mm _ k hk => ?_) ?_
    · have hp := hd p hpm
      refine ⟨hp, 2, rfl, ?_⟩
      refine br2 (fun h => ?_) (fun h => ?_)
      · obtain ⟨a, b, e2⟩ := len_two h
        obtain ⟨_, hd2⟩ := hp.sub e2
        have ha : Pln a := hd2 a (by simp)
        have hb : Pln b := hd2 b (by simp)
        have e3 := hp.res (m := mm)
        rw [e2] at e3
        rw [prP_two e2] at hk
        refine ix_t e3 (d := a) rfl ?_
        refine ⟨ha, ?_⟩
        refine br2 (fun h1 => ?_) (fun h1 => ?_)
        · rw [h1, Bool.true_and] at hk
          refine ix_t e3 (d := b) rfl ?_
          exact ⟨hb, hk⟩
        · rw [h1, Bool.false_and] at hk
          exact hk
      · rw [prP_not fun a b e2 => len_no h _ e2 rfl] at hk
        exact hk
    refine kAll_of (ps.map isPrP) (by show some _ = some _; rw [List.map_map] <;> rfl) ?_
    have ea : (ps.map isPrP).all id = ps.all isPrP := by rw [List.all_map]; rfl
    rw [ea]
    exact q

abbrev s_is_wish : Stmt := topS 26

theorem sc_is_wish : FnScope ["thing"] ["thing"] (defScope s_is_wish) := ⟨rfl, rfl, rfl, by decide +kernel, rfl, by decide +kernel, by decide +kernel⟩

abbrev sts13 : List Str := ["must", "should", "might"]
def isWsP (x : D) : Bool := match resP x with
  | .tup [a, b, c] => isOf sts13 a && (isWtP b && (isLnP c && (!isOf ["must"] a || eqD (resP b) (.tup [.int 1, .int 1]))))
  | _ => false
theorem wsP_three {x a b c : D} (e : resP x = .tup [a, b, c]) : isWsP x = (isOf sts13 a && (isWtP b && (isLnP c && (!isOf ["must"] a || eqD (resP b) (.tup [.int 1, .int 1]))))) := by unfold isWsP; rw [e]
theorem wsP_not {x : D} (h : ∀ a b c, resP x ≠ .tup [a, b, c]) : isWsP x = false := by
  unfold isWsP
  split
  · rename_i a b c e; exact absurd e (h a b c)
  · rfl
theorem len_three {x : D} (h : lenIs 3 x = true) : ∃ a b c, resP x = .tup [a, b, c] := by
  unfold lenIs at h
  split at h
  · rename_i ds e
    match ds, of_decide_eq_true h with
    | [a, b, c], _ => exact ⟨a, b, c, e⟩
  · cases h

def sp_is_wish : Sp2 := sp1 fun x m Q => Pln x ∧ Q (.bl (isWsP x)) m

theorem fn_is_wish {P : Program} {w : World} {K : PySem.W.Frag} {mg : Str → Option Value} {base : Heap} {f : Addr} {fd : FuncData} (F : FunZ K "is_wish" "is_wish" s_is_wish f fd) (D_is_row_of : DefOk P w K mg base 1 "is_row_of" sp_is_row_of) (D_is_one_of : DefOk P w K mg base 1 "is_one_of" sp_is_one_of) (D_is_weight : DefOk P w K mg base 3 "is_weight" sp_is_weight) (D_is_line : DefOk P w K mg base 5 "is_line" sp_is_line) (D_number : DefOk P w K mg base 2 "number" sp_number) (c_STRENGTHS : ConstAt K mg "STRENGTHS" (.tup [.str "must", .str "should", .str "might"])) (E_number1 : DefDf P w K mg base 2 "number" sp_number [.int 1]) : FnOk P w K mg base CX0 6 f fd ["thing"] (lift K sp_is_wish) := by
  refine fn1 (N := ["thing"]) F sc_is_wish rfl fun cdv A outer s H E hr => ⟨_, (qs_cons (ifS (PW2.pt (orW (qt_not (testV (callU D_is_row_of hr (by rfl) (qa_cons (vU 0) (qa_cons q_int qa_nil))))) (qw_or1 (qt_not (testV (callU D_is_one_of hr (by rfl) (qa_cons (ixU (vU 0) q_int (fun _ _ => rfl)) (qa_cons (cU c_STRENGTHS (by rfl)) qa_nil)))))))) (qs_one (qs_ret q_bl)) qs_nil)
    (qs_cons (ifS (PW2.pt (orW (qt_not (testV (callU D_is_weight hr (by rfl) (qa_cons (ixU (vU 0) q_int (fun _ _ => rfl)) qa_nil)))) (qw_or1 (qt_not (testV (callU D_is_line hr (by rfl) (qa_cons (ixU (vU 0) q_int (fun _ _ => rfl)) qa_nil))))))) (qs_one (qs_ret q_bl)) qs_nil)
    (qs_one (qs_ret (orV (q_ne hr (ixU (vU 0) q_int (fun _ _ => rfl)) q_str) (q_one (q_eq hr (ixU (vU 0) q_int (fun _ _ => rfl)) (callDU E_number1 hr (by rfl) (qa_cons q_int qa_nil))))))))), ?_⟩
  rintro x m Q ⟨hx, q⟩
  refine ⟨hx, 3, rfl, ?_⟩
  refine br2 (fun h => ?_) (fun h => ?_)
  · have h := notT h
    rw [wsP_not fun a b c e => len_no h _ e rfl] at q
    exact brt q
  · have h := notF h
    obtain ⟨a, b, c, e⟩ := len_three h
    obtain ⟨hl, hd⟩ := hx.sub e
    have ha : Pln a := hd a (by simp)
    have hb : Pln b := hd b (by simp)
    have hc : Pln c := hd c (by simp)
    have e' := hx.res (m := m)
    rw [e] at e'
    rw [wsP_three e] at q
    refine ix_t e' (d := a) rfl ?_
    refine ⟨ha, sts13, rfl, ?_⟩
    refine br2 (fun h1 => ?_) (fun h1 => ?_)
    · rw [notT h1, Bool.false_and] at q
      exact q
    have h1 := notF h1
    rw [h1, Bool.true_and] at q
    refine ix_t e' (d := b) rfl ?_
    refine ⟨hb, ?_⟩
    refine br2 (fun h2 => ?_) (fun h2 => ?_)
    · rw [notT h2, Bool.false_and] at q
      exact brt q
    have h2 := notF h2
    rw [h2, Bool.true_and] at q
    refine ix_t e' (d := c) rfl ?_
    refine ⟨hc, ?_⟩
    refine br2 (fun h3 => ?_) (fun h3 => ?_)
    · rw [notT h3, Bool.false_and] at q
      exact q
    have h3 := notF h3
    rw [h3, Bool.true_and] at q
    obtain ⟨z, rfl⟩ : ∃ z, a = .str z := by cases a <;> first | exact ⟨_, rfl⟩ | cases h1
    have hzok : okT z = true := by cases ha with | str h _ => exact h
    refine ix_t e' (d := .str z) rfl ?_
    refine ne_of (b := decide (z = Str.ofString "must")) (okS hzok) (okS (okT_of (by decide))) eqD_str ?_
    have em : isOf ["must"] (.str z) = decide (z = Str.ofString "must") := decide_eq_decide.mpr List.mem_singleton
    rw [em] at q
    cases hz : decide (z = Str.ofString "must") with
    | false =>
      rw [hz] at q
      exact brt q
    | true =>
      rw [hz] at q
      refine brf ?_
      refine ix_t e' (d := b) rfl ?_
      refine ⟨1, 1, rfl, rfl, by decide, by decide, ?_⟩
      have hn : isNumD (resP b) = true := (Bool.and_eq_true_iff.mp h2).1
      exact eq_of (b := eqD (resP b) (.tup [.int 1, .int 1])) (by rw [hb.res]; exact num_okD hn) rfl (by rw [hb.res]; rfl) q

abbrev s__law_state : Stmt := topS 28

theorem sc__law_state : FnScope ["_law_script", "_law_k", "_law_cell"] ["_law_script", "_law_k"] (defScope s__law_state) := ⟨rfl, rfl, rfl, by decide +kernel, rfl, by decide +kernel, by decide +kernel⟩

def sp__law_state : Sp2 := sp2 fun s k m Q => ∃ (ns : List Int) (j : Nat), s = .rol (ns.map .int) ∧ k = .int j ∧ ∀ p m', m p = none → StAt p m m' → Q (.ref p) m'

theorem fn__law_state {P : Program} {w : World} {K : PySem.W.Frag} {mg : Str → Option Value} {base : Heap} {f : Addr} {fd : FuncData} (F : FunZ K "_law_state" "_law_state" s__law_state f fd) (mg_len : mg "len" = none) (mg_sum : mg "sum" = none) : FnOk P w K mg base CX0 1 f fd ["_law_script", "_law_k"] (lift K sp__law_state) := by
  refine fn2 (N := ["_law_script", "_law_k", "_law_cell"]) F sc__law_state rfl fun cdv A outer s H E hr => ⟨_, (qs_cons (qs_set (i := 2) sc__law_state.nd rfl (by first | exact Or.inl rfl | exact Or.inr rfl) (addU (modU (sumU rfl (by rfl) mg_sum (qa_cons (vU 0) qa_nil)) q_int) (mulU q_int (vU 1))))
    (qs_cons (ifS (tltU (vU 1) (lenU (by rfl) mg_len (qa_cons (vU 0) qa_nil))) (qs_one (qs_set (i := 2) sc__law_state.nd rfl (by first | exact Or.inl rfl | exact Or.inr rfl) (ixU (vU 0) (vU 1) (fun _ _ => rfl)))) qs_nil)
    (qs_cons (ifS (tgeU (vU 2) (powU q_int q_int)) (qs_one (qs_ret (q_lstM (qa_cons q_int (qa_cons (subU (vU 2) (powU q_int q_int)) (qa_cons (vU 1) qa_nil)))))) qs_nil)
    (qs_one (qs_ret (q_lstM (qa_cons q_int (qa_cons (modU (addU (addU (addU (mulU (vU 2) q_int) (mulU q_int (vU 1))) (lenU (by rfl) mg_len (qa_cons (vU 0) qa_nil))) q_int) q_int) (qa_cons (addU (vU 1) q_int) qa_nil))))))))), ?_⟩
  rintro _ _ m Q ⟨ns, j, rfl, rfl, q⟩
  refine kSum_of ns rfl ?_
  refine modI (by decide) ?_
  refine mulI (cokL (by decide)) ?_
  refine kLen_rol rfl ?_
  refine br2 (fun h => ?_) (fun h => ?_)
  case' _ =>
    have hj : j < ns.length := by
      have := of_decide_eq_true h
      rw [List.length_map] at this
      omega
    refine ix_n (i := j) (d := .int ns[j]) (ds := ns.map .int) rfl (by rw [List.getElem?_map, List.getElem?_eq_getElem hj] <;> rfl) ?_
  all_goals
    refine powI (by decide) (by decide) (by decide) ?_
    refine br2 (fun h1 => ?_) (fun h1 => ?_)
    · refine powI (by decide) (by decide) (by decide) ?_
      refine fun p hp => ?_
      have := of_decide_eq_true h1
      exact q p _ hp ⟨_, ⟨_, _, _, rfl, by omega, .inl rfl⟩, rfl⟩
    · refine mulI (cokR (by decide)) ?_
      refine mulI (cokL (by decide)) ?_
      refine kLen_rol rfl ?_
      refine modI (by decide) ?_
      refine fun p hp => ?_
      exact q p _ hp ⟨_, ⟨_, _, _, rfl, Int.emod_nonneg _ (by decide), .inr ⟨by decide, Int.emod_lt_of_pos _ (by decide)⟩⟩, rfl⟩

abbrev s__law_next : Stmt := topS 29

theorem sc__law_next : FnScope ["_law_state_here", "_law_size", "_law_mixed", "_law_digit"] ["_law_state_here", "_law_size"] (defScope s__law_next) := ⟨rfl, rfl, rfl, by decide +kernel, rfl, by decide +kernel, by decide +kernel⟩

def sp__law_next : Sp2 := sp2 fun s n m Q => ∃ (p : Addr) (k : Int), s = .ref p ∧ n = .int k ∧ StAt p m m ∧ 0 < k ∧ k.natAbs.log2 < 9000 ∧ ∀ (r : Int) m', 0 ≤ r → r < k → StAt p m m' → Q (.int r) m'

theorem fn__law_next {P : Program} {w : World} {K : PySem.W.Frag} {mg : Str → Option Value} {base : Heap} {f : Addr} {fd : FuncData} (F : FunZ K "_law_next" "_law_next" s__law_next f fd) : FnOk P w K mg base CX0 1 f fd ["_law_state_here", "_law_size"] (lift K sp__law_next) := by
  refine fn2 (N := ["_law_state_here", "_law_size", "_law_mixed", "_law_digit"]) F sc__law_next rfl fun cdv A outer s H E hr => ⟨_, (qs_cons (ifS (teqU hr (ixU (vU 0) q_int (fun _ _ => rfl)) q_int) (qs_cons (qs_set (i := 3) sc__law_next.nd rfl (by first | exact Or.inl rfl | exact Or.inr rfl) (modU (ixU (vU 0) q_int (fun _ _ => rfl)) (vU 1)))
    (qs_cons (qs_asg (divU (ixU (vU 0) q_int (fun _ _ => rfl)) (vU 1)) (qg_subL (vU 0) q_int))
    (qs_one (qs_ret (vU 3))))) qs_nil)
    (qs_cons (qs_asg (modU (addU (mulU (ixU (vU 0) q_int (fun _ _ => rfl)) q_int) (ixU (vU 0) q_int (fun _ _ => rfl))) q_int) (qg_subL (vU 0) q_int))
    (qs_cons (qs_set (i := 2) sc__law_next.nd rfl (by first | exact Or.inl rfl | exact Or.inr rfl) (modU (mulU (ixU (vU 0) q_int (fun _ _ => rfl)) (ixU (vU 0) q_int (fun _ _ => rfl))) q_int))
    (qs_one (qs_ret (modU (divU (modU (mulU (vU 2) (vU 2)) q_int) q_int) (vU 1))))))), ?_⟩
  rintro _ _ m Q ⟨p, k, rfl, rfl, hs, h0, hl, q⟩
  obtain ⟨_, ⟨a, b, c, rfl, hb, ha⟩, e⟩ := hs.at
  refine ix_l (res_at e) (d := .int a) rfl ?_
  refine eqI ?_
  refine br2 (fun h => ?_) (fun h => ?_)
  · have h := of_decide_eq_true h
    subst h
    refine ix_l (res_at e) (d := .int b) rfl ?_
    refine modI h0 ?_
    refine ix_l (res_at e) (d := .int b) rfl ?_
    refine divI h0 hl ?_
    refine ⟨p, _, 1, 1, rfl, rfl, e, rfl, ?_⟩
    exact q _ _ (Int.emod_nonneg _ (by omega)) (Int.emod_lt_of_pos _ h0) ⟨_, ⟨_, _, _, rfl, Int.ediv_nonneg hb (by omega), .inl rfl⟩, rfl⟩
  · have h := of_decide_eq_false h
    refine ix_l (res_at e) (d := .int b) rfl ?_
    refine mulI (cokR (by decide)) ?_
    refine ix_l (res_at e) (d := .int c) rfl ?_
    refine modI (by decide) ?_
    refine ⟨p, _, 1, 1, rfl, rfl, e, rfl, ?_⟩
    have h1 := Int.emod_nonneg (b * 48271 + c) (by decide : (2147483647 : Int) ≠ 0)
    have h2 := Int.emod_lt_of_pos (b * 48271 + c) (by decide : (0 : Int) < 2147483647)
    refine ix_l (res_at upM_same) (d := .int ((b * 48271 + c) % 2147483647)) rfl ?_
    refine ix_l (res_at upM_same) (d := .int ((b * 48271 + c) % 2147483647)) rfl ?_
    refine mulI (cokL ⟨by omega, by omega⟩) ?_
    refine modI (by decide) ?_
    generalize (b * 48271 + c) % 2147483647 = z at *
    have h3 := Int.emod_nonneg (z * z) (by decide : (2147483629 : Int) ≠ 0)
    have h4 := Int.emod_lt_of_pos (z * z) (by decide : (0 : Int) < 2147483629)
    refine mulI (cokL ⟨by omega, by omega⟩) ?_
    refine modI (by decide) ?_
    refine divI (by decide) (by decide) ?_
    refine modI h0 ?_
    exact q _ _ (Int.emod_nonneg _ (by omega)) (Int.emod_lt_of_pos _ h0) ⟨_, ⟨a, z, c, rfl, h1, .inr ⟨h, h2⟩⟩, rfl⟩

abbrev s__law_names : Stmt := topS 30

theorem sc__law_names : FnScope ["_law_state_here", "_law_size", "_law_letters", "_law_shift", "_law_long", "_law_place", "_law_base", "_law_signs", "_law_found", "_law_k", "_law_sign", "_law_name"] ["_law_state_here", "_law_size"] (defScope s__law_names) := ⟨rfl, rfl, rfl, by decide +kernel, rfl, by decide +kernel, by decide +kernel⟩


/-- names: good ones, rising -/
structure NmsOk (zs : List Str) : Prop where
  nm : ∀ z ∈ zs, nmOk z
  pw : zs.Pairwise fun a b => a.cps.toList < b.cps.toList
theorem NmsOk.nd {zs : List Str} (h : NmsOk zs) : zs.Nodup := h.pw.imp fun {a b} k e => by rw [e] at k; exact List.lt_irrefl _ k
def letZ : Str := Str.ofString "abcdefghijklmnopqrstuvwxyz"
def chrS (j : Nat) : Str := ⟨#[(TL.tl letZ).getD (j % 26) 0]⟩
theorem chr_at (j : Nat) : atI letZ.cps.toList ((j : Int) % 26) = some ((TL.tl letZ).getD (j % 26) 0) := by
  have h : ∀ k < 26, atI letZ.cps.toList ((k : Nat) : Int) = some ((TL.tl letZ).getD k 0) := by decide
  have e : ((j : Int) % 26) = ((j % 26 : Nat) : Int) := by omega
  rw [e]
  exact h _ (Nat.mod_lt _ (by decide))
theorem chr_tl (j : Nat) : TL.tl (chrS j) = [97 + j % 26] := by
  have h : ∀ k < 26, (TL.tl letZ).getD k 0 = 97 + k := by decide
  show [(TL.tl letZ).getD (j % 26) 0] = _
  rw [h _ (Nat.mod_lt _ (by decide))]
theorem letZ_len : letZ.length ≤ sizeLine := szN 26
def repS (z : Str) (n : Int) : Str := ⟨(List.replicate n.toNat z.cps.toList).flatten.toArray⟩
theorem repS_tl (z : Str) (n : Int) : TL.tl (repS z n) = (List.replicate n.toNat (TL.tl z)).flatten := rfl
theorem repS_lt {z : Str} {i j : Nat} (hz : z.length = 1) (h : i < j) : (repS z (1 + (0 + (i : Int)))).cps.toList < (repS z (1 + (0 + (j : Int)))).cps.toList := by
  have e2 : (TL.tl z).length = 1 := by rw [← hz]; exact Array.length_toList
  obtain ⟨c, hc⟩ : ∃ c, TL.tl z = [c] := by
    match TL.tl z, e2 with
    | [c], _ => exact ⟨c, rfl⟩
  show TL.tl (repS z _) < TL.tl (repS z _)
  rw [repS_tl, repS_tl, hc, show (1 + (0 + (i : Int))).toNat = i + 1 by omega, show (1 + (0 + (j : Int))).toNat = j + 1 by omega]
  have e : ∀ n, (List.replicate n [c]).flatten = List.replicate n c := fun n => by
    induction n with
    | zero => rfl
    | succ n ih => rw [List.replicate_succ, List.flatten_cons, ih]; rfl
  rw [e, e]
  have k : ∀ (a b : Nat), a < b → List.replicate a c < List.replicate b c := fun a => by
    induction a with
    | zero => intro b hb; cases b with | zero => omega | succ b => exact List.Lex.nil
    | succ a ih => intro b hb; cases b with | zero => omega | succ b => exact List.Lex.cons (ih b (by omega))
  exact k _ _ (by omega)
theorem tl_joinE : ∀ ys : List Str, TL.tl (Txt.join (Str.ofString "") ys) = (ys.map TL.tl).flatten := by
  intro ys
  rw [TL.join_eq, TL.tl_join]
  have e : TL.tl (Str.ofString "") = [] := rfl
  rw [e]
  induction ys with
  | nil => rfl
  | cons y ys ih =>
    cases ys with
    | nil => simp [TL.joinL]
    | cons y2 ys =>
      simp only [List.map_cons, TL.joinL, List.flatten_cons, List.nil_append] at ih ⊢
      rw [ih]
theorem sum_ones : ∀ {ys : List Str}, (∀ y ∈ ys, y.length = 1) → (ys.map (·.length)).sum = ys.length
  | [], _ => rfl
  | y :: ys, h => by
    rw [List.map_cons, List.sum_cons, sum_ones fun z hz => h z (List.mem_cons_of_mem _ hz), h y List.mem_cons_self, List.length_cons]
    omega
theorem in_lv {m : M} {Q : Kd} {x y : D} {ds : List D} (e : itsD (res m y) = some ds) (h1 : flatD x = true) (h2 : ds.all flatD = true) (q : Q (.bl (inD x ds)) m) : oInU false x y m Q := by
  unfold oInU
  refine ⟨?_⟩
  cases h : res m y <;> rw [h] at e <;> first | (cases e; exact ⟨⟨h1, h2⟩, q⟩) | cases e
/-- letters from a shift on, three apart -/
def bas26 (sh n : Nat) : List Nat := (List.range n).map fun i => 97 + (sh + 3 * i) % 26
/-- the same with one letter otherwise -/
def odd26 (sh n pl k : Nat) : List Nat := (bas26 sh n).take pl ++ [97 + (sh + 5 + 3 * k) % 26] ++ (bas26 sh n).drop (pl + 1)
def kept26 : List (List Nat) := keptL.map TL.tl
def good26 (l : List Nat) : Bool := decide (1 ≤ l.length) && decide (l.length ≤ 6) && l.all (fun c => decide (97 ≤ c ∧ c ≤ 122)) && !kept26.contains l
def zed26 (l : List Nat) : List Nat := if [[98, 121], [110, 111], [116, 111]].contains l then l ++ [122] else l
theorem good_nm {z : Str} (h : good26 (TL.tl z) = true) : nmOk z := by
  unfold good26 at h
  simp only [Bool.and_eq_true, decide_eq_true_eq, List.all_eq_true, Bool.not_eq_true'] at h
  obtain ⟨⟨⟨h1, h2⟩, h3⟩, h4⟩ := h
  have e := TL.len_tl z
  refine ⟨by omega, by omega, h3, fun hk => ?_⟩
  have : kept26.contains (TL.tl z) = true := by
    rw [List.contains_iff_mem]
    exact List.mem_map_of_mem hk
  rw [this] at h4
  cases h4
theorem odd_good : ∀ sh < 26, ∀ n < 7, ∀ pl < n, ∀ k < 6, good26 (zed26 (odd26 sh n pl k)) = true := by decide +kernel
theorem rep_good : ∀ sh < 26, ∀ i < 6, good26 (List.replicate (1 + i) (97 + sh)) = true := by decide +kernel
theorem odd_injB : ((List.range 26).all fun sh => (List.range 7).all fun n => (List.range n).all fun pl => (List.range 6).all fun i => (List.range 6).all fun j => !(zed26 (odd26 sh n pl i) == zed26 (odd26 sh n pl j)) || i == j) = true := by decide +kernel
theorem odd_inj (sh : Nat) (h1 : sh < 26) (n : Nat) (h2 : n < 7) (pl : Nat) (h3 : pl < n) (i : Nat) (h4 : i < 6) (j : Nat) (h5 : j < 6) (e : zed26 (odd26 sh n pl i) = zed26 (odd26 sh n pl j)) : i = j := by
  have k := List.all_eq_true.mp (List.all_eq_true.mp (List.all_eq_true.mp (List.all_eq_true.mp (List.all_eq_true.mp odd_injB sh (List.mem_range.mpr h1)) n (List.mem_range.mpr h2)) pl (List.mem_range.mpr h3)) i (List.mem_range.mpr h4)) j (List.mem_range.mpr h5)
  rw [e] at k
  simpa using k
theorem fixed_nms (k : Nat) : NmsOk ([Str.ofString "ends", Str.ofString "gones", Str.ofString "mights", Str.ofString "nos", Str.ofString "shows", Str.ofString "tox"].take k) := by
  refine ⟨fun z hz => isNm_iff.mp ?_, ?_⟩
  · have k : ∀ z ∈ [Str.ofString "ends", Str.ofString "gones", Str.ofString "mights", Str.ofString "nos", Str.ofString "shows", Str.ofString "tox"], isNm z = true := by decide +kernel
    exact k z (List.mem_of_mem_take hz)
  · have k : [Str.ofString "ends", Str.ofString "gones", Str.ofString "mights", Str.ofString "nos", Str.ofString "shows", Str.ofString "tox"].Pairwise fun a b => a.cps.toList < b.cps.toList := by decide +kernel
    exact k.sublist (List.take_sublist _ _)
theorem zed_in (z : Str) : inD (.str z) [.str (Str.ofString "by"), .str (Str.ofString "no"), .str (Str.ofString "to")] = [[98, 121], [110, 111], [116, 111]].contains (TL.tl z) := by
  have e : [D.str (Str.ofString "by"), .str (Str.ofString "no"), .str (Str.ofString "to")] = [Str.ofString "by", Str.ofString "no", Str.ofString "to"].map D.str := rfl
  rw [e, inD_dec, Bool.eq_iff_iff, decide_eq_true_eq, List.contains_iff_mem]
  have e2 : [[98, 121], [110, 111], [116, 111]] = [Str.ofString "by", Str.ofString "no", Str.ofString "to"].map TL.tl := rfl
  rw [e2]
  exact ⟨fun h => List.mem_map_of_mem h, fun h => by obtain ⟨w, hw, e⟩ := List.mem_map.mp h; rw [← TL.ext_tl e]; exact hw⟩

def sp__law_names : Sp2 := sp2 fun s n m Q => ∃ (p : Addr) (k : Nat), s = .ref p ∧ n = .int k ∧ StAt p m m ∧ 1 ≤ k ∧ k ≤ 6 ∧ ∀ (zs : List Str) m', zs.length = k → NmsOk zs → StAt p m m' → Q (.lst (zs.map .str)) m'

theorem fn__law_names {P : Program} {w : World} {K : PySem.W.Frag} {mg : Str → Option Value} {base : Heap} {f : Addr} {fd : FuncData} (F : FunZ K "_law_names" "_law_names" s__law_names f fd) (D__law_next : DefOk P w K mg base 1 "_law_next" sp__law_next) (mg_sorted : mg "sorted" = none) (mg_range : mg "range" = none) (mg_int : mg "int" = none) : FnOk P w K mg base CX0 2 f fd ["_law_state_here", "_law_size"] (lift K sp__law_names) := by
  refine fn2 (N := ["_law_state_here", "_law_size", "_law_letters", "_law_shift", "_law_long", "_law_place", "_law_base", "_law_signs", "_law_found", "_law_k", "_law_sign", "_law_name"]) F sc__law_names rfl fun cdv A outer s H E hr => ⟨_, (qs_cons (ifS (teqU hr (callU D__law_next hr (by rfl) (qa_cons (vU 0) (qa_cons q_int qa_nil))) q_int) (qs_one (qs_ret (slU (q_lst (qa_cons q_str (qa_cons q_str (qa_cons q_str (qa_cons q_str (qa_cons q_str (qa_cons q_str qa_nil))))))) qo_none (poU (vU 1))))) qs_nil)
    (qs_cons (qs_set (i := 2) sc__law_names.nd rfl (by first | exact Or.inl rfl | exact Or.inr rfl) q_str)
    (qs_cons (qs_set (i := 3) sc__law_names.nd rfl (by first | exact Or.inl rfl | exact Or.inr rfl) (callU D__law_next hr (by rfl) (qa_cons (vU 0) (qa_cons q_int qa_nil))))
    (qs_cons (ifS (teqU hr (callU D__law_next hr (by rfl) (qa_cons (vU 0) (qa_cons q_int qa_nil))) q_int) (qs_one (qs_ret (q_lc (own := [("_law_k", 9)]) rfl sc__law_names.nd (rngU (by rfl) mg_range (qa_cons (vU 1) qa_nil)) (blkOk_by (N := ["_law_state_here", "_law_size", "_law_letters", "_law_shift", "_law_long", "_law_place", "_law_base", "_law_signs", "_law_found", "_law_k", "_law_sign", "_law_name"]) (sc := defScope s__law_names) (by decide +kernel)) (fun _ _ _ _ _ => (qgc_name (i := 9) sc__law_names.nd rfl (by first | exact Or.inl rfl | exact Or.inr rfl) (by decide))) (fun _ _ _ _ _ => qts_nil) (fun _ _ _ _ _ => (mulU (ixU (vU 2) (vU 3) (fun _ _ => rfl)) (addU q_int (vU 9))))))) qs_nil)
    (qs_cons (qs_set (i := 4) sc__law_names.nd rfl (by first | exact Or.inl rfl | exact Or.inr rfl) (addU q_int (callU D__law_next hr (by rfl) (qa_cons (vU 0) (qa_cons q_int qa_nil)))))
    (qs_cons (qs_set (i := 5) sc__law_names.nd rfl (by first | exact Or.inl rfl | exact Or.inr rfl) (callU D__law_next hr (by rfl) (qa_cons (vU 0) (qa_cons (vU 4) qa_nil))))
    (qs_cons (qs_set (i := 6) sc__law_names.nd rfl (by first | exact Or.inl rfl | exact Or.inr rfl) (m_join1M q_str (q_lc (own := [("_law_k", 9)]) rfl sc__law_names.nd (rngU (by rfl) mg_range (qa_cons (vU 4) qa_nil)) (blkOk_by (N := ["_law_state_here", "_law_size", "_law_letters", "_law_shift", "_law_long", "_law_place", "_law_base", "_law_signs", "_law_found", "_law_k", "_law_sign", "_law_name"]) (sc := defScope s__law_names) (by decide +kernel)) (fun _ _ _ _ _ => (qgc_name (i := 9) sc__law_names.nd rfl (by first | exact Or.inl rfl | exact Or.inr rfl) (by decide))) (fun _ _ _ _ _ => qts_nil) (fun _ _ _ _ _ => (ixU (vU 2) (modU (addU (vU 3) (mulU q_int (vU 9))) q_int) (fun _ _ => rfl))))))
    (qs_cons (setLc (i := 7) (own := [("_law_k", 9)]) rfl sc__law_names.nd rfl rfl (sw_true rfl rfl rfl (by decide +kernel)) (rngU (by rfl) mg_range (qa_cons (vU 1) qa_nil)) (blkOk_by (N := ["_law_state_here", "_law_size", "_law_letters", "_law_shift", "_law_long", "_law_place", "_law_base", "_law_signs", "_law_found", "_law_k", "_law_sign", "_law_name"]) (sc := defScope s__law_names) (by decide +kernel)) (fun _ _ _ _ _ => (qgc_name (i := 9) sc__law_names.nd rfl (by first | exact Or.inl rfl | exact Or.inr rfl) (by decide))) (fun _ _ _ _ _ => qts_nil) (fun _ _ _ _ _ => (ixU (vU 2) (modU (addU (addU (vU 3) q_int) (mulU q_int (vU 9))) q_int) (fun _ _ => rfl))))
    (qs_cons (setLc (i := 8) (own := [("_law_sign", 10)]) rfl sc__law_names.nd rfl rfl (sw_true rfl rfl rfl (by decide +kernel)) (seqU (vU 7)) (blkOk_by (N := ["_law_state_here", "_law_size", "_law_letters", "_law_shift", "_law_long", "_law_place", "_law_base", "_law_signs", "_law_found", "_law_k", "_law_sign", "_law_name"]) (sc := defScope s__law_names) (by decide +kernel)) (fun _ _ _ _ _ => (qgc_name (i := 10) sc__law_names.nd rfl (by first | exact Or.inl rfl | exact Or.inr rfl) (by decide))) (fun _ _ _ _ _ => qts_nil) (fun _ _ _ _ _ => (addU (addU (slU (vU 6) qo_none (poU (vU 5))) (vU 10)) (slU (vU 6) (poU (addU (vU 5) q_int)) qo_none))))
    (qs_one (qs_ret (sortedU (by rfl) mg_sorted (qa_cons (q_lc (own := [("_law_name", 11)]) rfl sc__law_names.nd (seqU (vU 8)) (blkOk_by (N := ["_law_state_here", "_law_size", "_law_letters", "_law_shift", "_law_long", "_law_place", "_law_base", "_law_signs", "_law_found", "_law_k", "_law_sign", "_law_name"]) (sc := defScope s__law_names) (by decide +kernel)) (fun _ _ _ _ _ => (qgc_name (i := 11) sc__law_names.nd rfl (by first | exact Or.inl rfl | exact Or.inr rfl) (by decide))) (fun _ _ _ _ _ => qts_nil) (fun _ _ _ _ _ => (addU (vU 11) (mulU q_str (intU (by rfl) mg_int (qa_cons (inU (vU 11) (q_lst (qa_cons q_str (qa_cons q_str (qa_cons q_str qa_nil)))) (by with_unfolding_all rfl)) qa_nil)))))) qa_nil))))))))))))), ?_⟩
  rintro _ _ m Q ⟨p, k, rfl, rfl, hs, hk1, hk, q⟩
  refine ⟨p, 7, rfl, rfl, hs, by decide, by decide, fun w m1 hw1 hw2 hs1 => ?_⟩
  refine eqI ?_
  refine br2 (fun h => ?_) (fun h => ?_)
  · refine sl_l rfl ?_
    rw [cut_hi]
    have e : [D.str (Str.ofString "ends"), .str (Str.ofString "gones"), .str (Str.ofString "mights"), .str (Str.ofString "nos"), .str (Str.ofString "shows"), .str (Str.ofString "tox")] = [Str.ofString "ends", Str.ofString "gones", Str.ofString "mights", Str.ofString "nos", Str.ofString "shows", Str.ofString "tox"].map D.str := rfl
    rw [e, ← List.map_take]
    exact q _ m1 (by rw [List.length_take]; show min k 6 = k; omega) (fixed_nms k) hs1
  · refine ⟨p, 26, rfl, rfl, hs1.self, by decide, by decide, fun sh m2 hsh1 hsh2 hs2 => ?_⟩
    obtain ⟨sh, rfl⟩ := Int.eq_ofNat_of_zero_le hsh1
    have hsh : sh < 26 := by omega
    have hs2 := hs1.trans hs2
    refine ⟨p, 4, rfl, rfl, hs2.self, by decide, by decide, fun u m3 hu1 hu2 hs3 => ?_⟩
    have hs3 := hs2.trans hs3
    refine eqI ?_
    refine br2 (fun h => ?_) (fun h => ?_)
    · refine ⟨⟨by omega, by omega⟩, ?_⟩
      refine lc_mapA (List.range (k : Int).toNat) (fun (i : Nat) => D.int (0 + (i : Int))) rfl (fun i => [some (.ref p), some (.int k), some (.str letZ), some (.int sh), none, none, none, none, none, some (.int (0 + (i : Int))), none, none]) (fun i => .str (repS (chrS sh) (1 + (0 + (i : Int))))) (by rw [List.length_range]; exact Nat.le_trans (by omega) (szN 100)) (fun _ _ => trivial) (fun a _ mm _ k hk => hk) (fun a ha mm _ kk hk => ?_) ?_
      · rw [List.mem_range] at ha
        refine ix_s (z := letZ) rfl letZ_len (by rw [show ((sh : Nat) : Int) = (sh : Int) % 26 by omega]; exact chr_at sh) ?_
        refine mulS (by omega) (by omega) (by show 1 ≤ 100; decide) ?_
        exact hk
      · have e : (List.range (k : Int).toNat).map (fun (i : Nat) => D.str (repS (chrS sh) (1 + (0 + (i : Int))))) = ((List.range (k : Int).toNat).map fun (i : Nat) => repS (chrS sh) (1 + (0 + (i : Int)))).map D.str := by rw [List.map_map]; rfl
        rw [e]
        refine q _ m3 (by rw [List.length_map, List.length_range]; omega) ⟨fun z hz => ?_, List.pairwise_map.mpr (List.pairwise_lt_range.imp fun {a b} hab => repS_lt rfl hab)⟩ hs3
        obtain ⟨i, hi, rfl⟩ := List.mem_map.mp hz
        rw [List.mem_range] at hi
        refine good_nm ?_
        rw [repS_tl, chr_tl, show (1 + (0 + (i : Int))).toNat = 1 + i by omega, show sh % 26 = sh by omega]
        have e : ∀ (n c : Nat), (List.replicate n [c]).flatten = List.replicate n c := fun n c => by
          induction n with
          | zero => rfl
          | succ n ih => rw [List.replicate_succ, List.flatten_cons, ih]; rfl
        rw [e]
        exact rep_good sh hsh i (by omega)
    · refine ⟨p, 6, rfl, rfl, hs3.self, by decide, by decide, fun x m4 hx1 hx2 hs4 => ?_⟩
      have hs4 := hs3.trans hs4
      refine ⟨p, 1 + x, rfl, rfl, hs4.self, by omega, lg9 (k := 64) (by omega), fun pl m5 hp1 hp2 hs5 => ?_⟩
      have hs5 := hs4.trans hs5
      obtain ⟨pl, rfl⟩ := Int.eq_ofNat_of_zero_le hp1
      obtain ⟨bs, hbs⟩ : ∃ bs : List Str, bs = (List.range (1 + x).toNat).map fun (i : Nat) => chrS (sh + 3 * i) := ⟨_, rfl⟩
      have hb1 : ∀ y ∈ bs, y.length = 1 := by
        intro y hy
        rw [hbs] at hy
        obtain ⟨i, _, rfl⟩ := List.mem_map.mp hy
        rfl
      have hbl : bs.length ≤ 6 := by rw [hbs, List.length_map, List.length_range]; omega
      refine ⟨⟨by omega, by omega⟩, ?_⟩
      refine lc_mapA (List.range (1 + x).toNat) (fun (i : Nat) => D.int (0 + (i : Int))) rfl (fun i => [some (.ref p), some (.int k), some (.str letZ), some (.int sh), some (.int (1 + x)), some (.int pl), none, none, none, some (.int (0 + (i : Int))), none, none]) (fun i => .str (chrS (sh + 3 * i))) (by rw [List.length_range]; exact Nat.le_trans (by omega) (szN 100)) (fun _ _ => trivial) (fun a _ mm _ k hk => hk) (fun a ha mm _ kk hk => ?_) ?_
      · refine mulI (cokL (by decide)) ?_
        refine modI (by decide) ?_
        refine ix_s (z := letZ) rfl letZ_len (by rw [show ((sh : Int) + 3 * (0 + (a : Int))) = ((sh + 3 * a : Nat) : Int) by omega]; exact chr_at _) ?_
        exact hk
      · refine joinK_of bs (by rw [hbs, List.map_map]; rfl) (by rw [sum_ones fun y hy => hb1 y hy]; show bs.length + bs.length * 0 ≤ _; omega) ?_
        have hbase : TL.tl (Txt.join (Str.ofString "") bs) = bas26 sh (1 + x).toNat := by
          rw [tl_joinE, hbs, List.map_map]
          unfold bas26
          have e : ∀ l : List Nat, (l.map (TL.tl ∘ fun i => chrS (sh + 3 * i))).flatten = l.map fun i => 97 + (sh + 3 * i) % 26 := fun l => by
            induction l with
            | nil => rfl
            | cons i l ih => rw [List.map_cons, List.flatten_cons, ih, List.map_cons]; show TL.tl (chrS (sh + 3 * i)) ++ _ = _; rw [chr_tl]; rfl
          exact e _
        generalize Txt.join (Str.ofString "") bs = base at *
        have hbasel : base.length = (1 + x).toNat := by
          rw [TL.len_tl base, hbase]
          unfold bas26
          rw [List.length_map, List.length_range]
        have hb6 : base.length ≤ 6 := by omega
        refine ⟨⟨by omega, by omega⟩, ?_⟩
        refine lc_mapA (List.range (k : Int).toNat) (fun (i : Nat) => D.int (0 + (i : Int))) rfl (fun i => [some (.ref p), some (.int k), some (.str letZ), some (.int sh), some (.int (1 + x)), some (.int pl), some (.str base), none, none, some (.int (0 + (i : Int))), none, none]) (fun i => .str (chrS (sh + 5 + 3 * i))) (by rw [List.length_range]; exact Nat.le_trans (by omega) (szN 100)) (fun _ _ => trivial) (fun a _ mm _ k hk => hk) (fun a ha mm _ kk hk => ?_) ?_
        · refine mulI (cokL (by decide)) ?_
          refine modI (by decide) ?_
          refine ix_s (z := letZ) rfl letZ_len (by rw [show ((sh : Int) + 5 + 3 * (0 + (a : Int))) = ((sh + 5 + 3 * a : Nat) : Int) by omega]; exact chr_at _) ?_
          exact hk
        · obtain ⟨sg, hsg⟩ : ∃ sg : List Str, sg = (List.range k).map fun (i : Nat) => chrS (sh + 5 + 3 * i) := ⟨_, rfl⟩
          have hsl : sg.length = k := by rw [hsg, List.length_map, List.length_range]
          have esg : (List.range (k : Int).toNat).map (fun (i : Nat) => D.str (chrS (sh + 5 + 3 * i))) = sg.map D.str := by rw [hsg, List.map_map]; rfl
          rw [esg]
          have ec1 : TL.tl (cutS base none (some (pl : Int))) = (bas26 sh (1 + x).toNat).take pl := by rw [tl_cutHi, hbase]
          have ec2 : TL.tl (cutS base (some ((pl : Int) + 1)) none) = (bas26 sh (1 + x).toNat).drop (pl + 1) := by rw [show (pl : Int) + 1 = ((pl + 1 : Nat) : Int) from rfl, tl_cut, hbase]
          have hb26 : (bas26 sh (1 + x).toNat).length ≤ 6 := by rw [← hbase, ← TL.len_tl]; exact hb6
          have hc1 : (cutS base none (some (pl : Int))).length ≤ 6 := by rw [TL.len_tl, ec1, List.length_take]; omega
          have hc2 : (cutS base (some ((pl : Int) + 1)) none).length ≤ 6 := by rw [TL.len_tl, ec2, List.length_drop]; omega
          refine seqK_lst (ds := sg.map D.str) rfl ?_
          refine lc_mapA sg D.str rfl (fun z => [some (.ref p), some (.int k), some (.str letZ), some (.int sh), some (.int (1 + x)), some (.int pl), some (.str base), some (.lst (sg.map D.str)), none, none, some (.str z), none]) (fun z => .str (cutS base none (some (pl : Int)) ++ z ++ cutS base (some ((pl : Int) + 1)) none)) (Nat.le_trans (by omega) (szN 6)) (fun _ _ => rfl) (fun a _ mm _ k hk => hk) (fun z hz mm _ kk hk => ?_) ?_
          · have hz1 : z.length = 1 := by rw [hsg] at hz; obtain ⟨i, _, rfl⟩ := List.mem_map.mp hz; rfl
            refine sl_s rfl (Nat.le_trans hb6 (szN 6)) ?_
            refine ⟨Nat.le_trans (by omega : _ ≤ 100) (szN 100), ?_⟩
            refine sl_s rfl (Nat.le_trans hb6 (szN 6)) ?_
            refine ⟨Nat.le_trans (by rw [str_len_append]; omega : _ ≤ 100) (szN 100), ?_⟩
            exact hk
          · obtain ⟨fd, hfd⟩ : ∃ fd : List Str, fd = sg.map fun z => cutS base none (some (pl : Int)) ++ z ++ cutS base (some ((pl : Int) + 1)) none := ⟨_, rfl⟩
            have hf1 : ∀ y ∈ fd, ∃ j < 6, TL.tl y = odd26 sh (1 + x).toNat pl j := by
              intro y hy
              rw [hfd] at hy
              obtain ⟨z, hz, rfl⟩ := List.mem_map.mp hy
              rw [hsg] at hz
              obtain ⟨i, hi, rfl⟩ := List.mem_map.mp hz
              rw [List.mem_range] at hi
              refine ⟨i, by omega, ?_⟩
              rw [TL.tl_append, TL.tl_append, ec1, ec2, chr_tl]
              rfl
            have hf3 : ∀ (a : Nat) (y : Str), fd[a]? = some y → a < 6 ∧ TL.tl y = odd26 sh (1 + x).toNat pl a := fun a y hy => by
              rw [hfd, hsg, List.map_map, List.getElem?_map] at hy
              cases hr : (List.range k)[a]? with
              | none => rw [hr] at hy; cases hy
              | some i =>
                rw [hr] at hy
                have hy := Option.some.inj hy
                obtain ⟨hal, ei⟩ := List.getElem?_eq_some_iff.mp hr
                rw [List.getElem_range] at ei
                rw [List.length_range] at hal
                subst ei
                refine ⟨by omega, ?_⟩
                rw [← hy]
                show TL.tl (cutS base none (some (pl : Int)) ++ chrS (sh + 5 + 3 * a) ++ cutS base (some ((pl : Int) + 1)) none) = _
                rw [TL.tl_append, TL.tl_append, ec1, ec2, chr_tl]
                rfl
            have hf2 : ∀ y ∈ fd, y.length ≤ 13 := fun y hy => by
              rw [hfd] at hy
              obtain ⟨z, hz, rfl⟩ := List.mem_map.mp hy
              have hz1 : z.length = 1 := by rw [hsg] at hz; obtain ⟨i, _, rfl⟩ := List.mem_map.mp hz; rfl
              rw [str_len_append, str_len_append]
              omega
            have efd : sg.map (fun z => D.str (cutS base none (some (pl : Int)) ++ z ++ cutS base (some ((pl : Int) + 1)) none)) = fd.map D.str := by rw [hfd, List.map_map]; rfl
            rw [efd]
            have hfl : fd.length = k := by rw [hfd, List.length_map]; exact hsl
            refine seqK_lst (ds := fd.map D.str) rfl ?_
            refine lc_mapA fd D.str rfl (fun z => [some (.ref p), some (.int k), some (.str letZ), some (.int sh), some (.int (1 + x)), some (.int pl), some (.str base), some (.lst (sg.map D.str)), some (.lst (fd.map D.str)), none, none, some (.str z)]) (fun z => .str (z ++ repS (Str.ofString "z") (if inD (.str z) [.str (Str.ofString "by"), .str (Str.ofString "no"), .str (Str.ofString "to")] = true then 1 else 0))) (Nat.le_trans (by omega) (szN 6)) (fun _ _ => rfl) (fun a _ mm _ k hk => hk) (fun z hz mm _ kk hk => ?_) ?_
            · have hz1 := hf2 z hz
              refine in_lv (ds := [.str (Str.ofString "by"), .str (Str.ofString "no"), .str (Str.ofString "to")]) rfl rfl rfl ?_
              refine mulS (by split <;> decide) (by split <;> decide) (by decide) ?_
              have hr2 : (repS (Str.ofString "z") (if inD (.str z) [.str (Str.ofString "by"), .str (Str.ofString "no"), .str (Str.ofString "to")] = true then 1 else 0)).length ≤ 1 := by split <;> decide
              refine ⟨Nat.le_trans (Nat.add_le_add hz1 hr2) (szN 14), ?_⟩
              exact hk
            · have ee : fd.map (fun z => D.str (z ++ repS (Str.ofString "z") (if inD (.str z) [.str (Str.ofString "by"), .str (Str.ofString "no"), .str (Str.ofString "to")] = true then 1 else 0))) = (fd.map fun z => z ++ repS (Str.ofString "z") (if inD (.str z) [.str (Str.ofString "by"), .str (Str.ofString "no"), .str (Str.ofString "to")] = true then 1 else 0)).map D.str := by rw [List.map_map]; rfl
              have ezed : ∀ z : Str, TL.tl (z ++ repS (Str.ofString "z") (if inD (.str z) [.str (Str.ofString "by"), .str (Str.ofString "no"), .str (Str.ofString "to")] = true then 1 else 0)) = zed26 (TL.tl z) := fun z => by
                rw [TL.tl_append, zed_in]
                unfold zed26
                cases [[98, 121], [110, 111], [116, 111]].contains (TL.tl z) with
                | true => rfl
                | false => show TL.tl z ++ [] = TL.tl z; rw [List.append_nil]
              refine sortK_s _ (congrArg some ee) (by rw [List.length_map]; omega) fun ys hperm hsort => ?_
              have hnd : (fd.map fun z => z ++ repS (Str.ofString "z") (if inD (.str z) [.str (Str.ofString "by"), .str (Str.ofString "no"), .str (Str.ofString "to")] = true then 1 else 0)).Nodup := by
                refine List.pairwise_map.mpr (List.pairwise_iff_getElem.mpr fun a b ha hb hab e => ?_)
                obtain ⟨a1, a2⟩ := hf3 a _ (List.getElem?_eq_getElem ha)
                obtain ⟨b1, b2⟩ := hf3 b _ (List.getElem?_eq_getElem hb)
                have e := congrArg TL.tl e
                rw [ezed, ezed, a2, b2] at e
                have := odd_inj sh hsh (1 + x).toNat (by omega) pl (by omega) a a1 b b1 e
                omega
              refine q ys m5 (by rw [hperm.length_eq, List.length_map]; exact hfl) ⟨fun y hy => ?_, sortedS_lt hsort (hperm.nodup_iff.mpr hnd)⟩ hs5
              obtain ⟨z, hz, rfl⟩ := List.mem_map.mp (hperm.mem_iff.mp hy)
              obtain ⟨j, hj, ej⟩ := hf1 z hz
              refine good_nm ?_
              have hg := odd_good sh hsh (1 + x).toNat (by omega) pl (by omega) j hj
              rw [← ej] at hg
              rw [ezed]
              exact hg

abbrev s__law_made : Stmt := topS 31

theorem sc__law_made : FnScope ["_law_over", "_law_under", "_law_one", "_law_other"] ["_law_over", "_law_under"] (defScope s__law_made) := ⟨rfl, rfl, rfl, by decide +kernel, rfl, by decide +kernel, by decide +kernel⟩

def sp__law_made : Sp2 := sp2 fun x y m Q => ∃ a b : Int, x = .int a ∧ y = .int b ∧ b ≠ 0 ∧ b.natAbs.log2 < 9000 ∧ Q (if b < 0 then low (-a) (-b) else low a b) m

theorem fn__law_made {P : Program} {w : World} {K : PySem.W.Frag} {mg : Str → Option Value} {base : Heap} {f : Addr} {fd : FuncData} (F : FunZ K "_law_made" "_law_made" s__law_made f fd) (mg_abs : mg "abs" = none) : FnOk P w K mg base CX0 1 f fd ["_law_over", "_law_under"] (lift K sp__law_made) := by
  refine fn2 (N := ["_law_over", "_law_under", "_law_one", "_law_other"]) F sc__law_made rfl fun cdv A outer s H E hr => ⟨_, (qs_cons (ifS (tltU (vU 1) q_int) (qs_one (qs_par (i := 0) (j := 1) rfl sc__law_made.nd rfl rfl (by decide) rfl rfl (qa_cons (negU (vU 0)) (qa_cons (negU (vU 1)) qa_nil)) (by rfl))) qs_nil)
    (qs_cons (qs_par (i := 2) (j := 3) rfl sc__law_made.nd rfl rfl (by decide) rfl rfl (qa_cons (absU (by rfl) mg_abs (qa_cons (vU 0) qa_nil)) (qa_cons (vU 1) qa_nil)) (by rfl))
    (qs_cons (whileS PassesOwn.never (tgtU (vU 3) q_int) (qs_one (qs_par (i := 2) (j := 3) rfl sc__law_made.nd rfl rfl (by decide) rfl rfl (qa_cons (vU 3) (qa_cons (modU (vU 2) (vU 3)) qa_nil)) (by rfl))))
    (qs_one (qs_ret (q_tup (qa_cons (divU (vU 0) (vU 2)) (qa_cons (divU (vU 1) (vU 2)) qa_nil)))))))), ?_⟩
  rintro _ _ m Q ⟨a, b, rfl, rfl, hb, hl, q⟩
  refine br2 (fun h => ?_) (fun h => ?_)
  case' refine_1 =>
    have h := of_decide_eq_true h
    rw [if_pos h] at q
    obtain ⟨A, B, hA, hB⟩ : ∃ A B : Int, A = -a ∧ B = -b := ⟨_, _, rfl, rfl⟩
    refine ⟨.int A, .int B, by subst hA hB; rfl, ?_⟩
    rw [← hA, ← hB] at q
    have hb0 : 0 < B := by omega
    have hl : B.natAbs.log2 < 9000 := by rw [hB, Int.natAbs_neg]; exact hl
    refine ⟨.int (if A < 0 then -A else A), .int B, by subst hA hB; rfl, ?_⟩
  case' refine_2 =>
    have h := of_decide_eq_false h
    rw [if_neg h] at q
    obtain ⟨A, B, hA, hB⟩ : ∃ A B : Int, A = a ∧ B = b := ⟨_, _, rfl, rfl⟩
    subst hA hB
    have hb0 : 0 < B := by omega
    refine ⟨.int (if A < 0 then -A else A), .int B, rfl, ?_⟩
  all_goals
    refine ⟨fun n g m' => ∃ i j : Int, n = j.toNat ∧ g = [some (.int A), some (.int B), some (.int i), some (.int j)] ∧ m' = m ∧ 0 ≤ i ∧ 0 ≤ j ∧ Int.gcd i j = Int.gcd A B, ⟨_, _, B, rfl, by first | rfl | (subst hA hB; rfl), rfl, by split <;> omega, by omega, gcd_abs⟩, ?_⟩
    rintro n g m' ⟨i, j, rfl, rfl, rfl, hi, hj, e⟩
    refine br2 (fun hc => ?_) (fun hc => ?_)
    · have hc := of_decide_eq_true hc
      have h1 := Int.emod_lt_of_pos i hc
      have h2 := Int.emod_nonneg i (by omega : j ≠ 0)
      refine modI hc ?_
      exact ⟨_, _, rfl, _, by omega, j, i % j, rfl, rfl, rfl, by omega, h2, (gcd_step hi hc).trans e⟩
    · have hc := of_decide_eq_false hc
      have e0 : j = 0 := by omega
      subst e0
      rw [Int.gcd_zero_right] at e
      have ei : ((Int.gcd A B : Nat) : Int) = i := by omega
      have h0 := gcd_pos_r (a := A) hb0
      have h1 := lg_mono (gcd_le_r (a := A) hb0) hl
      have hg : i.natAbs.log2 < 9000 := by rw [e]; exact h1
      have hi0 : 0 < i := by omega
      refine divI hi0 hg ?_
      refine divI hi0 hg ?_
      unfold low at q
      rw [ei] at q
      exact q

abbrev s__law_drawn : Stmt := topS 32

theorem sc__law_drawn : FnScope ["_law_state_here", "_law_most", "_law_digit", "_law_over"] ["_law_state_here", "_law_most"] (defScope s__law_drawn) := ⟨rfl, rfl, rfl, by decide +kernel, rfl, by decide +kernel, by decide +kernel⟩

/-- a number as it is drawn -/
def Nr (v : Fr) : Prop := Lo v ∧ v.1.natAbs < 10 ^ 40 ∧ v.2.natAbs < 10 ^ 40

def sp__law_drawn : Sp2 := sp2 fun s n m Q => ∃ (p : Addr) (k : Int), s = .ref p ∧ n = .int k ∧ StAt p m m ∧ 0 < k ∧ k < 10 ^ 32 ∧ ∀ (v : Fr) m', Nr v → StAt p m m' → Q (nD v) m'

theorem fn__law_drawn {P : Program} {w : World} {K : PySem.W.Frag} {mg : Str → Option Value} {base : Heap} {f : Addr} {fd : FuncData} (F : FunZ K "_law_drawn" "_law_drawn" s__law_drawn f fd) (D__law_next : DefOk P w K mg base 1 "_law_next" sp__law_next) (D__law_made : DefOk P w K mg base 1 "_law_made" sp__law_made) : FnOk P w K mg base CX0 2 f fd ["_law_state_here", "_law_most"] (lift K sp__law_drawn) := by
  refine fn2 (N := ["_law_state_here", "_law_most", "_law_digit", "_law_over"]) F sc__law_drawn rfl fun cdv A outer s H E hr => ⟨_, (qs_cons (qs_set (i := 2) sc__law_drawn.nd rfl (by first | exact Or.inl rfl | exact Or.inr rfl) (callU D__law_next hr (by rfl) (qa_cons (vU 0) (qa_cons (addU (mulU q_int (vU 1)) q_int) qa_nil))))
    (qs_cons (qs_set (i := 3) sc__law_drawn.nd rfl (by first | exact Or.inl rfl | exact Or.inr rfl) (mulU (divU (addU (vU 2) q_int) q_int) (ixU (q_lst (qa_cons (negU q_int) (qa_cons q_int qa_nil))) (modU (vU 2) q_int) (fun _ _ => rfl))))
    (qs_one (qs_ret (callU D__law_made hr (by rfl) (qa_cons (vU 3) (qa_cons (ixU (q_lst (qa_cons q_int (qa_cons q_int (qa_cons q_int (qa_cons q_int (qa_cons q_int (qa_cons q_int qa_nil))))))) (callU D__law_next hr (by rfl) (qa_cons (vU 0) (qa_cons q_int qa_nil))) (fun _ _ => rfl)) qa_nil))))))), ?_⟩
  rintro _ _ m Q ⟨p, k, rfl, rfl, hs, h0, hk, q⟩
  refine mulI (cokL (by decide)) ?_
  refine ⟨p, _, rfl, rfl, hs, by omega, lg9 (k := 200) (by omega), fun x m1 hx1 hx2 hs1 => ?_⟩
  refine divI (by decide) (by decide) ?_
  refine modI (by decide) ?_
  obtain ⟨j, hj, hj2⟩ : ∃ j : Int, atI [D.int (-1), .int 1] (x % 2) = some (.int j) ∧ (j = 1 ∨ j = -1) := by
    have : x % 2 = 0 ∨ x % 2 = 1 := by omega
    rcases this with h | h <;> rw [h] <;> exact ⟨_, rfl, by decide⟩
  refine ix_l rfl hj ?_
  refine mulI (cokR (by rcases hj2 with rfl | rfl <;> decide)) ?_
  refine ⟨p, 6, rfl, rfl, hs1.self, by decide, by decide, fun w m2 hw1 hw2 hs2 => ?_⟩
  obtain ⟨u, hu, hu2⟩ : ∃ u : Int, atI [D.int 1, .int 1, .int 2, .int 1, .int 3, .int 4] w = some (.int u) ∧ 0 < u ∧ u < 5 := by
    have : w = 0 ∨ w = 1 ∨ w = 2 ∨ w = 3 ∨ w = 4 ∨ w = 5 := by omega
    rcases this with rfl | rfl | rfl | rfl | rfl | rfl <;> exact ⟨_, rfl, by decide⟩
  refine ix_l rfl hu ?_
  refine ⟨_, u, rfl, rfl, by omega, lg9 (k := 64) (by omega), ?_⟩
  rw [if_neg (by omega), low_nD]
  have h1 := lowP_lo (a := (x + 1) / 2 * j) (b := u) hu2.1
  have ha : ((x + 1) / 2 * j).natAbs < 10 ^ 33 := by rcases hj2 with rfl | rfl <;> omega
  have h2 : (lowP ((x + 1) / 2 * j) u).1.natAbs < 10 ^ 33 := Nat.lt_of_le_of_lt (Int.natAbs_ediv_le_natAbs _ _) ha
  have h3 : (lowP ((x + 1) / 2 * j) u).2.natAbs < 5 := Nat.lt_of_le_of_lt (Int.natAbs_ediv_le_natAbs _ _) (by omega)
  exact q _ m2 ⟨h1, Nat.lt_trans h2 (by decide), Nat.lt_trans h3 (by decide)⟩ (hs1.trans hs2)

abbrev s__law_form : Stmt := topS 33

theorem sc__law_form : FnScope ["_law_state_here", "_law_names_here", "_law_most", "_law_parts", "_law_name", "_law_amount"] ["_law_state_here", "_law_names_here", "_law_most"] (defScope s__law_form) := ⟨rfl, rfl, rfl, by decide +kernel, rfl, by decide +kernel, by decide +kernel⟩

abbrev Pf := Str × Fr
def pf13 (x : Pf) : D := .tup [.str x.1, nD x.2]
def fm13 (ps : List Pf) (c : Fr) : D := .tup [.tup (ps.map pf13), nD c]
structure Fm13 (zs : List Str) (ps : List Pf) (c : Fr) : Prop where
  c : Nr c
  nr : ∀ x ∈ ps, Nr x.2 ∧ x.2.1 ≠ 0
  sub : (ps.map (·.1)).Sublist zs

def sp__law_form : Sp2 := sp3 fun s n k m Q => ∃ (p : Addr) (zs : List Str) (mo : Int), s = .ref p ∧ n = .lst (zs.map .str) ∧ k = .int mo ∧ StAt p m m ∧ 0 < mo ∧ mo < 10 ^ 31 ∧ zs.length ≤ 6 ∧ ∀ (ps : List Pf) (c : Fr) m', Fm13 zs ps c → StAt p m m' → Q (fm13 ps c) m'

theorem fn__law_form {P : Program} {w : World} {K : PySem.W.Frag} {mg : Str → Option Value} {base : Heap} {f : Addr} {fd : FuncData} (F : FunZ K "_law_form" "_law_form" s__law_form f fd) (D__law_drawn : DefOk P w K mg base 2 "_law_drawn" sp__law_drawn) (D__law_next : DefOk P w K mg base 1 "_law_next" sp__law_next) (mg_tuple : mg "tuple" = none) : FnOk P w K mg base CX0 3 f fd ["_law_state_here", "_law_names_here", "_law_most"] (lift K sp__law_form) := by
  refine fn3 (N := ["_law_state_here", "_law_names_here", "_law_most", "_law_parts", "_law_name", "_law_amount"]) F sc__law_form rfl fun cdv A outer s H E hr => ⟨_, (qs_cons (qs_set (i := 3) sc__law_form.nd rfl (by first | exact Or.inl rfl | exact Or.inr rfl) (q_lstM qa_nil))
    (qs_cons (qs_for PassesOwn.never rfl (seqU (vU 1)) (qg_name (i := 4) sc__law_form.nd rfl (by first | exact Or.inl rfl | exact Or.inr rfl)) (qs_cons (qs_set (i := 5) sc__law_form.nd rfl (by first | exact Or.inl rfl | exact Or.inr rfl) (callU D__law_drawn hr (by rfl) (qa_cons (vU 0) (qa_cons (vU 2) qa_nil))))
    (qs_one (ifS (PW2.pt (andW (tneU hr (ixU (vU 5) q_int (fun _ _ => rfl)) q_int) (qw_and1 (tgtU (callU D__law_next hr (by rfl) (qa_cons (vU 0) (qa_cons q_int qa_nil))) q_int)))) (qs_one (qs_expr (q_append (vU 3) (q_tup (qa_cons (vU 4) (qa_cons (vU 5) qa_nil)))))) qs_nil))))
    (qs_one (qs_ret (q_drop (q_tup (qa_cons (tupleU (by rfl) mg_tuple (qa_cons (vU 3) qa_nil)) (qa_cons (callU D__law_drawn hr (by rfl) (qa_cons (vU 0) (qa_cons (mulU q_int (vU 2)) qa_nil))) qa_nil)))))))), ?_⟩
  rintro _ _ _ m Q ⟨p, zs, mo, rfl, rfl, rfl, hs, h0, hmo, hl, q⟩
  intro l hl0
  obtain ⟨hs0, hne⟩ := hs.start (c := .lst []) hl0
  refine seqK_lst (ds := zs.map .str) rfl ?_
  refine ⟨fun i g m' => ∃ (ps : List Pf) (a b : Option D), g = [some (.ref p), some (.lst (zs.map .str)), some (.int mo), some (.ref l), a, b] ∧ (∀ x ∈ ps, Nr x.2 ∧ x.2.1 ≠ 0) ∧ (ps.map (·.1)).Sublist (zs.take i) ∧ StAt p (upM m l (.lst (ps.map pf13))) m', ⟨[], none, none, rfl, fun _ h => (by cases h), by rw [List.take_zero]; exact List.Sublist.refl _, hs0⟩, ?_⟩
  rintro i g m' ⟨ps, a, b, rfl, hp, hsub, hst⟩
  refine ⟨rfl, fun x hx => ?_, fun he => ?_⟩
  · rw [List.getElem?_map] at hx
    cases hzi : zs[i]? with
    | none => rw [hzi] at hx; cases hx
    | some z =>
      rw [hzi] at hx
      cases hx
      have hi6 : i < zs.length := (List.getElem?_eq_some_iff.mp hzi).1
      have htk : zs.take (i + 1) = zs.take i ++ [z] := by rw [List.take_add_one, hzi]; rfl
      have hsub1 : (ps.map (·.1)).Sublist (zs.take (i + 1)) := by rw [htk]; exact hsub.trans (List.sublist_append_left _ _)
      have hpl := hsub.length_le
      rw [List.length_map, List.length_take] at hpl
      refine ⟨p, mo, rfl, rfl, hst.self, h0, Int.lt_trans hmo (by decide), fun v m1 hv hs1 => ?_⟩
      have hst1 := hst.trans hs1
      refine ix_t rfl (d := .int v.1) rfl ?_
      refine neI ?_
      refine br2 (fun h => ?_) (fun h => ?_)
      · have hv0 : v.1 ≠ 0 := by simpa using h
        refine ⟨p, 3, rfl, rfl, hst1.self, by decide, by decide, fun w m2 hw1 hw2 hs2 => ?_⟩
        have hst2 := hst1.trans hs2
        refine br2 (fun h => ?_) (fun h => ?_)
        · refine ⟨⟨_, congrArg lsD (res_at (hst2.own hne))⟩, ?_⟩
          refine ⟨l, _, _, rfl, rfl, hst2.own hne, by rw [List.length_map]; exact Nat.lt_of_le_of_lt (by omega) (szN 101), ?_⟩
          refine ⟨ps ++ [(z, v)], _, _, rfl, fun x hx => ?_, ?_, ?_⟩
          · rcases List.mem_append.mp hx with hx | hx
            · exact hp x hx
            · rw [List.mem_singleton.mp hx]; exact ⟨hv, hv0⟩
          · rw [htk, List.map_append]
            exact hsub.append (List.Sublist.refl _)
          · rw [List.map_append]
            exact hst2.grow hne
        · exact ⟨ps, _, _, rfl, hp, hsub1, hst2⟩
      · exact brf ⟨ps, _, _, rfl, hp, hsub1, hst1⟩
  · rw [List.length_map] at he
    rw [List.take_of_length_le (by omega)] at hsub
    refine kTup_of (ds := ps.map pf13) (by rw [res_at (hst.own hne)]; rfl) ?_
    refine mulI (cokL (by decide)) ?_
    refine ⟨p, 3 * mo, rfl, rfl, hst.self, by omega, by omega, fun c m1 hc hs1 => ?_⟩
    obtain ⟨m2, hsub2, hs2⟩ := (hst.trans hs1).drop hl0
    exact ⟨m2, hsub2, q ps c m2 ⟨hc, hp, hsub⟩ hs2⟩

abbrev s__law_line : Stmt := topS 34

theorem sc__law_line : FnScope ["_law_state_here", "_law_names_here", "_law_most", "_law_form_here"] ["_law_state_here", "_law_names_here", "_law_most"] (defScope s__law_line) := ⟨rfl, rfl, rfl, by decide +kernel, rfl, by decide +kernel, by decide +kernel⟩

def ln13 (ps : List Pf) (c : Fr) (e : Bool) : D := .tup [fm13 ps c, .str (if e then "=" else "<=")]

def sp__law_line : Sp2 := sp3 fun s n k m Q => ∃ (p : Addr) (zs : List Str) (mo : Int), s = .ref p ∧ n = .lst (zs.map .str) ∧ k = .int mo ∧ StAt p m m ∧ 0 < mo ∧ mo < 10 ^ 31 ∧ zs.length ≤ 6 ∧ ∀ (ps : List Pf) (c : Fr) (e : Bool) m', Fm13 zs ps c → StAt p m m' → Q (ln13 ps c e) m'

theorem fn__law_line {P : Program} {w : World} {K : PySem.W.Frag} {mg : Str → Option Value} {base : Heap} {f : Addr} {fd : FuncData} (F : FunZ K "_law_line" "_law_line" s__law_line f fd) (D__law_form : DefOk P w K mg base 3 "_law_form" sp__law_form) (D__law_next : DefOk P w K mg base 1 "_law_next" sp__law_next) : FnOk P w K mg base CX0 4 f fd ["_law_state_here", "_law_names_here", "_law_most"] (lift K sp__law_line) := by
  refine fn3 (N := ["_law_state_here", "_law_names_here", "_law_most", "_law_form_here"]) F sc__law_line rfl fun cdv A outer s H E hr => ⟨_, (qs_cons (qs_set (i := 3) sc__law_line.nd rfl (by first | exact Or.inl rfl | exact Or.inr rfl) (callU D__law_form hr (by rfl) (qa_cons (vU 0) (qa_cons (vU 1) (qa_cons (vU 2) qa_nil)))))
    (qs_one (qs_ret (q_tup (qa_cons (vU 3) (qa_cons (ixU (q_lst (qa_cons q_str (qa_cons q_str (qa_cons q_str (qa_cons q_str qa_nil))))) (callU D__law_next hr (by rfl) (qa_cons (vU 0) (qa_cons q_int qa_nil))) (fun _ _ => rfl)) qa_nil)))))), ?_⟩
  rintro _ _ _ m Q ⟨p, zs, mo, rfl, rfl, rfl, hs, h0, hmo, hl, q⟩
  refine ⟨p, zs, mo, rfl, rfl, rfl, hs, h0, hmo, hl, fun ps c m1 hf hs1 => ?_⟩
  refine ⟨p, 4, rfl, rfl, hs1.self, by decide, by decide, fun w m2 hw1 hw2 hs2 => ?_⟩
  obtain ⟨e, he⟩ : ∃ e : Bool, atI [D.str (Str.ofString "<="), .str (Str.ofString "="), .str (Str.ofString "<="), .str (Str.ofString "<=")] w = some (.str (if e then Str.ofString "=" else Str.ofString "<=")) := by
    have : w = 0 ∨ w = 1 ∨ w = 2 ∨ w = 3 := by omega
    rcases this with rfl | rfl | rfl | rfl
    · exact ⟨false, rfl⟩
    · exact ⟨true, rfl⟩
    · exact ⟨false, rfl⟩
    · exact ⟨false, rfl⟩
  refine ix_l rfl he ?_
  exact q ps c e m2 hf (hs1.trans hs2)

abbrev s__law_odd_number : Stmt := topS 35

theorem sc__law_odd_number : FnScope ["_law_state_here", "_law_value", "_law_some", "_law_over", "_law_under"] ["_law_state_here", "_law_value"] (defScope s__law_odd_number) := ⟨rfl, rfl, rfl, by decide +kernel, rfl, by decide +kernel, by decide +kernel⟩

theorem pick13 {P : D → Prop} {ds : List D} {w : Int} (h : ∀ d ∈ ds, P d) (h0 : 0 ≤ w) (h1 : w < ds.length) : ∃ d, atI ds w = some d ∧ P d := by
  obtain ⟨n, rfl⟩ := Int.eq_ofNat_of_zero_le h0
  have hn : n < ds.length := by omega
  exact ⟨ds[n], atI_nat (List.getElem?_eq_getElem hn), h _ (List.getElem_mem hn)⟩
theorem ix_pick {P : D → Prop} {x : D} {ds : List D} {w : Int} {m : M} {Q : Kd} (e : res m x = .lst ds) (h : ∀ d ∈ ds, P d) (h0 : 0 ≤ w) (h1 : w < ds.length) (q : ∀ d, P d → Q d m) : oIxU x (.int w) m Q := by
  obtain ⟨d, hd, od⟩ := pick13 h h0 h1
  exact ix_l e hd (q d od)
theorem plI {i : Int} (h : i.natAbs < 10 ^ 60) : Pln (.int i) := .int (Nat.lt_trans h (by decide +kernel))
theorem plS {z : Str} (h : okT z = true) (hl : z.length ≤ 1000) : Pln (.str z) := .str h (by omega)
theorem plT {ds : List D} (hl : ds.length ≤ 100) (h : ∀ d ∈ ds, Pln d) : Pln (.tup ds) := .tup (by omega) h
theorem plL {ds : List D} (hl : ds.length ≤ 100) (h : ∀ d ∈ ds, Pln d) : Pln (.lst ds) := .lst (by omega) h
theorem pln_nD {v : Fr} (h : Nr v) : Pln (nD v) := plT (show 2 ≤ 100 by decide) (fa_cons (plI (Nat.lt_trans h.2.1 (by decide))) (fa_cons (plI (Nat.lt_trans h.2.2 (by decide))) fa_nil))
theorem is_nD {v : Fr} (h : Nr v) : isNumD (nD v) = true := by
  show (decide (0 < v.2) && decide (Int.gcd v.1 v.2 = 1)) = true
  rw [decide_eq_true h.1.1, decide_eq_true h.1.2]
  rfl
/-- a thing that is no number -/
def OdN (d : D) : Prop := Pln d ∧ isNumD (resP d) = false
theorem odd_two {a b : Int} : isNumD (.tup [.int (2 * a), .int (2 * b)]) = false := by
  show (decide (0 < 2 * b) && decide (Int.gcd (2 * a) (2 * b) = 1)) = false
  rw [Bool.and_eq_false_iff]
  right
  rw [Int.gcd_mul_left]
  refine decide_eq_false fun h => ?_
  have : (2 : Int).natAbs = 2 := rfl
  rw [this] at h
  omega
theorem odd_und {a b : Int} (h : b ≤ 0) : isNumD (.tup [.int a, .int b]) = false := by
  show (decide (0 < b) && _) = false
  rw [decide_eq_false (by omega), Bool.false_and]

def sp__law_odd_number : Sp2 := sp2 fun s y m Q => ∃ (p : Addr) (v : Fr), s = .ref p ∧ y = nD v ∧ StAt p m m ∧ Nr v ∧ ∀ d m', OdN d → StAt p m m' → Q d m'

theorem fn__law_odd_number {P : Program} {w : World} {K : PySem.W.Frag} {mg : Str → Option Value} {base : Heap} {f : Addr} {fd : FuncData} (F : FunZ K "_law_odd_number" "_law_odd_number" s__law_odd_number f fd) (D__law_next : DefOk P w K mg base 1 "_law_next" sp__law_next) : FnOk P w K mg base CX0 2 f fd ["_law_state_here", "_law_value"] (lift K sp__law_odd_number) := by
  refine fn2 (N := ["_law_state_here", "_law_value", "_law_some", "_law_over", "_law_under"]) F sc__law_odd_number rfl fun cdv A outer s H E hr => ⟨_, (qs_cons (qs_asg (vU 1) (qg_tup (n := 2) rfl (qgs_cons (qg_name (i := 3) sc__law_odd_number.nd rfl (by first | exact Or.inl rfl | exact Or.inr rfl)) (qgs_cons (qg_name (i := 4) sc__law_odd_number.nd rfl (by first | exact Or.inl rfl | exact Or.inr rfl)) qgs_nil))))
    (qs_cons (qs_set (i := 2) sc__law_odd_number.nd rfl (by first | exact Or.inl rfl | exact Or.inr rfl) (q_lst (qa_cons (q_tup (qa_cons (mulU q_int (vU 3)) (qa_cons (mulU q_int (vU 4)) qa_nil))) (qa_cons (q_tup (qa_cons (vU 3) (qa_cons (negU (vU 4)) qa_nil))) (qa_cons (q_tup (qa_cons (vU 3) qa_nil)) (qa_cons (q_lst (qa_cons (vU 3) (qa_cons (vU 4) qa_nil))) (qa_cons (q_tup (qa_cons (vU 3) (qa_cons q_int qa_nil))) (qa_cons (q_tup (qa_cons q_bl (qa_cons q_int qa_nil))) (qa_cons (q_tup (qa_cons (vU 3) (qa_cons q_bl qa_nil))) (qa_cons (vU 3) qa_nil))))))))))
    (qs_cons (qs_set (i := 2) sc__law_odd_number.nd rfl (by first | exact Or.inl rfl | exact Or.inr rfl) (addU (vU 2) (q_lst (qa_cons q_non (qa_cons q_str (qa_cons (q_tup (qa_cons (vU 3) (qa_cons (vU 4) (qa_cons (vU 4) qa_nil)))) (qa_cons (q_tup (qa_cons q_str (qa_cons q_int qa_nil))) (qa_cons (q_tup (qa_cons q_non (qa_cons q_int qa_nil))) (qa_cons (q_tup qa_nil) qa_nil)))))))))
    (qs_one (qs_ret (ixU (vU 2) (callU D__law_next hr (by rfl) (qa_cons (vU 0) (qa_cons q_int qa_nil))) (fun _ _ => rfl))))))), ?_⟩
  rintro _ _ m Q ⟨p, v, rfl, rfl, hs, hv, q⟩
  have hb1 := hv.2.1
  have hb2 := hv.2.2
  have hlo := hv.1.1
  have p1 : Pln (.int v.1) := plI (Nat.lt_trans hb1 (by decide))
  have p2 : Pln (.int v.2) := plI (Nat.lt_trans hb2 (by decide))
  have pi : ∀ i : Int, i.natAbs ≤ 10 → Pln (.int i) := fun i h => plI (by omega)
  have two : ∀ {a b : D}, Pln a → Pln b → Pln (.tup [a, b]) := fun ha hb => plT (by show 2 ≤ 100; decide) (fa_cons ha (fa_cons hb fa_nil))
  have ps1 : Pln (.str (Str.ofString "1")) := plS (okT_of (by decide)) (by decide)
  refine ⟨_, rfl, rfl, ?_⟩
  refine mulI (cokL (by decide)) ?_
  refine mulI (cokL (by decide)) ?_
  refine ⟨by show 14 ≤ sizeLine; exact szN 14, ?_⟩
  refine ⟨p, 14, rfl, rfl, hs, by decide, by decide, fun w m1 hw1 hw2 hs1 => ?_⟩
  have all : ∀ d ∈ [D.tup [.int (2 * v.1), .int (2 * v.2)], .tup [.int v.1, .int (-v.2)], .tup [.int v.1], .lst [.int v.1, .int v.2], .tup [.int v.1, .int 0], .tup [.bl true, .int 1], .tup [.int v.1, .bl true], .int v.1] ++
      [D.non, .str (Str.ofString "1"), .tup [.int v.1, .int v.2, .int v.2], .tup [.str (Str.ofString "1"), .int 1], .tup [.non, .int 1], .tup []], OdN d := by
    refine fa_app ?_ ?_
    · refine fa_cons ⟨two (plI (by omega)) (plI (by omega)), odd_two⟩ ?_
      refine fa_cons ⟨two p1 (plI (by omega)), odd_und (by omega)⟩ ?_
      refine fa_cons ⟨plT (by show 1 ≤ 100; decide) (fa_cons p1 fa_nil), rfl⟩ ?_
      refine fa_cons ⟨plL (by show 2 ≤ 100; decide) (fa_cons p1 (fa_cons p2 fa_nil)), rfl⟩ ?_
      refine fa_cons ⟨two p1 (pi 0 (by decide)), odd_und (by decide)⟩ ?_
      refine fa_cons ⟨two (.bl _) (pi 1 (by decide)), rfl⟩ ?_
      refine fa_cons ⟨two p1 (.bl _), rfl⟩ ?_
      exact fa_cons ⟨p1, rfl⟩ fa_nil
    · refine fa_cons ⟨.non, rfl⟩ ?_
      refine fa_cons ⟨ps1, rfl⟩ ?_
      refine fa_cons ⟨plT (by show 3 ≤ 100; decide) (fa_cons p1 (fa_cons p2 (fa_cons p2 fa_nil))), rfl⟩ ?_
      refine fa_cons ⟨two ps1 (pi 1 (by decide)), rfl⟩ ?_
      refine fa_cons ⟨two .non (pi 1 (by decide)), rfl⟩ ?_
      exact fa_cons ⟨plT (by show 0 ≤ 100; decide) fa_nil, rfl⟩ fa_nil
  obtain ⟨d, hd, od⟩ := pick13 all hw1 (by show w < 14; omega)
  refine ix_l rfl hd ?_
  exact q d m1 od hs1

abbrev s__law_odd_form : Stmt := topS 36

theorem sc__law_odd_form : FnScope ["_law_state_here", "_law_form_here", "_law_one", "_law_odd", "_law_word", "_law_some", "_law_parts", "_law_constant"] ["_law_state_here", "_law_form_here"] (defScope s__law_odd_form) := ⟨rfl, rfl, rfl, by decide +kernel, rfl, by decide +kernel, by decide +kernel⟩

theorem pln_pf {x : Pf} (h : Nr x.2) (hn : nmOk x.1) : Pln (pf13 x) := plT (show 2 ≤ 100 by decide) (fa_cons (plS (nm_okT hn) (by have := hn.2.1; omega)) (fa_cons (pln_nD h) fa_nil))
theorem pln_ps {zs : List Str} {ps : List Pf} {c : Fr} (F : Fm13 zs ps c) (N : NmsOk zs) : ∀ d ∈ ps.map pf13, Pln d := fun d hd => by
  obtain ⟨x, hx, rfl⟩ := List.mem_map.mp hd
  exact pln_pf (F.nr x hx).1 (N.nm _ (F.sub.subset (List.mem_map.mpr ⟨x, hx, rfl⟩)))
theorem Fm13.len {zs : List Str} {ps : List Pf} {c : Fr} (F : Fm13 zs ps c) : ps.length ≤ zs.length := by
  have := F.sub.length_le
  rwa [List.length_map] at this
theorem pln_fm {zs : List Str} {ps : List Pf} {c : Fr} (F : Fm13 zs ps c) (N : NmsOk zs) (l : zs.length ≤ 6) : Pln (fm13 ps c) :=
  plT (show 2 ≤ 100 by decide) (fa_cons (plT (by rw [List.length_map]; have := F.len; omega) (pln_ps F N)) (fa_cons (pln_nD F.c) fa_nil))
theorem fm_part {x a b p : D} {ps : List D} (e : resP x = .tup [a, b]) (e2 : resP a = .tup ps) (hp : p ∈ ps) (h : isPtP p = false) : isFmP x = false := by
  rw [fmP_two e e2]
  have : ps.all isPtP = false := by
    rw [List.all_eq_false]
    exact ⟨p, hp, by rw [h]; decide⟩
  rw [this, Bool.false_and, Bool.and_false]
theorem fm_num {x a b : D} (e : resP x = .tup [a, b]) (h : isNumD (resP b) = false) : isFmP x = false := by
  unfold isFmP
  rw [e]
  dsimp only
  split
  · rw [h, Bool.false_and]
  · rfl
theorem fm_ris {x a b : D} {ps : List D} (e : resP x = .tup [a, b]) (e2 : resP a = .tup ps) (h : risL (ps.map nmOf) = false) : isFmP x = false := by
  rw [fmP_two e e2, h, Bool.and_false, Bool.and_false]
theorem ris_bad {a b : Str} (h : ¬ a.cps.toList < b.cps.toList) : ∀ l : List Str, risL (l ++ [a, b]) = false
  | [] => by show (decide _ && _) = false; rw [decide_eq_false h, Bool.false_and]
  | [x] => by
    show (decide _ && risL ([] ++ [a, b])) = false
    rw [ris_bad h [], Bool.and_false]
  | x :: y :: r => by
    show (decide _ && risL ((y :: r) ++ [a, b])) = false
    rw [ris_bad h (y :: r), Bool.and_false]
def OdF (d : D) : Prop := Pln d ∧ isFmP d = false
theorem pt_word {w b : D} (h : isNmD w = false) : isPtP (.tup [w, b]) = false := by
  rw [ptP_two rfl, h, Bool.false_and]
theorem pt_num {a b : D} (h : isNumD (resP b) = false) : isPtP (.tup [a, b]) = false := by
  rw [ptP_two rfl, h, Bool.false_and, Bool.and_false]

def sp__law_odd_form : Sp2 := sp2 fun s y m Q => ∃ (p : Addr) (zs : List Str) (ps : List Pf) (c : Fr), s = .ref p ∧ y = fm13 ps c ∧ StAt p m m ∧ Fm13 zs ps c ∧ NmsOk zs ∧ zs.length ≤ 6 ∧ ∀ d m', OdF d → StAt p m m' → Q d m'

theorem fn__law_odd_form {P : Program} {w : World} {K : PySem.W.Frag} {mg : Str → Option Value} {base : Heap} {f : Addr} {fd : FuncData} (F : FunZ K "_law_odd_form" "_law_odd_form" s__law_odd_form f fd) (D__law_odd_number : DefOk P w K mg base 2 "_law_odd_number" sp__law_odd_number) (D__law_drawn : DefOk P w K mg base 2 "_law_drawn" sp__law_drawn) (D__law_next : DefOk P w K mg base 1 "_law_next" sp__law_next) (mg_list : mg "list" = none) : FnOk P w K mg base CX0 3 f fd ["_law_state_here", "_law_form_here"] (lift K sp__law_odd_form) := by
  refine fn2 (N := ["_law_state_here", "_law_form_here", "_law_one", "_law_odd", "_law_word", "_law_some", "_law_parts", "_law_constant"]) F sc__law_odd_form rfl fun cdv A outer s H E hr => ⟨_, (qs_cons (qs_asg (vU 1) (qg_tup (n := 2) rfl (qgs_cons (qg_name (i := 6) sc__law_odd_form.nd rfl (by first | exact Or.inl rfl | exact Or.inr rfl)) (qgs_cons (qg_name (i := 7) sc__law_odd_form.nd rfl (by first | exact Or.inl rfl | exact Or.inr rfl)) qgs_nil))))
    (qs_cons (qs_set (i := 2) sc__law_odd_form.nd rfl (by first | exact Or.inl rfl | exact Or.inr rfl) (q_tup (qa_cons q_int (qa_cons q_int qa_nil))))
    (qs_cons (qs_set (i := 3) sc__law_odd_form.nd rfl (by first | exact Or.inl rfl | exact Or.inr rfl) (callU D__law_odd_number hr (by rfl) (qa_cons (vU 0) (qa_cons (callU D__law_drawn hr (by rfl) (qa_cons (vU 0) (qa_cons q_int qa_nil))) qa_nil))))
    (qs_cons (qs_set (i := 4) sc__law_odd_form.nd rfl (by first | exact Or.inl rfl | exact Or.inr rfl) (ixU (q_lst (qa_cons q_str (qa_cons q_str (qa_cons q_str (qa_cons q_str (qa_cons q_int (qa_cons q_non (qa_cons q_str (qa_cons q_str (qa_cons q_str (qa_cons (q_tup (qa_cons q_str qa_nil)) (qa_cons (q_lst (qa_cons q_str qa_nil)) (qa_cons q_dnew qa_nil))))))))))))) (callU D__law_next hr (by rfl) (qa_cons (vU 0) (qa_cons q_int qa_nil))) (fun _ _ => rfl)))
    (qs_cons (qs_set (i := 5) sc__law_odd_form.nd rfl (by first | exact Or.inl rfl | exact Or.inr rfl) (q_lst (qa_cons (q_tup (qa_cons (addTU (vU 6) (q_tup (qa_cons (q_tup (qa_cons (vU 4) (qa_cons (vU 2) qa_nil))) qa_nil))) (qa_cons (vU 7) qa_nil))) (qa_cons (q_tup (qa_cons (addTU (vU 6) (q_tup (qa_cons (q_tup (qa_cons q_str (qa_cons (q_tup (qa_cons q_int (qa_cons q_int qa_nil))) qa_nil))) qa_nil))) (qa_cons (vU 7) qa_nil))) (qa_cons (q_tup (qa_cons (listU (by rfl) mg_list (qa_cons (vU 6) qa_nil)) (qa_cons (vU 7) qa_nil))) qa_nil)))))
    (qs_cons (qs_set (i := 5) sc__law_odd_form.nd rfl (by first | exact Or.inl rfl | exact Or.inr rfl) (addU (vU 5) (q_lst (qa_cons (q_tup (qa_cons (addTU (vU 6) (q_tup (qa_cons (q_tup (qa_cons q_str (qa_cons (vU 2) qa_nil))) (qa_cons (q_tup (qa_cons q_str (qa_cons (vU 2) qa_nil))) qa_nil)))) (qa_cons (vU 7) qa_nil))) (qa_cons (q_tup (qa_cons (addTU (vU 6) (q_tup (qa_cons (q_tup (qa_cons q_str (qa_cons (vU 2) qa_nil))) (qa_cons (q_tup (qa_cons q_str (qa_cons (vU 2) qa_nil))) qa_nil)))) (qa_cons (vU 7) qa_nil))) qa_nil)))))
    (qs_cons (qs_set (i := 5) sc__law_odd_form.nd rfl (by first | exact Or.inl rfl | exact Or.inr rfl) (addU (vU 5) (q_lst (qa_cons (q_lst (qa_cons (vU 6) (qa_cons (vU 7) qa_nil))) (qa_cons (q_tup (qa_cons (vU 6) qa_nil)) (qa_cons (q_tup (qa_cons (vU 6) (qa_cons (vU 7) (qa_cons (vU 7) qa_nil)))) (qa_cons (q_tup (qa_cons (vU 6) (qa_cons (vU 3) qa_nil))) (qa_cons (q_tup (qa_cons (vU 7) (qa_cons (vU 6) qa_nil))) qa_nil))))))))
    (qs_cons (qs_set (i := 5) sc__law_odd_form.nd rfl (by first | exact Or.inl rfl | exact Or.inr rfl) (addU (vU 5) (q_lst (qa_cons (q_tup (qa_cons (addTU (vU 6) (q_tup (qa_cons (q_tup (qa_cons q_str (qa_cons (vU 3) qa_nil))) qa_nil))) (qa_cons (vU 7) qa_nil))) (qa_cons (q_tup (qa_cons (addTU (vU 6) (q_tup (qa_cons (q_lst (qa_cons q_str (qa_cons (vU 2) qa_nil))) qa_nil))) (qa_cons (vU 7) qa_nil))) (qa_cons (q_tup (qa_cons q_non (qa_cons (vU 7) qa_nil))) qa_nil))))))
    (qs_cons (qs_set (i := 5) sc__law_odd_form.nd rfl (by first | exact Or.inl rfl | exact Or.inr rfl) (addU (vU 5) (q_lst (qa_cons (q_tup (qa_cons (addTU (vU 6) (q_tup (qa_cons (q_tup (qa_cons q_str qa_nil)) qa_nil))) (qa_cons (vU 7) qa_nil))) (qa_cons (q_tup (qa_cons (addTU (vU 6) (q_tup (qa_cons (q_tup (qa_cons q_str (qa_cons (vU 2) (qa_cons (vU 2) qa_nil)))) qa_nil))) (qa_cons (vU 7) qa_nil))) (qa_cons q_non (qa_cons q_int (qa_cons q_str (qa_cons (q_tup qa_nil) (qa_cons q_dnew qa_nil))))))))))
    (qs_one (qs_ret (ixU (vU 5) (callU D__law_next hr (by rfl) (qa_cons (vU 0) (qa_cons q_int qa_nil))) (fun _ _ => rfl))))))))))))), ?_⟩
  rintro _ _ m Q ⟨p, zs, ps, c, rfl, rfl, hs, F, N, l6, q⟩
  refine ⟨_, rfl, rfl, ?_⟩
  refine ⟨p, 9, rfl, rfl, hs, by decide, by decide, fun v m1 hv hs1 => ?_⟩
  refine ⟨p, v, rfl, rfl, hs1.self, hv, fun od m2 hod hs2 => ?_⟩
  have hs2 := hs1.trans hs2
  refine ⟨p, 12, rfl, rfl, hs2.self, by decide, by decide, fun w m3 hw1 hw2 hs3 => ?_⟩
  have hs3 := hs2.trans hs3
  have okl : ∀ {z : Str}, (TL.tl z).all (fun c => decide (c < 0x110000)) = true → z.length ≤ 1000 → Pln (.str z) := fun h hl => plS (okT_of fun c hc => of_decide_eq_true (List.all_eq_true.mp h c hc)) hl
  have words : ∀ d ∈ [D.str (Str.ofString "must"), .str (Str.ofString "A"), .str (Str.ofString "abcdefg"), .str (Str.ofString ""), .int 5, .non, .str (Str.ofString "a1"), .str (Str.ofString "a b"), .str (Str.ofString "yes"), .tup [.str (Str.ofString "a")], .lst [.str (Str.ofString "a")], .dic [] []], Pln d ∧ isNmD d = false := by
    refine fa_cons ⟨okl (by decide) (by decide), by decide +kernel⟩ ?_
    refine fa_cons ⟨okl (by decide) (by decide), by decide +kernel⟩ ?_
    refine fa_cons ⟨okl (by decide) (by decide), by decide +kernel⟩ ?_
    refine fa_cons ⟨okl (by decide) (by decide), by decide +kernel⟩ ?_
    refine fa_cons ⟨plI (by decide), rfl⟩ ?_
    refine fa_cons ⟨.non, rfl⟩ ?_
    refine fa_cons ⟨okl (by decide) (by decide), by decide +kernel⟩ ?_
    refine fa_cons ⟨okl (by decide) (by decide), by decide +kernel⟩ ?_
    refine fa_cons ⟨okl (by decide) (by decide), by decide +kernel⟩ ?_
    refine fa_cons ⟨plT (by show 1 ≤ 100; decide) (fa_cons (okl (by decide) (by decide)) fa_nil), rfl⟩ ?_
    refine fa_cons ⟨plL (by show 1 ≤ 100; decide) (fa_cons (okl (by decide) (by decide)) fa_nil), rfl⟩ ?_
    exact fa_cons ⟨.dic _ _, rfl⟩ fa_nil
  obtain ⟨wd, hwd, wp, wn⟩ := pick13 words hw1 (by show w < 12; omega)
  refine ix_l rfl hwd ?_
  have l7 : (ps.map pf13).length ≤ 6 := by rw [List.length_map]; have := F.len; omega
  have ad : ∀ k : Nat, k ≤ 10 → (ps.map pf13).length + k ≤ sizeLine := fun k hk => Nat.le_trans (by omega) (szN 16)
  refine addT_of rfl rfl (ad 1 (by decide)) ?_
  refine addT_of rfl rfl (ad 1 (by decide)) ?_
  refine kLst_of rfl ?_
  refine addT_of rfl rfl (ad 2 (by decide)) ?_
  refine addT_of rfl rfl (ad 2 (by decide)) ?_
  refine ⟨szN 5, ?_⟩
  refine ⟨szN 10, ?_⟩
  refine addT_of rfl rfl (ad 1 (by decide)) ?_
  refine addT_of rfl rfl (ad 1 (by decide)) ?_
  refine ⟨szN 13, ?_⟩
  refine addT_of rfl rfl (ad 1 (by decide)) ?_
  refine addT_of rfl rfl (ad 1 (by decide)) ?_
  refine ⟨szN 20, ?_⟩
  refine ⟨p, 20, rfl, rfl, hs3.self, by decide, by decide, fun u m4 hu1 hu2 hs4 => ?_⟩
  refine ix_pick (P := OdF) rfl ?_ hu1 (by show u < 20; exact hu2) fun d od => q d m4 od (hs3.trans hs4)
  have pP := pln_ps F N
  have pc := pln_nD F.c
  have one : Pln (.tup [.int 1, .int 1]) := plT (by show 2 ≤ 100; decide) (fa_cons (plI (by decide)) (fa_cons (plI (by decide)) fa_nil))
  have zz : Pln (.str (Str.ofString "zz")) := okl (by decide) (by decide)
  have aa : Pln (.str (Str.ofString "aa")) := okl (by decide) (by decide)
  have two : ∀ {a b : D}, Pln a → Pln b → Pln (.tup [a, b]) := fun ha hb => plT (by show 2 ≤ 100; decide) (fa_cons ha (fa_cons hb fa_nil))
  have more : ∀ {xs : List D}, xs.length ≤ 10 → (∀ d ∈ xs, Pln d) → Pln (.tup (ps.map pf13 ++ xs)) := fun hx h => plT (by rw [List.length_append]; omega) (fa_app pP h)
  have bad : ∀ {xs : List D} {b : D}, xs.length ≤ 10 → (∀ d ∈ xs, Pln d) → ∀ {y : D}, y ∈ xs → isPtP y = false → Pln b → OdF (.tup [.tup (ps.map pf13 ++ xs), b]) := fun {xs b} hx h {y} hy hb pb => ⟨two (more hx h) pb, fm_part rfl rfl (List.mem_append_right _ hy) hb⟩
  have bad1 : ∀ {y : D}, Pln y → isPtP y = false → OdF (.tup [.tup (ps.map pf13 ++ [y]), nD c]) := fun hy hb => bad (by show 1 ≤ 10; decide) (fa_cons hy fa_nil) List.mem_cons_self hb pc
  have bris : ∀ {a b : Str}, ¬ a.cps.toList < b.cps.toList → Pln (.str a) → Pln (.str b) → OdF (.tup [.tup (ps.map pf13 ++ [.tup [.str a, .tup [.int 1, .int 1]], .tup [.str b, .tup [.int 1, .int 1]]]), nD c]) := fun h ha hb =>
    ⟨two (more (by show 2 ≤ 10; decide) (fa_cons (two ha one) (fa_cons (two hb one) fa_nil))) pc, fm_ris rfl rfl (by rw [List.map_append]; exact ris_bad h _)⟩
  have pP0 : Pln (.tup (ps.map pf13)) := plT (by omega) pP
  refine fa_app (fa_app (fa_app (fa_app ?_ ?_) ?_) ?_) ?_
  · refine fa_cons (bad1 (two wp one) (pt_word wn)) ?_
    refine fa_cons (bad1 (two zz (two (plI (by decide)) (plI (by decide)))) (by decide +kernel)) ?_
    exact fa_cons ⟨two (plL (by omega) pP) pc, rfl⟩ fa_nil
  · refine fa_cons (bris (by decide) zz zz) ?_
    exact fa_cons (bris (by decide) zz aa) fa_nil
  · refine fa_cons ⟨plL (by show 2 ≤ 100; decide) (fa_cons pP0 (fa_cons pc fa_nil)), rfl⟩ ?_
    refine fa_cons ⟨plT (by show 1 ≤ 100; decide) (fa_cons pP0 fa_nil), rfl⟩ ?_
    refine fa_cons ⟨plT (by show 3 ≤ 100; decide) (fa_cons pP0 (fa_cons pc (fa_cons pc fa_nil))), rfl⟩ ?_
    refine fa_cons ⟨two pP0 hod.1, fm_num rfl hod.2⟩ ?_
    exact fa_cons ⟨two pc pP0, fm_part (p := .int c.1) rfl rfl List.mem_cons_self rfl⟩ fa_nil
  · refine fa_cons (bad1 (two zz hod.1) (pt_num hod.2)) ?_
    refine fa_cons (bad1 (plL (by show 2 ≤ 100; decide) (fa_cons zz (fa_cons one fa_nil))) rfl) ?_
    exact fa_cons ⟨two .non pc, rfl⟩ fa_nil
  · refine fa_cons (bad1 (plT (by show 1 ≤ 100; decide) (fa_cons zz fa_nil)) rfl) ?_
    refine fa_cons (bad1 (plT (by show 3 ≤ 100; decide) (fa_cons zz (fa_cons one (fa_cons one fa_nil)))) rfl) ?_
    refine fa_cons ⟨.non, rfl⟩ ?_
    refine fa_cons ⟨plI (by decide), rfl⟩ ?_
    refine fa_cons ⟨okl (by decide) (by decide), rfl⟩ ?_
    refine fa_cons ⟨plT (by show 0 ≤ 100; decide) fa_nil, rfl⟩ ?_
    exact fa_cons ⟨.dic _ _, rfl⟩ fa_nil

abbrev s__law_odd_line : Stmt := topS 37

theorem sc__law_odd_line : FnScope ["_law_state_here", "_law_line_here", "_law_some", "_law_way", "_law_form_here", "_law_sign"] ["_law_state_here", "_law_line_here"] (defScope s__law_odd_line) := ⟨rfl, rfl, rfl, by decide +kernel, rfl, by decide +kernel, by decide +kernel⟩

def OdL (d : D) : Prop := Pln d ∧ isLnP d = false
theorem fm_ok {zs : List Str} {ps : List Pf} {c : Fr} (F : Fm13 zs ps c) (N : NmsOk zs) : isFmP (fm13 ps c) = true := by
  rw [fmP_two (x := fm13 ps c) (a := .tup (ps.map pf13)) (b := nD c) (ps := ps.map pf13) rfl rfl, show isNumD (resP (nD c)) = true from is_nD F.c, Bool.true_and]
  have e1 : (ps.map pf13).all isPtP = true := List.all_eq_true.mpr fun d hd => by
    obtain ⟨x, hx, rfl⟩ := List.mem_map.mp hd
    have hn := N.nm _ (F.sub.subset (List.mem_map.mpr ⟨x, hx, rfl⟩))
    rw [ptP_two (x := pf13 x) (a := .str x.1) (b := nD x.2) rfl, show isNmD (.str x.1) = true from isNm_iff.mpr hn, show isNumD (resP (nD x.2)) = true from is_nD (F.nr x hx).1]
    have h0 := (F.nr x hx).2
    have : eqD (resP (nD x.2)) (.tup [.int 0, .int 1]) = false := by
      show eqD (.tup [.int x.2.1, .int x.2.2]) (.tup [.int 0, .int 1]) = false
      rw [eqD_pair, decide_eq_false h0, Bool.false_and]
    rw [this]
    rfl
  have e2 : (ps.map pf13).map nmOf = ps.map (·.1) := by rw [List.map_map]; rfl
  rw [e1, e2, Bool.true_and]
  have pw := N.pw.sublist F.sub
  have ris : ∀ l : List Str, (l.Pairwise fun a b => a.cps.toList < b.cps.toList) → risL l = true := fun l => by
    induction l with
    | nil => exact fun _ => rfl
    | cons a r ih =>
      intro h
      obtain ⟨h1, h2⟩ := List.pairwise_cons.mp h
      cases r with
      | nil => rfl
      | cons b r =>
        show (decide _ && risL (b :: r)) = true
        rw [decide_eq_true (h1 b List.mem_cons_self), ih h2]
        rfl
  exact ris _ pw
theorem sg_ok (e : Bool) : isOf sgs13 (.str (if e then Str.ofString "=" else Str.ofString "<=")) = true := by cases e <;> decide
theorem ln_ok13 {zs : List Str} {ps : List Pf} {c : Fr} {e : Bool} (F : Fm13 zs ps c) (N : NmsOk zs) : isLnP (ln13 ps c e) = true := by
  rw [lnP_two (x := ln13 ps c e) (a := fm13 ps c) (b := .str (if e then Str.ofString "=" else Str.ofString "<=")) rfl, fm_ok F N, sg_ok e]
  rfl
theorem pln_sg (e : Bool) : Pln (.str (if e then Str.ofString "=" else Str.ofString "<=")) := by cases e <;> exact plS (okT_of (by decide)) (by decide)
theorem pln_ln {zs : List Str} {ps : List Pf} {c : Fr} {e : Bool} (F : Fm13 zs ps c) (N : NmsOk zs) (l : zs.length ≤ 6) : Pln (ln13 ps c e) :=
  plT (show 2 ≤ 100 by decide) (fa_cons (pln_fm F N l) (fa_cons (pln_sg e) fa_nil))
theorem ln_fm {a b : D} (h : isFmP a = false) : isLnP (.tup [a, b]) = false := by rw [lnP_two rfl, h, Bool.false_and]
theorem ln_sg {a b : D} (h : isOf sgs13 b = false) : isLnP (.tup [a, b]) = false := by rw [lnP_two rfl, h, Bool.and_false]
theorem okl13 {z : Str} (h : (TL.tl z).all (fun c => decide (c < 0x110000)) = true) (hl : z.length ≤ 1000) : Pln (.str z) := plS (okT_of fun c hc => of_decide_eq_true (List.all_eq_true.mp h c hc)) hl

def sp__law_odd_line : Sp2 := sp2 fun s y m Q => ∃ (p : Addr) (zs : List Str) (ps : List Pf) (c : Fr) (e : Bool), s = .ref p ∧ y = ln13 ps c e ∧ StAt p m m ∧ Fm13 zs ps c ∧ NmsOk zs ∧ zs.length ≤ 6 ∧ ∀ d m', OdL d → StAt p m m' → Q d m'

theorem fn__law_odd_line {P : Program} {w : World} {K : PySem.W.Frag} {mg : Str → Option Value} {base : Heap} {f : Addr} {fd : FuncData} (F : FunZ K "_law_odd_line" "_law_odd_line" s__law_odd_line f fd) (D__law_next : DefOk P w K mg base 1 "_law_next" sp__law_next) (D__law_odd_form : DefOk P w K mg base 3 "_law_odd_form" sp__law_odd_form) : FnOk P w K mg base CX0 4 f fd ["_law_state_here", "_law_line_here"] (lift K sp__law_odd_line) := by
  refine fn2 (N := ["_law_state_here", "_law_line_here", "_law_some", "_law_way", "_law_form_here", "_law_sign"]) F sc__law_odd_line rfl fun cdv A outer s H E hr => ⟨_, (qs_cons (qs_asg (vU 1) (qg_tup (n := 2) rfl (qgs_cons (qg_name (i := 4) sc__law_odd_line.nd rfl (by first | exact Or.inl rfl | exact Or.inr rfl)) (qgs_cons (qg_name (i := 5) sc__law_odd_line.nd rfl (by first | exact Or.inl rfl | exact Or.inr rfl)) qgs_nil))))
    (qs_cons (qs_set (i := 2) sc__law_odd_line.nd rfl (by first | exact Or.inl rfl | exact Or.inr rfl) (q_lst (qa_cons (q_lst (qa_cons (vU 4) (qa_cons (vU 5) qa_nil))) (qa_cons (q_tup (qa_cons (vU 4) qa_nil)) (qa_cons (q_tup (qa_cons (vU 4) (qa_cons (vU 5) (qa_cons (vU 5) qa_nil)))) (qa_cons (q_tup (qa_cons (vU 5) (qa_cons (vU 4) qa_nil))) (qa_cons (q_tup (qa_cons (vU 4) (qa_cons q_str qa_nil))) (qa_cons (q_tup (qa_cons (vU 4) (qa_cons q_str qa_nil))) (qa_cons (q_tup (qa_cons (vU 4) (qa_cons q_str qa_nil))) qa_nil)))))))))
    (qs_cons (qs_set (i := 2) sc__law_odd_line.nd rfl (by first | exact Or.inl rfl | exact Or.inr rfl) (addU (vU 2) (q_lst (qa_cons (q_tup (qa_cons (vU 4) (qa_cons q_non qa_nil))) (qa_cons (q_tup (qa_cons (vU 4) (qa_cons q_int qa_nil))) (qa_cons (q_tup (qa_cons (vU 4) (qa_cons (q_lst (qa_cons (vU 5) qa_nil)) qa_nil))) (qa_cons (q_tup (qa_cons (vU 4) (qa_cons q_str qa_nil))) (qa_cons (q_tup (qa_cons (vU 4) (qa_cons (addU (vU 5) q_str) qa_nil))) (qa_cons q_non (qa_cons q_int (qa_cons q_str (qa_cons (q_tup qa_nil) (qa_cons q_dnew qa_nil)))))))))))))
    (qs_cons (qs_set (i := 3) sc__law_odd_line.nd rfl (by first | exact Or.inl rfl | exact Or.inr rfl) (callU D__law_next hr (by rfl) (qa_cons (vU 0) (qa_cons q_int qa_nil))))
    (qs_cons (ifS (tgtU (vU 3) q_int) (qs_one (qs_ret (q_tup (qa_cons (callU D__law_odd_form hr (by rfl) (qa_cons (vU 0) (qa_cons (vU 4) qa_nil))) (qa_cons (vU 5) qa_nil))))) qs_nil)
    (qs_one (qs_ret (ixU (vU 2) (vU 3) (fun _ _ => rfl))))))))), ?_⟩
  rintro _ _ m Q ⟨p, zs, ps, c, e, rfl, rfl, hs, F, N, l6, q⟩
  have hf := pln_fm F N l6
  have hs1 := pln_sg e
  have hs2 : Pln (.str ((if e then Str.ofString "=" else Str.ofString "<=") ++ Str.ofString " ")) := by cases e <;> exact okl13 (by decide) (by decide)
  have hs3 : isOf sgs13 (.str ((if e then Str.ofString "=" else Str.ofString "<=") ++ Str.ofString " ")) = false := by cases e <;> decide
  have hs4 : (if e then Str.ofString "=" else Str.ofString "<=").length ≤ 2 := by cases e <;> decide
  unfold ln13
  generalize (if e then Str.ofString "=" else Str.ofString "<=") = sg at hs1 hs2 hs3 hs4
  refine ⟨_, rfl, rfl, ?_⟩
  refine ⟨Nat.le_trans (Nat.add_le_add_right hs4 1) (szN 3), ?_⟩
  refine ⟨szN 17, ?_⟩
  refine ⟨p, 24, rfl, rfl, hs, by decide, by decide, fun w m1 hw1 hw2 hst => ?_⟩
  refine br2 (fun h => ?_) (fun h => ?_)
  · refine ⟨p, zs, ps, c, rfl, rfl, hst.self, F, N, l6, fun d m2 hd hst2 => ?_⟩
    exact q _ m2 ⟨plT (by show 2 ≤ 100; decide) (fa_cons hd.1 (fa_cons hs1 fa_nil)), ln_fm hd.2⟩ (hst.trans hst2)
  · have h : ¬ (16 : Int) < w := of_decide_eq_false h
    refine ix_pick (P := OdL) rfl ?_ hw1 (by show w < 17; omega) fun d od => q d m1 od hst
    have two : ∀ {a b : D}, Pln a → Pln b → Pln (.tup [a, b]) := fun ha hb => plT (by show 2 ≤ 100; decide) (fa_cons ha (fa_cons hb fa_nil))
    refine fa_app ?_ ?_
    · refine fa_cons ⟨plL (by show 2 ≤ 100; decide) (fa_cons hf (fa_cons hs1 fa_nil)), rfl⟩ ?_
      refine fa_cons ⟨plT (by show 1 ≤ 100; decide) (fa_cons hf fa_nil), rfl⟩ ?_
      refine fa_cons ⟨plT (by show 3 ≤ 100; decide) (fa_cons hf (fa_cons hs1 (fa_cons hs1 fa_nil))), rfl⟩ ?_
      refine fa_cons ⟨two hs1 hf, ln_fm rfl⟩ ?_
      refine fa_cons ⟨two hf (okl13 (by decide) (by decide)), ln_sg (by decide)⟩ ?_
      refine fa_cons ⟨two hf (okl13 (by decide) (by decide)), ln_sg (by decide)⟩ ?_
      exact fa_cons ⟨two hf (okl13 (by decide) (by decide)), ln_sg (by decide)⟩ fa_nil
    · refine fa_cons ⟨two hf .non, ln_sg rfl⟩ ?_
      refine fa_cons ⟨two hf (plI (by decide)), ln_sg rfl⟩ ?_
      refine fa_cons ⟨two hf (plL (by show 1 ≤ 100; decide) (fa_cons hs1 fa_nil)), ln_sg rfl⟩ ?_
      refine fa_cons ⟨two hf (okl13 (by decide) (by decide)), ln_sg (by decide)⟩ ?_
      refine fa_cons ⟨two hf hs2, ln_sg hs3⟩ ?_
      refine fa_cons ⟨.non, rfl⟩ ?_
      refine fa_cons ⟨plI (by decide), rfl⟩ ?_
      refine fa_cons ⟨okl13 (by decide) (by decide), rfl⟩ ?_
      refine fa_cons ⟨plT (by show 0 ≤ 100; decide) fa_nil, rfl⟩ ?_
      exact fa_cons ⟨.dic _ _, rfl⟩ fa_nil

abbrev s__law_odd_weight : Stmt := topS 38

theorem sc__law_odd_weight : FnScope ["_law_state_here"] ["_law_state_here"] (defScope s__law_odd_weight) := ⟨rfl, rfl, rfl, by decide +kernel, rfl, by decide +kernel, by decide +kernel⟩

def OdW (d : D) : Prop := Pln d ∧ isWtP d = false

def sp__law_odd_weight : Sp2 := sp1 fun s m Q => ∃ p : Addr, s = .ref p ∧ StAt p m m ∧ ∀ d m', OdW d → StAt p m m' → Q d m'

theorem fn__law_odd_weight {P : Program} {w : World} {K : PySem.W.Frag} {mg : Str → Option Value} {base : Heap} {f : Addr} {fd : FuncData} (F : FunZ K "_law_odd_weight" "_law_odd_weight" s__law_odd_weight f fd) (D__law_next : DefOk P w K mg base 1 "_law_next" sp__law_next) (D__law_odd_number : DefOk P w K mg base 2 "_law_odd_number" sp__law_odd_number) (D__law_drawn : DefOk P w K mg base 2 "_law_drawn" sp__law_drawn) : FnOk P w K mg base CX0 3 f fd ["_law_state_here"] (lift K sp__law_odd_weight) := by
  refine fn1 (N := ["_law_state_here"]) F sc__law_odd_weight rfl fun cdv A outer s H E hr => ⟨_, (qs_cons (ifS (teqU hr (callU D__law_next hr (by rfl) (qa_cons (vU 0) (qa_cons q_int qa_nil))) q_int) (qs_one (qs_ret (callU D__law_odd_number hr (by rfl) (qa_cons (vU 0) (qa_cons (callU D__law_drawn hr (by rfl) (qa_cons (vU 0) (qa_cons q_int qa_nil))) qa_nil))))) qs_nil)
    (qs_one (qs_ret (ixU (q_lst (qa_cons (q_tup (qa_cons q_int (qa_cons q_int qa_nil))) (qa_cons (q_tup (qa_cons (negU q_int) (qa_cons q_int qa_nil))) (qa_cons (q_tup (qa_cons (negU q_int) (qa_cons q_int qa_nil))) qa_nil)))) (callU D__law_next hr (by rfl) (qa_cons (vU 0) (qa_cons q_int qa_nil))) (fun _ _ => rfl))))), ?_⟩
  rintro _ m Q ⟨p, rfl, hs, q⟩
  refine ⟨p, 2, rfl, rfl, hs, by decide, by decide, fun w m1 hw1 hw2 hs1 => ?_⟩
  refine eqI ?_
  refine br2 (fun h => ?_) (fun h => ?_)
  · refine ⟨p, 9, rfl, rfl, hs1.self, by decide, by decide, fun v m2 hv hs2 => ?_⟩
    have hs2 := hs1.trans hs2
    refine ⟨p, v, rfl, rfl, hs2.self, hv, fun d m3 hd hs3 => ?_⟩
    exact q d m3 ⟨hd.1, by unfold isWtP; rw [hd.2, Bool.false_and]⟩ (hs2.trans hs3)
  · refine ⟨p, 3, rfl, rfl, hs1.self, by decide, by decide, fun u m2 hu1 hu2 hs2 => ?_⟩
    refine ix_pick (P := OdW) rfl ?_ hu1 (by show u < 3; exact hu2) fun d od => q d m2 od (hs1.trans hs2)
    have two : ∀ {a b : Int}, a.natAbs ≤ 10 → b.natAbs ≤ 10 → Pln (.tup [.int a, .int b]) := fun ha hb => plT (by show 2 ≤ 100; decide) (fa_cons (plI (by omega)) (fa_cons (plI (by omega)) fa_nil))
    refine fa_cons ⟨two (by decide) (by decide), rfl⟩ ?_
    refine fa_cons ⟨two (by decide) (by decide), rfl⟩ ?_
    exact fa_cons ⟨two (by decide) (by decide), rfl⟩ fa_nil

abbrev s__law_odd_rung : Stmt := topS 39

theorem sc__law_odd_rung : FnScope ["_law_state_here", "_law_line_here", "_law_pair", "_law_some"] ["_law_state_here", "_law_line_here"] (defScope s__law_odd_rung) := ⟨rfl, rfl, rfl, by decide +kernel, rfl, by decide +kernel, by decide +kernel⟩

theorem mulT {m : M} {Q : Kd} {xs : List D} {k : Int} (h1 : xs ≠ []) (h2 : 1 ≤ k) (h3 : k ≤ 1000) (h4 : xs.length ≤ 1000) (q : Q (.tup (List.replicate k.toNat xs).flatten) m) : oMulU (.tup xs) (.int k) m Q := by
  unfold oMulU; exact ⟨⟨⟨h1, h2, h3, h4⟩, q⟩⟩
def OdR (d : D) : Prop := Pln d ∧ isRgP d = false
theorem rg_bad {x p : D} {ps : List D} (e : resP x = .tup ps) (hp : p ∈ ps) (h : isPrP p = false) : isRgP x = false := by
  rw [rgP_of e]
  have : ps.all isPrP = false := by
    rw [List.all_eq_false]
    exact ⟨p, hp, by rw [h]; decide⟩
  rw [this, Bool.and_false]
theorem pr_w {a b : D} (h : isWtP a = false) : isPrP (.tup [a, b]) = false := by rw [prP_two rfl, h, Bool.false_and]
theorem pr_l {a b : D} (h : isLnP b = false) : isPrP (.tup [a, b]) = false := by rw [prP_two rfl, h, Bool.and_false]

def sp__law_odd_rung : Sp2 := sp2 fun s y m Q => ∃ (p : Addr) (zs : List Str) (ps : List Pf) (c : Fr) (e : Bool), s = .ref p ∧ y = ln13 ps c e ∧ StAt p m m ∧ Fm13 zs ps c ∧ NmsOk zs ∧ zs.length ≤ 6 ∧ ∀ d m', OdR d → StAt p m m' → Q d m'

theorem fn__law_odd_rung {P : Program} {w : World} {K : PySem.W.Frag} {mg : Str → Option Value} {base : Heap} {f : Addr} {fd : FuncData} (F : FunZ K "_law_odd_rung" "_law_odd_rung" s__law_odd_rung f fd) (D__law_next : DefOk P w K mg base 1 "_law_next" sp__law_next) (D__law_odd_weight : DefOk P w K mg base 3 "_law_odd_weight" sp__law_odd_weight) (D__law_odd_line : DefOk P w K mg base 4 "_law_odd_line" sp__law_odd_line) : FnOk P w K mg base CX0 5 f fd ["_law_state_here", "_law_line_here"] (lift K sp__law_odd_rung) := by
  refine fn2 (N := ["_law_state_here", "_law_line_here", "_law_pair", "_law_some"]) F sc__law_odd_rung rfl fun cdv A outer s H E hr => ⟨_, (qs_cons (qs_set (i := 2) sc__law_odd_rung.nd rfl (by first | exact Or.inl rfl | exact Or.inr rfl) (q_tup (qa_cons (q_tup (qa_cons q_int (qa_cons q_int qa_nil))) (qa_cons (vU 1) qa_nil))))
    (qs_cons (qs_set (i := 3) sc__law_odd_rung.nd rfl (by first | exact Or.inl rfl | exact Or.inr rfl) (q_lst (qa_cons (q_lst (qa_cons (vU 2) qa_nil)) (qa_cons (mulU (q_tup (qa_cons (vU 2) qa_nil)) q_int) (qa_cons (q_tup (qa_cons (vU 2) (qa_cons (q_lst (qa_cons (q_tup (qa_cons q_int (qa_cons q_int qa_nil))) (qa_cons (vU 1) qa_nil))) qa_nil))) (qa_cons (q_tup (qa_cons (q_tup (qa_cons (vU 1) (qa_cons (q_tup (qa_cons q_int (qa_cons q_int qa_nil))) qa_nil))) qa_nil)) (qa_cons (q_tup (qa_cons (q_tup (qa_cons q_int (qa_cons q_int qa_nil))) (qa_cons (vU 1) qa_nil))) (qa_cons (q_tup (qa_cons (vU 1) qa_nil)) (qa_cons (q_tup (qa_cons (vU 2) (qa_cons q_non qa_nil))) qa_nil)))))))))
    (qs_cons (qs_set (i := 3) sc__law_odd_rung.nd rfl (by first | exact Or.inl rfl | exact Or.inr rfl) (addU (vU 3) (q_lst (qa_cons (q_tup (qa_cons (vU 2) (qa_cons (q_tup (qa_cons (callU D__law_odd_weight hr (by rfl) (qa_cons (vU 0) qa_nil)) (qa_cons (vU 1) qa_nil))) qa_nil))) (qa_cons (q_tup (qa_cons (q_tup (qa_cons (callU D__law_odd_weight hr (by rfl) (qa_cons (vU 0) qa_nil)) (qa_cons (vU 1) qa_nil))) (qa_cons (vU 2) qa_nil))) (qa_cons q_non (qa_cons q_int (qa_cons q_str (qa_cons q_dnew qa_nil)))))))))
    (qs_cons (qs_set (i := 3) sc__law_odd_rung.nd rfl (by first | exact Or.inl rfl | exact Or.inr rfl) (addU (vU 3) (q_lst (qa_cons (q_tup (qa_cons (vU 2) (qa_cons (q_tup (qa_cons (q_tup (qa_cons q_int (qa_cons q_int qa_nil))) (qa_cons (callU D__law_odd_line hr (by rfl) (qa_cons (vU 0) (qa_cons (vU 1) qa_nil))) qa_nil))) qa_nil))) (qa_cons (q_tup (qa_cons (vU 2) (qa_cons (q_tup (qa_cons (q_tup (qa_cons q_int (qa_cons q_int qa_nil))) qa_nil)) qa_nil))) (qa_cons (q_tup (qa_cons (vU 2) (qa_cons (q_tup (qa_cons (q_tup (qa_cons q_int (qa_cons q_int qa_nil))) (qa_cons (vU 1) (qa_cons (vU 1) qa_nil)))) qa_nil))) qa_nil))))))
    (qs_one (qs_ret (ixU (vU 3) (callU D__law_next hr (by rfl) (qa_cons (vU 0) (qa_cons q_int qa_nil))) (fun _ _ => rfl)))))))), ?_⟩
  rintro _ _ m Q ⟨p, zs, ps, c, e, rfl, rfl, hs, F, N, l6, q⟩
  have hl := pln_ln (e := e) F N l6
  have two : ∀ {a b : D}, Pln a → Pln b → Pln (.tup [a, b]) := fun ha hb => plT (by show 2 ≤ 100; decide) (fa_cons ha (fa_cons hb fa_nil))
  have hone : Pln (.tup [.int 1, .int 1]) := two (plI (by decide)) (plI (by decide))
  have hlw : isWtP (ln13 ps c e) = false := rfl
  refine mulT (by simp) (show (1 : Int) ≤ 17 by decide) (show (17 : Int) ≤ 1000 by decide) (show 1 ≤ 1000 by decide) ?_
  refine ⟨p, rfl, hs, fun w1 m1 hw1 hs1 => ?_⟩
  refine ⟨p, rfl, hs1.self, fun w2 m2 hw2 hs2 => ?_⟩
  have hs2 := hs1.trans hs2
  refine ⟨szN 13, ?_⟩
  refine ⟨p, zs, ps, c, e, rfl, rfl, hs2.self, F, N, l6, fun d3 m3 hd3 hs3 => ?_⟩
  have hs3 := hs2.trans hs3
  refine ⟨szN 16, ?_⟩
  refine ⟨p, 16, rfl, rfl, hs3.self, by decide, by decide, fun u m4 hu1 hu2 hs4 => ?_⟩
  refine ix_pick (P := OdR) rfl ?_ hu1 (by show u < 16; exact hu2) fun d od => q d m4 od (hs3.trans hs4)
  have hp : Pln (.tup [.tup [.int 1, .int 1], ln13 ps c e]) := two hone hl
  have two' : ∀ {a b y : D}, Pln a → Pln b → y ∈ [a, b] → isPrP y = false → OdR (.tup [a, b]) := fun ha hb hy h => ⟨two ha hb, rg_bad rfl hy h⟩
  have sec : ∀ {b : D}, Pln b → isPrP b = false → OdR (.tup [.tup [.tup [.int 1, .int 1], ln13 ps c e], b]) := fun hb h => two' hp hb (List.mem_cons_of_mem _ List.mem_cons_self) h
  refine fa_app (fa_app ?_ ?_) ?_
  · refine fa_cons ⟨plL (by show 1 ≤ 100; decide) (fa_cons hp fa_nil), rfl⟩ ?_
    refine fa_cons ⟨plT (by simp) fun d hd => ?_, ?_⟩ ?_
    · obtain ⟨l, h1, h2⟩ := List.mem_flatten.mp hd
      rw [(List.mem_replicate.mp h1).2] at h2
      rw [List.mem_singleton.mp h2]
      exact hp
    · rw [rgP_of rfl, decide_eq_false (by simp), Bool.false_and]
    refine fa_cons (sec (plL (by show 2 ≤ 100; decide) (fa_cons hone (fa_cons hl fa_nil))) rfl) ?_
    refine fa_cons ⟨plT (by show 1 ≤ 100; decide) (fa_cons (two hl hone) fa_nil), rg_bad rfl List.mem_cons_self (pr_w rfl)⟩ ?_
    refine fa_cons (two' hone hl List.mem_cons_self rfl) ?_
    refine fa_cons ⟨plT (by show 1 ≤ 100; decide) (fa_cons hl fa_nil), rg_bad rfl List.mem_cons_self (pr_w rfl)⟩ ?_
    exact fa_cons (sec .non rfl) fa_nil
  · refine fa_cons (sec (two hw1.1 hl) (pr_w hw1.2)) ?_
    refine fa_cons (two' (two hw2.1 hl) hp List.mem_cons_self (pr_w hw2.2)) ?_
    refine fa_cons ⟨.non, rfl⟩ ?_
    refine fa_cons ⟨plI (by decide), rfl⟩ ?_
    refine fa_cons ⟨okl13 (by decide) (by decide), rfl⟩ ?_
    exact fa_cons ⟨.dic _ _, rfl⟩ fa_nil
  · refine fa_cons (sec (two hone hd3.1) (pr_l hd3.2)) ?_
    refine fa_cons (sec (plT (by show 1 ≤ 100; decide) (fa_cons hone fa_nil)) rfl) ?_
    exact fa_cons (sec (plT (by show 3 ≤ 100; decide) (fa_cons hone (fa_cons hl (fa_cons hl fa_nil)))) rfl) fa_nil

abbrev s__law_odd_wish : Stmt := topS 40

theorem sc__law_odd_wish : FnScope ["_law_state_here", "_law_line_here", "_law_word", "_law_kind", "_law_some"] ["_law_state_here", "_law_line_here"] (defScope s__law_odd_wish) := ⟨rfl, rfl, rfl, by decide +kernel, rfl, by decide +kernel, by decide +kernel⟩

def OdS (d : D) : Prop := Pln d ∧ isWsP d = false
def WdS (d : D) : Prop := Pln d ∧ isOf sts13 d = false
def KdS (d : D) : Prop := Pln d ∧ isOf sts13 d = true ∧ isWsP d = false
theorem ws_k {a b c : D} (h : isOf sts13 a = false) : isWsP (.tup [a, b, c]) = false := by rw [wsP_three rfl, h, Bool.false_and]
theorem ws_w {a b c : D} (h : isWtP b = false) : isWsP (.tup [a, b, c]) = false := by rw [wsP_three rfl, h, Bool.false_and, Bool.and_false]
theorem ws_l {a b c : D} (h : isLnP c = false) : isWsP (.tup [a, b, c]) = false := by rw [wsP_three rfl, h, Bool.false_and, Bool.and_false, Bool.and_false]
theorem ws_m {a b c : D} (h1 : isOf ["must"] a = true) (h2 : eqD (resP b) (.tup [.int 1, .int 1]) = false) : isWsP (.tup [a, b, c]) = false := by
  rw [wsP_three rfl, h1, h2]
  simp

def sp__law_odd_wish : Sp2 := sp2 fun s y m Q => ∃ (p : Addr) (zs : List Str) (ps : List Pf) (c : Fr) (e : Bool), s = .ref p ∧ y = ln13 ps c e ∧ StAt p m m ∧ Fm13 zs ps c ∧ NmsOk zs ∧ zs.length ≤ 6 ∧ ∀ d m', OdS d → StAt p m m' → Q d m'

theorem fn__law_odd_wish {P : Program} {w : World} {K : PySem.W.Frag} {mg : Str → Option Value} {base : Heap} {f : Addr} {fd : FuncData} (F : FunZ K "_law_odd_wish" "_law_odd_wish" s__law_odd_wish f fd) (D__law_next : DefOk P w K mg base 1 "_law_next" sp__law_next) (D__law_odd_weight : DefOk P w K mg base 3 "_law_odd_weight" sp__law_odd_weight) (D__law_odd_line : DefOk P w K mg base 4 "_law_odd_line" sp__law_odd_line) : FnOk P w K mg base CX0 5 f fd ["_law_state_here", "_law_line_here"] (lift K sp__law_odd_wish) := by
  refine fn2 (N := ["_law_state_here", "_law_line_here", "_law_word", "_law_kind", "_law_some"]) F sc__law_odd_wish rfl fun cdv A outer s H E hr => ⟨_, (qs_cons (qs_set (i := 2) sc__law_odd_wish.nd rfl (by first | exact Or.inl rfl | exact Or.inr rfl) (ixU (q_lst (qa_cons q_str (qa_cons q_str (qa_cons q_non (qa_cons q_str (qa_cons q_str (qa_cons q_int (qa_cons (q_tup (qa_cons q_str qa_nil)) (qa_cons q_str (qa_cons (q_lst (qa_cons q_str qa_nil)) (qa_cons q_dnew qa_nil))))))))))) (callU D__law_next hr (by rfl) (qa_cons (vU 0) (qa_cons q_int qa_nil))) (fun _ _ => rfl)))
    (qs_cons (qs_set (i := 3) sc__law_odd_wish.nd rfl (by first | exact Or.inl rfl | exact Or.inr rfl) (ixU (q_lst (qa_cons q_str (qa_cons q_str (qa_cons q_str qa_nil)))) (callU D__law_next hr (by rfl) (qa_cons (vU 0) (qa_cons q_int qa_nil))) (fun _ _ => rfl)))
    (qs_cons (qs_set (i := 4) sc__law_odd_wish.nd rfl (by first | exact Or.inl rfl | exact Or.inr rfl) (q_lst (qa_cons (q_tup (qa_cons (vU 2) (qa_cons (q_tup (qa_cons q_int (qa_cons q_int qa_nil))) (qa_cons (vU 1) qa_nil)))) (qa_cons (q_tup (qa_cons q_str (qa_cons (q_tup (qa_cons q_int (qa_cons q_int qa_nil))) (qa_cons (vU 1) qa_nil)))) (qa_cons (q_tup (qa_cons q_str (qa_cons (q_tup (qa_cons q_int (qa_cons q_int qa_nil))) (qa_cons (vU 1) qa_nil)))) (qa_cons (q_tup (qa_cons (vU 3) (qa_cons (callU D__law_odd_weight hr (by rfl) (qa_cons (vU 0) qa_nil)) (qa_cons (vU 1) qa_nil)))) qa_nil))))))
    (qs_cons (qs_set (i := 4) sc__law_odd_wish.nd rfl (by first | exact Or.inl rfl | exact Or.inr rfl) (addU (vU 4) (q_lst (qa_cons (q_tup (qa_cons (vU 3) (qa_cons (q_tup (qa_cons q_int (qa_cons q_int qa_nil))) (qa_cons (callU D__law_odd_line hr (by rfl) (qa_cons (vU 0) (qa_cons (vU 1) qa_nil))) qa_nil)))) (qa_cons (q_lst (qa_cons (vU 3) (qa_cons (q_tup (qa_cons q_int (qa_cons q_int qa_nil))) (qa_cons (vU 1) qa_nil)))) (qa_cons (q_tup (qa_cons (vU 3) (qa_cons (vU 1) qa_nil))) (qa_cons (q_tup (qa_cons (vU 3) (qa_cons (q_tup (qa_cons q_int (qa_cons q_int qa_nil))) qa_nil))) qa_nil)))))))
    (qs_cons (qs_set (i := 4) sc__law_odd_wish.nd rfl (by first | exact Or.inl rfl | exact Or.inr rfl) (addU (vU 4) (q_lst (qa_cons (q_tup (qa_cons (vU 3) (qa_cons (vU 1) (qa_cons (q_tup (qa_cons q_int (qa_cons q_int qa_nil))) qa_nil)))) (qa_cons (q_tup (qa_cons (vU 3) (qa_cons (q_tup (qa_cons q_int (qa_cons q_int qa_nil))) (qa_cons (vU 1) (qa_cons (vU 1) qa_nil))))) (qa_cons q_non (qa_cons q_int (qa_cons (vU 3) (qa_cons (q_tup qa_nil) (qa_cons q_dnew qa_nil))))))))))
    (qs_one (qs_ret (ixU (vU 4) (callU D__law_next hr (by rfl) (qa_cons (vU 0) (qa_cons q_int qa_nil))) (fun _ _ => rfl))))))))), ?_⟩
  rintro _ _ m Q ⟨p, zs, ps, c, e, rfl, rfl, hs, F, N, l6, q⟩
  have hl := pln_ln (e := e) F N l6
  have two : ∀ {a b : D}, Pln a → Pln b → Pln (.tup [a, b]) := fun ha hb => plT (by show 2 ≤ 100; decide) (fa_cons ha (fa_cons hb fa_nil))
  have thr : ∀ {a b c : D}, Pln a → Pln b → Pln c → Pln (.tup [a, b, c]) := fun ha hb hc => plT (by show 3 ≤ 100; decide) (fa_cons ha (fa_cons hb (fa_cons hc fa_nil)))
  have num : ∀ {a b : Int}, a.natAbs ≤ 10 → b.natAbs ≤ 10 → Pln (.tup [.int a, .int b]) := fun ha hb => two (plI (by omega)) (plI (by omega))
  have hone : Pln (.tup [.int 1, .int 1]) := num (by decide) (by decide)
  have hmust : Pln (.str (Str.ofString "must")) := okl13 (by decide) (by decide)
  refine ⟨p, 10, rfl, rfl, hs, by decide, by decide, fun w1 m1 hw1 hw2 hs1 => ?_⟩
  refine ix_pick (P := WdS) rfl ?_ hw1 (by show w1 < 10; exact hw2) fun word hword => ?_
  · refine fa_cons ⟨okl13 (by decide) (by decide), by decide⟩ ?_
    refine fa_cons ⟨okl13 (by decide) (by decide), by decide⟩ ?_
    refine fa_cons ⟨.non, rfl⟩ ?_
    refine fa_cons ⟨okl13 (by decide) (by decide), by decide⟩ ?_
    refine fa_cons ⟨okl13 (by decide) (by decide), by decide⟩ ?_
    refine fa_cons ⟨plI (by decide), rfl⟩ ?_
    refine fa_cons ⟨plT (by show 1 ≤ 100; decide) (fa_cons hmust fa_nil), rfl⟩ ?_
    refine fa_cons ⟨okl13 (by decide) (by decide), by decide⟩ ?_
    refine fa_cons ⟨plL (by show 1 ≤ 100; decide) (fa_cons hmust fa_nil), rfl⟩ ?_
    exact fa_cons ⟨.dic _ _, rfl⟩ fa_nil
  refine ⟨p, 3, rfl, rfl, hs1.self, by decide, by decide, fun w2 m2 hw21 hw22 hs2 => ?_⟩
  have hs2 := hs1.trans hs2
  refine ix_pick (P := KdS) rfl ?_ hw21 (by show w2 < 3; exact hw22) fun kind hkind => ?_
  · refine fa_cons ⟨hmust, by decide, rfl⟩ ?_
    refine fa_cons ⟨okl13 (by decide) (by decide), by decide, rfl⟩ ?_
    exact fa_cons ⟨okl13 (by decide) (by decide), by decide, rfl⟩ fa_nil
  refine ⟨p, rfl, hs2.self, fun w3 m3 hw3 hs3 => ?_⟩
  have hs3 := hs2.trans hs3
  refine ⟨p, zs, ps, c, e, rfl, rfl, hs3.self, F, N, l6, fun d4 m4 hd4 hs4 => ?_⟩
  have hs4 := hs3.trans hs4
  refine ⟨szN 8, ?_⟩
  refine ⟨szN 15, ?_⟩
  refine ⟨p, 15, rfl, rfl, hs4.self, by decide, by decide, fun u m5 hu1 hu2 hs5 => ?_⟩
  refine ix_pick (P := OdS) rfl ?_ hu1 (by show u < 15; exact hu2) fun d od => q d m5 od (hs4.trans hs5)
  have hlw : isWtP (ln13 ps c e) = false := rfl
  have hol : isLnP (.tup [.int 1, .int 1]) = false := rfl
  refine fa_app (fa_app ?_ ?_) ?_
  · refine fa_cons ⟨thr hword.1 hone hl, ws_k hword.2⟩ ?_
    refine fa_cons ⟨thr hmust (num (by decide) (by decide)) hl, ws_m (by decide) (by decide)⟩ ?_
    refine fa_cons ⟨thr hmust (num (by decide) (by decide)) hl, ws_m (by decide) (by decide)⟩ ?_
    exact fa_cons ⟨thr hkind.1 hw3.1 hl, ws_w hw3.2⟩ fa_nil
  · refine fa_cons ⟨thr hkind.1 hone hd4.1, ws_l hd4.2⟩ ?_
    refine fa_cons ⟨plL (by show 3 ≤ 100; decide) (fa_cons hkind.1 (fa_cons hone (fa_cons hl fa_nil))), rfl⟩ ?_
    refine fa_cons ⟨two hkind.1 hl, rfl⟩ ?_
    exact fa_cons ⟨two hkind.1 hone, rfl⟩ fa_nil
  · refine fa_cons ⟨thr hkind.1 hl hone, ws_w hlw⟩ ?_
    refine fa_cons ⟨plT (by show 4 ≤ 100; decide) (fa_cons hkind.1 (fa_cons hone (fa_cons hl (fa_cons hl fa_nil)))), rfl⟩ ?_
    refine fa_cons ⟨.non, rfl⟩ ?_
    refine fa_cons ⟨plI (by decide), rfl⟩ ?_
    refine fa_cons ⟨hkind.1, hkind.2.2⟩ ?_
    refine fa_cons ⟨plT (by show 0 ≤ 100; decide) fa_nil, rfl⟩ ?_
    exact fa_cons ⟨.dic _ _, rfl⟩ fa_nil

abbrev s__law_is_number : Stmt := topS 41

theorem sc__law_is_number : FnScope ["_law_whole", "_law_one"] ["_law_whole"] (defScope s__law_is_number) := ⟨rfl, rfl, rfl, by decide +kernel, rfl, by decide +kernel, by decide +kernel⟩


theorem tyP_int {x : D} (h : tyP x = .int) : ∃ i, x = .int i := by cases x <;> first | exact ⟨_, rfl⟩ | cases h
def sp__law_is_number : Sp2 := sp1 fun d m Q => Pln d ∧ Q (.bl (isNumD (resP d))) m

theorem fn__law_is_number {P : Program} {w : World} {K : PySem.W.Frag} {mg : Str → Option Value} {base : Heap} {f : Addr} {fd : FuncData} (F : FunZ K "_law_is_number" "_law_is_number" s__law_is_number f fd) (D__law_made : DefOk P w K mg base 1 "_law_made" sp__law_made) (mg_isinstance : mg "isinstance" = none) (mg_tuple : mg "tuple" = none) (mg_len : mg "len" = none) (mg_bool : mg "bool" = none) (mg_int : mg "int" = none) : FnOk P w K mg base CX0 2 f fd ["_law_whole"] (lift K sp__law_is_number) := by
  refine fn1 (N := ["_law_whole", "_law_one"]) F sc__law_is_number rfl fun cdv A outer s H E hr => ⟨_, (qs_cons (ifS (PW2.pt (orW (qt_not (testV (isiB .tup (by decide) (by rfl) mg_isinstance (vU 0) (tyU (by rfl) mg_tuple bt_tuple)))) (qw_or1 (tneU hr (lenU (by rfl) mg_len (qa_cons (vU 0) qa_nil)) q_int)))) (qs_one (qs_ret q_bl)) qs_nil)
    (qs_cons (ifS (PW2.pt (orW (tneNil hr (q_lc (own := [("_law_one", 1)]) rfl sc__law_is_number.nd (seqU (vU 0)) (blkOk_by (N := ["_law_whole", "_law_one"]) (sc := defScope s__law_is_number) (by decide +kernel)) (fun _ _ _ _ _ => (qgc_name (i := 1) sc__law_is_number.nd rfl (by first | exact Or.inl rfl | exact Or.inr rfl) (by decide))) (fun _ _ _ _ _ => (qts_one (PW2.pt (orW (qt_not (testV (isiB .int (by decide) (by rfl) mg_isinstance (vU 1) (tyU (by rfl) mg_int bt_int)))) (qw_or1 (testV (isiB .bl (by decide) (by rfl) mg_isinstance (vU 1) (tyU (by rfl) mg_bool bt_bool)))))))) (fun _ _ _ _ _ => (vU 1))) (q_lst qa_nil)) (qw_or1 (tltU (ixU (vU 0) q_int (fun _ _ => rfl)) q_int)))) (qs_one (qs_ret q_bl)) qs_nil)
    (qs_one (qs_ret (q_eq hr (callU D__law_made hr (by rfl) (qa_cons (ixU (vU 0) q_int (fun _ _ => rfl)) (qa_cons (ixU (vU 0) q_int (fun _ _ => rfl)) qa_nil))) (vU 0)))))), ?_⟩
  rintro d m Q ⟨hd, q⟩
  have hr : res m d = resP d := hd.res
  refine isiK_of hd.ty ?_
  refine br2 (fun h => ?_) (fun h => ?_)
  · have e0 : isNumD (resP d) = false := by rw [← hr]; exact isNumD_not_tup hd.ty fun z => by rw [z] at h; exact absurd h (by decide)
    rw [e0] at q
    exact brt q
  · have et : tyP d = .tup := by cases e : tyP d <;> rw [e] at h <;> first | rfl | exact absurd h (by decide)
    obtain ⟨ds, e'⟩ := tyP_tup et
    have e2 : res m d = .tup ds := hr.trans e'
    rw [e'] at q
    obtain ⟨hl, hp⟩ := hd.sub e'
    refine kLen_tup e2 ?_
    refine neI ?_
    refine br2 (fun h => ?_) (fun h => ?_)
    · have h : ds.length ≠ 2 := by simp at h; omega
      rw [isNumD_len h] at q
      exact q
    · have h : ds.length = 2 := by simp at h; omega
      obtain ⟨x, y, rfl⟩ := two_of h
      have hx := hp x (by simp)
      have hy := hp y (by simp)
      refine seqK_tup e2 ?_
      refine lc_genA [x, y] id rfl (fun a => [some d, some a]) (fun a => !decide (tyP a = .int)) id (szN 2) (fun _ _ => trivial) (fun a _ mm _ k hk => hk) (fun a ha mm _ k hk => ?_) (fun a _ _ mm _ k hk => hk) ?_
      · refine isiK_of (hp a ha).ty ?_
        refine br2 (fun h => ?_) (fun h => ?_)
        · have : tyP a ≠ .int := fun z => by rw [z] at h; exact absurd h (by decide)
          rw [decide_eq_false this] at hk
          exact hk
        · refine isiK_of (hp a ha).ty ?_
          cases e : tyP a <;> rw [e] at h hk <;> first | exact hk | exact absurd h (by decide)
      by_cases hb : tyP x = .int ∧ tyP y = .int
      · obtain ⟨i, rfl⟩ := tyP_int hb.1
        obtain ⟨j, rfl⟩ := tyP_int hb.2
        refine neNil_of rfl ?_
        refine brf ?_
        refine ix_t e2 (d := .int j) rfl ?_
        refine br2 (fun h => ?_) (fun h => ?_)
        · have h := of_decide_eq_true h
          have e0 : isNumD (.tup [.int i, .int j]) = false := by
            show (decide (0 < j) && decide (Int.gcd i j = 1)) = false
            rw [decide_eq_false (by omega), Bool.false_and]
          rw [e0] at q
          exact q
        · have h := of_decide_eq_false h
          have hjl : j.natAbs.log2 < 9000 := by cases hy with | int h => exact lg9 (k := 4000) h
          refine ix_t e2 (d := .int i) rfl ?_
          refine ix_t e2 (d := .int j) rfl ?_
          refine ⟨i, j, rfl, rfl, by omega, hjl, ?_⟩
          rw [if_neg (by omega)]
          refine eq_of (b := isNumD (.tup [.int i, .int j])) rfl (by rw [e2]; rfl) ?_ q
          rw [e2]
          show eqD (.tup [.int (i / Int.gcd i j), .int (j / Int.gcd i j)]) _ = _
          rw [eqD_pair, low_is (by omega)]
          show _ = (decide (0 < j) && decide (Int.gcd i j = 1))
          rw [decide_eq_true (by omega : 0 < j), Bool.true_and]
      · have e0 : isNumD (.tup [x, y]) = false := by
          cases z : isNumD (.tup [x, y]) with
          | false => rfl
          | true =>
            obtain ⟨i, j, e2, _⟩ := isNumD_two z
            cases e2
            exact absurd ⟨rfl, rfl⟩ hb
        rw [e0] at q
        have : ∃ z r, ([x, y].filter fun a => !decide (tyP a = .int)).map id = z :: r := by
          cases e : ([x, y].filter fun a => !decide (tyP a = .int)) with
          | cons z r => exact ⟨z, r.map id, rfl⟩
          | nil =>
            rw [List.filter_eq_nil_iff] at e
            have h1 := e x (by simp)
            have h2 := e y (by simp)
            refine absurd ⟨?_, ?_⟩ hb
            · simpa using h1
            · simpa using h2
        obtain ⟨z, r, e⟩ := this
        rw [e]
        refine neNil_of rfl ?_
        exact brt (brt q)

abbrev s__law_is_name : Stmt := topS 42

theorem sc__law_is_name : FnScope ["_law_whole", "_law_kept", "_law_sign"] ["_law_whole"] (defScope s__law_is_name) := ⟨rfl, rfl, rfl, by decide +kernel, rfl, by decide +kernel, by decide +kernel⟩

theorem fil_nil {α : Type} {f : α → D} {xs : List α} {p : α → Bool} : eqD (.lst ((xs.filter p).map f)) (.lst []) = xs.all fun x => !p x := by
  cases e : xs.filter p with
  | nil =>
    rw [List.filter_eq_nil_iff] at e
    exact (List.all_eq_true.mpr fun x hx => by have := e x hx; simpa using this).symm
  | cons y r =>
    have hy : y ∈ xs.filter p := by rw [e]; exact List.mem_cons_self
    have hy := List.mem_filter.mp hy
    exact (List.all_eq_false.mpr ⟨y, hy.1, by rw [hy.2]; decide⟩).symm

def sp__law_is_name : Sp2 := sp1 fun x m Q => Pln x ∧ Q (.bl (isNmD x)) m

theorem fn__law_is_name {P : Program} {w : World} {K : PySem.W.Frag} {mg : Str → Option Value} {base : Heap} {f : Addr} {fd : FuncData} (F : FunZ K "_law_is_name" "_law_is_name" s__law_is_name f fd) (mg_isinstance : mg "isinstance" = none) (mg_str : mg "str" = none) (mg_len : mg "len" = none) : FnOk P w K mg base CX0 1 f fd ["_law_whole"] (lift K sp__law_is_name) := by
  refine fn1 (N := ["_law_whole", "_law_kept", "_law_sign"]) F sc__law_is_name rfl fun cdv A outer s H E hr => ⟨_, (qs_cons (qs_set (i := 1) sc__law_is_name.nd rfl (by first | exact Or.inl rfl | exact Or.inr rfl) q_str)
    (qs_cons (ifS (PW2.pt (orW (qt_not (testV (isiB .str (by decide) (by rfl) mg_isinstance (vU 0) (tyU (by rfl) mg_str bt_str)))) (qw_or1 (tinU (vU 0) (m_split1M (addU (vU 1) q_str) q_str) (by with_unfolding_all rfl))))) (qs_one (qs_ret q_bl)) qs_nil)
    (qs_one (qs_ret (andV (chainV op_ltU op_ltU cv_cmp cv_cmp q_int (lenU (by rfl) mg_len (qa_cons (vU 0) qa_nil)) q_int) (q_one (q_eq hr (q_lc (own := [("_law_sign", 2)]) rfl sc__law_is_name.nd (seqU (vU 0)) (blkOk_by (N := ["_law_whole", "_law_kept", "_law_sign"]) (sc := defScope s__law_is_name) (by decide +kernel)) (fun _ _ _ _ _ => (qgc_name (i := 2) sc__law_is_name.nd rfl (by first | exact Or.inl rfl | exact Or.inr rfl) (by decide))) (fun _ _ _ _ _ => (qts_one (tnotInU (vU 2) q_str (by with_unfolding_all rfl)))) (fun _ _ _ _ _ => (vU 2))) (q_lst qa_nil)))))))), ?_⟩
  rintro x m Q ⟨hx, q⟩
  refine isiK_of (t := tyP x) hx.ty ?_
  by_cases ht : tyP x = .str
  rotate_left
  · rw [nmD_not ht] at q
    refine brT ?_ (brt q)
    cases hy : tyP x <;> first | rfl | exact absurd hy ht
  obtain ⟨z, rfl⟩ := strP ht
  have hl : z.length ≤ 1000000 := by cases hx with | str h hl => exact hl
  have q : Q (.bl (isNm z)) m := q
  unfold isNm at q
  refine brF rfl ?_
  refine ⟨Nat.le_trans (by decide +kernel) (szN 200), ?_⟩
  refine splitK_of rfl (Nat.le_trans (by decide +kernel) (szN 200)) ?_
  refine in_f (b := decide (z ∈ keptL)) (ds := keptL.map D.str) (by
    have e : Txt.split (Str.ofString "best by core drag drop end follow gone groups let might missed must no none path range" ++ Str.ofString " redo should show thing to undo wish yes") (Str.ofString " ") = keptL := by decide +kernel
    rw [e]; rfl) rfl (by decide +kernel) inD_dec ?_
  refine br2 (fun h3 => ?_) (fun h3 => ?_)
  · rw [h3, Bool.not_true, Bool.and_false, Bool.false_and] at q
    exact q
  rw [h3, Bool.not_false, Bool.and_true] at q
  have hol : okT z = true := by cases hx with | str h _ => exact h
  refine kLen_str rfl (Nat.le_trans hl (szN 1000000)) ?_
  refine br2 (fun h1 => ?_) (fun h1 => ?_)
  · have h1 : (0 : Int) < z.length := of_decide_eq_true h1
    rw [decide_eq_true (p := 1 ≤ z.length) (by omega), Bool.true_and] at q
    refine br2 (fun h2 => ?_) (fun h2 => ?_)
    · have h2 : (z.length : Int) < 7 := of_decide_eq_true h2
      rw [decide_eq_true (p := z.length ≤ 6) (by omega), Bool.true_and] at q
      refine seqK_str rfl ?_
      refine lc_genA z.cps.toList _ rfl (fun c => [some (.str z), some (.str (Str.ofString "best by core drag drop end follow gone groups let might missed must no none path range")), some (.str ⟨#[c]⟩)]) (fun c => !decide (97 ≤ c ∧ c ≤ 122)) (fun c => .str ⟨#[c]⟩) (by rw [Array.length_toList]; exact Nat.le_trans hl (szN 1000000)) (fun _ _ => trivial) (fun c _ mm _ k hk => hk) (fun c _ mm _ k hk => ?_) (fun c _ _ mm _ k hk => hk) ?_
      · refine notin_sg rfl ?_
        rw [az_iff]
        exact hk
      · have q : Q (.bl (z.cps.toList.all fun c => decide (97 ≤ c ∧ c ≤ 122))) m := q
        have hokz : ∀ c ∈ z.cps.toList, c < 0x110000 := okT_mem hol
        refine eq_of (b := z.cps.toList.all fun c => decide (97 ≤ c ∧ c ≤ 122)) ?_ rfl (by show eqD (.lst ((z.cps.toList.filter fun c => !decide (97 ≤ c ∧ c ≤ 122)).map fun c => .str ⟨#[c]⟩)) (.lst []) = _; rw [fil_nil]; congr 1; funext x; rw [Bool.not_not]) q
        show okDs 59 _ = true
        refine okDs_of fun d hd => ?_
        obtain ⟨c, hc, rfl⟩ := List.mem_map.mp hd
        show okD 59 (.str ⟨#[c]⟩) = true
        have := hokz c (List.mem_filter.mp hc).1
        simp [okD, this]
    · have h2 : ¬ (z.length : Int) < 7 := of_decide_eq_false h2
      rw [decide_eq_false (p := z.length ≤ 6) (by omega), Bool.false_and] at q
      exact q
  · have h1 : ¬ (0 : Int) < z.length := of_decide_eq_false h1
    rw [decide_eq_false (p := 1 ≤ z.length) (by omega), Bool.false_and, Bool.false_and] at q
    exact brf q

abbrev s__law_is_form : Stmt := topS 43

theorem sc__law_is_form : FnScope ["_law_whole", "_law_names_here", "_law_one"] ["_law_whole"] (defScope s__law_is_form) := ⟨rfl, rfl, rfl, by decide +kernel, rfl, by decide +kernel, by decide +kernel⟩

theorem ris_pw : ∀ {zs : List Str}, risL zs = true → zs.Pairwise fun a b => a.cps.toList < b.cps.toList
  | [], _ => .nil
  | [_], _ => List.pairwise_singleton _ _
  | a :: b :: r, h => by
    have h : (decide (a.cps.toList < b.cps.toList) && risL (b :: r)) = true := h
    rw [Bool.and_eq_true] at h
    have h1 := of_decide_eq_true h.1
    have h2 := ris_pw h.2
    refine List.pairwise_cons.mpr ⟨fun c hc => ?_, h2⟩
    rcases List.mem_cons.mp hc with rfl | hc
    · exact h1
    · exact List.lt_trans h1 ((List.pairwise_cons.mp h2).1 c hc)
theorem pw_ris : ∀ {zs : List Str}, (zs.Pairwise fun a b => a.cps.toList < b.cps.toList) → risL zs = true
  | [], _ => rfl
  | [_], _ => rfl
  | a :: b :: r, h => by
    show (decide (a.cps.toList < b.cps.toList) && risL (b :: r)) = true
    rw [pw_ris (List.pairwise_cons.mp h).2, decide_eq_true ((List.pairwise_cons.mp h).1 b List.mem_cons_self)]
    rfl
theorem ris_set {zs ys : List Str} (h1 : sortedS ys = true) (h2 : ys.Nodup) (h3 : ∀ k, k ∈ ys ↔ k ∈ zs) : decide (zs = ys) = risL zs := by
  cases h : risL zs with
  | true =>
    have p1 := ris_pw h
    have p2 := sortedS_lt h1 h2
    have n1 : zs.Nodup := p1.imp fun k e => by rw [e] at k; exact absurd k (List.lt_irrefl _)
    have pm : zs.Perm ys := (List.perm_ext_iff_of_nodup n1 h2).mpr fun k => (h3 k).symm
    exact decide_eq_true (List.Perm.eq_of_pairwise (fun a b _ _ k1 k2 => absurd (List.lt_trans k1 k2) (List.lt_irrefl _)) p1 p2 pm)
  | false =>
    refine decide_eq_false fun e => ?_
    subst e
    rw [pw_ris (sortedS_lt h1 h2)] at h
    cases h
theorem nz_num {b : D} {p : Fr} (e : resP b = nD p) (h : Lo p) : eqD (resP b) (.tup [.int 0, .int 1]) = decide (p.1 = 0) := by
  rw [e]
  show eqD (.tup [.int p.1, .int p.2]) _ = _
  rw [eqD_pair]
  by_cases h0 : p.1 = 0
  · have h2 := h.2
    have h1 := h.1
    rw [h0, Int.gcd_zero_left] at h2
    rw [h0, decide_eq_true (by omega : p.2 = 1)]
    rfl
  · rw [decide_eq_false h0, Bool.false_and]

def sp__law_is_form : Sp2 := sp1 fun x m Q => Pln x ∧ (∀ a b ds, resP x = .tup [a, b] → resP a = .tup ds → ds.length < 64) ∧ Q (.bl (isFmP x)) m

theorem fn__law_is_form {P : Program} {w : World} {K : PySem.W.Frag} {mg : Str → Option Value} {base : Heap} {f : Addr} {fd : FuncData} (F : FunZ K "_law_is_form" "_law_is_form" s__law_is_form f fd) (D__law_is_number : DefOk P w K mg base 2 "_law_is_number" sp__law_is_number) (D__law_is_name : DefOk P w K mg base 1 "_law_is_name" sp__law_is_name) (mg_isinstance : mg "isinstance" = none) (mg_tuple : mg "tuple" = none) (mg_len : mg "len" = none) (mg_sorted : mg "sorted" = none) (mg_set : mg "set" = none) : FnOk P w K mg base CX0 3 f fd ["_law_whole"] (lift K sp__law_is_form) := by
  refine fn1 (N := ["_law_whole", "_law_names_here", "_law_one"]) F sc__law_is_form rfl fun cdv A outer s H E hr => ⟨_, (qs_cons (ifS (PW2.pt (orW (qt_not (testV (isiB .tup (by decide) (by rfl) mg_isinstance (vU 0) (tyU (by rfl) mg_tuple bt_tuple)))) (orW (tneU hr (lenU (by rfl) mg_len (qa_cons (vU 0) qa_nil)) q_int) (qw_or1 (qt_not (testV (isiB .tup (by decide) (by rfl) mg_isinstance (ixU (vU 0) q_int (fun _ _ => rfl)) (tyU (by rfl) mg_tuple bt_tuple)))))))) (qs_one (qs_ret (q_drop q_bl))) qs_nil)
    (qs_cons (qs_set (i := 1) sc__law_is_form.nd rfl (by first | exact Or.inl rfl | exact Or.inr rfl) (q_lstM qa_nil))
    (qs_cons (qs_for PassesOwn.never rfl (seqU (ixU (vU 0) q_int (fun _ _ => rfl))) (qg_name (i := 2) sc__law_is_form.nd rfl (by first | exact Or.inl rfl | exact Or.inr rfl)) (qs_cons (ifS (PW2.pt (orW (qt_not (testV (isiB .tup (by decide) (by rfl) mg_isinstance (vU 2) (tyU (by rfl) mg_tuple bt_tuple)))) (orW (tneU hr (lenU (by rfl) mg_len (qa_cons (vU 2) qa_nil)) q_int) (qw_or1 (qt_not (testV (callU D__law_is_name hr (by rfl) (qa_cons (ixU (vU 2) q_int (fun _ _ => rfl)) qa_nil)))))))) (qs_one (qs_ret (q_drop q_bl))) qs_nil)
    (qs_cons (ifS (PW2.pt (orW (qt_not (testV (callU D__law_is_number hr (by rfl) (qa_cons (ixU (vU 2) q_int (fun _ _ => rfl)) qa_nil)))) (qw_or1 (teqU hr (ixU (ixU (vU 2) q_int (fun _ _ => rfl)) q_int (fun _ _ => rfl)) q_int)))) (qs_one (qs_ret (q_drop q_bl))) qs_nil)
    (qs_one (qs_expr (q_append (vU 1) (ixU (vU 2) q_int (fun _ _ => rfl))))))))
    (qs_one (qs_ret (q_drop (andV (q_eq hr (vU 1) (sortSetSU rfl (by rfl) mg_sorted (by rfl) mg_set (vU 1))) (q_one (callU D__law_is_number hr (by rfl) (qa_cons (ixU (vU 0) q_int (fun _ _ => rfl)) qa_nil)))))))))), ?_⟩
  rintro x m Q ⟨hx, hw, q⟩
  refine isiK_of (t := tyP x) hx.ty ?_
  by_cases ht : tyP x = .tup
  rotate_left
  · rw [fmP_not fun a b ps e => absurd e (tyP_no ht _)] at q
    refine brT ?_ (brt ⟨m, Sub.refl, q⟩)
    cases hy : tyP x <;> first | rfl | exact absurd hy ht
  rw [ht]
  obtain ⟨ds, e⟩ := tyP_tup ht
  obtain ⟨hl, hd⟩ := hx.sub e
  have e' : ∀ m, res m x = .tup ds := fun m => by rw [hx.res, e]
  refine brF rfl ?_
  refine kLen_tup (e' _) ?_
  refine neI ?_
  refine br2 (fun h => ?_) (fun h => ?_)
  · have h : ds.length ≠ 2 := by simp at h; omega
    rw [fmP_not fun a b ps e2 => absurd (by rw [e] at e2; cases e2; rfl) h] at q
    exact brt ⟨m, Sub.refl, q⟩
  · have h : ds.length = 2 := by simp at h; omega
    obtain ⟨a, b, rfl⟩ := two_of h
    have ha : Pln a := hd a (by simp)
    have hb : Pln b := hd b (by simp)
    refine ix_t (e' _) (d := a) rfl ?_
    refine isiK_of (t := tyP a) ha.ty ?_
    by_cases hta : tyP a = .tup
    rotate_left
    · rw [fmP_not fun a' b' ps e2 => by rw [e] at e2; cases e2; exact tyP_no hta _] at q
      refine brT ?_ ⟨m, Sub.refl, q⟩
      cases hy : tyP a <;> first | rfl | exact absurd hy hta
    rw [hta]
    obtain ⟨ps, e2⟩ := tyP_tup hta
    obtain ⟨hpl, hp⟩ := ha.sub e2
    have hwl := hw a b ps e e2
    have e2' : ∀ m, res m a = .tup ps := fun m => by rw [ha.res, e2]
    rw [fmP_two e e2] at q
    refine brF rfl ?_
    intro l hl0
    have up : ∀ c, Sub m (upM m l c) := fun c => Sub.refl.up hl0
    refine ix_t (e' _) (d := a) rfl ?_
    refine seqK_tup (e2' _) ?_
    refine ⟨fun i g m' => m' = upM m l (.lst ((ps.take i).map fun p => D.str (nmOf p))) ∧ (ps.take i).all isPtP = true ∧ ∃ a2 : Option D, g = [some x, some (.ref l), a2], ⟨rfl, rfl, _, rfl⟩, ?_⟩
    rintro i g m' ⟨rfl, hal, a2, rfl⟩
    refine ⟨trivial, fun p hpi => ?_, fun hi => ?_⟩
    · have hpm := List.mem_of_getElem? hpi
      have hpp := hp p hpm
      have no : isPtP p = false → Q (.bl false) m := fun h => by
        have : ps.all isPtP = false := List.all_eq_false.mpr ⟨p, hpm, by rw [h]; decide⟩
        rw [this, Bool.false_and, Bool.and_false] at q
        exact q
      have out : isPtP p = false → ∀ c, ∃ m2, Sub m2 (upM m l c) ∧ Q (.bl false) m2 := fun h c => ⟨m, up c, no h⟩
      refine isiK_of (t := tyP p) hpp.ty ?_
      by_cases htp : tyP p = .tup
      rotate_left
      · refine brT ?_ (brt (out (ptP_not fun a b => tyP_no htp _) _))
        cases hy : tyP p <;> first | rfl | exact absurd hy htp
      rw [htp]
      obtain ⟨es, e3⟩ := tyP_tup htp
      obtain ⟨hel, he⟩ := hpp.sub e3
      have e3' : ∀ m, res m p = .tup es := fun m => by rw [hpp.res, e3]
      refine brF rfl ?_
      refine kLen_tup (e3' _) ?_
      refine neI ?_
      refine br2 (fun h => ?_) (fun h => ?_)
      · have h : es.length ≠ 2 := by simp at h; omega
        exact brt (out (ptP_not fun a b e4 => h (by rw [e3] at e4; cases e4; rfl)) _)
      have h : es.length = 2 := by simp at h; omega
      obtain ⟨u, v, rfl⟩ := two_of h
      have hu : Pln u := he u (by simp)
      have hv : Pln v := he v (by simp)
      refine ix_t (e3' _) (d := u) rfl ?_
      refine ⟨hu, ?_⟩
      refine br2 (fun h1 => ?_) (fun h1 => ?_)
      · exact out (by rw [ptP_two e3, notT h1, Bool.false_and]) _
      have h1 := notF h1
      refine ix_t (e3' _) (d := v) rfl ?_
      refine ⟨hv, ?_⟩
      refine br2 (fun h2 => ?_) (fun h2 => ?_)
      · exact brt (out (by rw [ptP_two e3, notT h2, Bool.false_and, Bool.and_false]) _)
      have h2 := notF h2
      obtain ⟨w, ew, hwo⟩ := numD_of h2
      have ew' : ∀ m, res m v = nD w := fun m => by rw [hv.res, ew]
      refine ix_t (e3' _) (d := v) rfl ?_
      refine ix_t (ew' _) (d := .int w.1) rfl ?_
      refine eqI ?_
      have ep : isPtP p = !decide (w.1 = 0) := by rw [ptP_two e3, h1, h2, nz_num ew hwo, Bool.true_and, Bool.true_and]
      refine br2 (fun h3 => ?_) (fun h3 => ?_)
      · exact out (by rw [ep, h3]; rfl) _
      rw [h3] at ep
      obtain ⟨z, rfl⟩ : ∃ z, u = .str z := by cases u <;> first | exact ⟨_, rfl⟩ | cases h1
      refine ⟨⟨_, congrArg lsD (res_at upM_same)⟩, ?_⟩
      refine ix_t (e3' _) (d := .str z) rfl ?_
      refine ⟨l, _, _, rfl, rfl, upM_same, by rw [List.length_map, List.length_take]; exact Nat.lt_of_lt_of_le (show _ < 100 by omega) (szN 100), ?_⟩
      have hil := (List.getElem?_eq_some_iff.mp hpi).1
      have tk : ps.take (i + 1) = ps.take i ++ [p] := by rw [List.take_add_one, hpi]; rfl
      refine ⟨?_, ?_, _, rfl⟩
      · rw [upM_upM, tk, List.map_append]
        have : nmOf p = z := by unfold nmOf; rw [e3]
        rw [List.map_cons, this]
        rfl
      · rw [tk, List.all_append, hal, List.all_cons, ep]
        rfl
    · have hi : i = ps.length := hi
      subst hi
      rw [List.take_length] at hal ⊢
      rw [hal, Bool.true_and] at q
      have hps := List.all_eq_true.mp hal
      have er : res (upM m l (.lst (ps.map fun p => D.str (nmOf p)))) (.ref l) = .lst ((ps.map nmOf).map D.str) := by rw [res_at upM_same, List.map_map]; rfl
      have hgd : ∀ z ∈ ps.map nmOf, okT z = true := fun z hz => by
        obtain ⟨p, hpm, rfl⟩ := List.mem_map.mp hz
        obtain ⟨z, c, _, e4, hz⟩ := ptP_of (hps p hpm)
        rw [e4]
        exact nm_okT (isNm_iff.mp hz)
      have okl : ∀ zs : List Str, (∀ z ∈ zs, okT z = true) → okD 60 (.lst (zs.map D.str)) = true := fun zs h => okDs_of fun d hd => by
        obtain ⟨z, hz, rfl⟩ := List.mem_map.mp hd
        exact okS (h z hz)
      have pll : ∀ zs : List Str, plD (.lst (zs.map D.str)) = true := fun zs => show plDs _ = true from plDs_iff.mpr fun d hd => by obtain ⟨z, _, rfl⟩ := List.mem_map.mp hd; rfl
      refine sortSetS_of (ps.map nmOf) (by rw [er]; rfl) (by rw [List.length_map]; exact hwl) fun ys h1 h2 h3 => ?_
      refine eq_of (b := risL (ps.map nmOf)) (by rw [er]; exact okl _ hgd) (okl _ fun z hz => hgd z ((h3 z).mp hz)) ?_ ?_
      · rw [er, ← ris_set h1 h2 h3]
        by_cases hys : ps.map nmOf = ys
        · rw [decide_eq_true hys, hys]
          exact eqD_same (pll _)
        · rw [decide_eq_false hys]
          refine eqD_not (pll _) (pll _) fun k => hys ?_
          have k := D.lst.inj k
          exact List.map_inj_right (fun a b h => D.str.inj h) |>.mp k
      refine br2 (fun h4 => ?_) (fun h4 => ?_)
      · rw [h4, Bool.and_true] at q
        refine ix_t (e' _) (d := b) rfl ?_
        refine ⟨hb, ?_⟩
        exact ⟨m, up _, q⟩
      · rw [h4, Bool.and_false] at q
        exact ⟨m, up _, q⟩

abbrev s__law_is_line : Stmt := topS 44

theorem sc__law_is_line : FnScope ["_law_whole"] ["_law_whole"] (defScope s__law_is_line) := ⟨rfl, rfl, rfl, by decide +kernel, rfl, by decide +kernel, by decide +kernel⟩

/-- a plain thing with narrow tuples -/
inductive Pw : D → Prop
  | at {d : D} (h : Pln d) (k : ∀ ds, resP d = .tup ds → ds.length < 64) (s : ∀ ds, resP d = .tup ds → ∀ x ∈ ds, Pw x) : Pw d
theorem Pw.pln {d : D} (h : Pw d) : Pln d := by cases h with | «at» h _ _ => exact h
theorem Pw.lt {d : D} {ds : List D} (h : Pw d) (e : resP d = .tup ds) : ds.length < 64 := by cases h with | «at» _ h _ => exact h ds e
theorem Pw.sub {d : D} {ds : List D} (h : Pw d) (e : resP d = .tup ds) : ∀ x ∈ ds, Pw x := by cases h with | «at» _ _ h => exact h ds e

def sp__law_is_line : Sp2 := sp1 fun x m Q => Pw x ∧ Q (.bl (isLnP x)) m

theorem fn__law_is_line {P : Program} {w : World} {K : PySem.W.Frag} {mg : Str → Option Value} {base : Heap} {f : Addr} {fd : FuncData} (F : FunZ K "_law_is_line" "_law_is_line" s__law_is_line f fd) (D__law_is_form : DefOk P w K mg base 3 "_law_is_form" sp__law_is_form) (mg_isinstance : mg "isinstance" = none) (mg_str : mg "str" = none) (mg_tuple : mg "tuple" = none) (mg_len : mg "len" = none) : FnOk P w K mg base CX0 4 f fd ["_law_whole"] (lift K sp__law_is_line) := by
  refine fn1 (N := ["_law_whole"]) F sc__law_is_line rfl fun cdv A outer s H E hr => ⟨_, (qs_cons (ifS (PW2.pt (orW (qt_not (testV (isiB .tup (by decide) (by rfl) mg_isinstance (vU 0) (tyU (by rfl) mg_tuple bt_tuple)))) (orW (tneU hr (lenU (by rfl) mg_len (qa_cons (vU 0) qa_nil)) q_int) (qw_or1 (qt_not (testV (callU D__law_is_form hr (by rfl) (qa_cons (ixU (vU 0) q_int (fun _ _ => rfl)) qa_nil)))))))) (qs_one (qs_ret q_bl)) qs_nil)
    (qs_one (qs_ret (andV (isiB .str (by decide) (by rfl) mg_isinstance (ixU (vU 0) q_int (fun _ _ => rfl)) (tyU (by rfl) mg_str bt_str)) (q_one (inU (ixU (vU 0) q_int (fun _ _ => rfl)) (q_lst (qa_cons q_str (qa_cons q_str qa_nil))) (by with_unfolding_all rfl))))))), ?_⟩
  rintro x m Q ⟨hw, q⟩
  have hx := hw.pln
  refine isiK_of (t := tyP x) hx.ty ?_
  by_cases ht : tyP x = .tup
  rotate_left
  · rw [lnP_not fun a b => tyP_no ht _] at q
    refine brT ?_ (brt q)
    cases hy : tyP x <;> first | rfl | exact absurd hy ht
  rw [ht]
  obtain ⟨ds, e⟩ := tyP_tup ht
  have hd := hw.sub e
  have e' : ∀ m, res m x = .tup ds := fun m => by rw [hx.res, e]
  refine brF rfl ?_
  refine kLen_tup (e' _) ?_
  refine neI ?_
  refine br2 (fun h => ?_) (fun h => ?_)
  · have h : ds.length ≠ 2 := by simp at h; omega
    rw [lnP_not fun a b e2 => h (by rw [e] at e2; cases e2; rfl)] at q
    exact brt q
  have h : ds.length = 2 := by simp at h; omega
  obtain ⟨a, b, rfl⟩ := two_of h
  have ha := hd a (by simp)
  have hb := hd b (by simp)
  rw [lnP_two e] at q
  refine ix_t (e' _) (d := a) rfl ?_
  refine ⟨ha.pln, fun a1 b1 es e1 e2 => (ha.sub e1 a1 (by simp)).lt e2, ?_⟩
  refine br2 (fun h1 => ?_) (fun h1 => ?_)
  · rw [notT h1, Bool.false_and] at q
    exact q
  rw [notF h1, Bool.true_and] at q
  refine ix_t (e' _) (d := b) rfl ?_
  refine isiK_of (t := tyP b) hb.pln.ty ?_
  by_cases htb : tyP b = .str
  rotate_left
  · rw [isOf_not htb] at q
    refine brF ?_ q
    cases hy : tyP b <;> first | rfl | exact absurd hy htb
  obtain ⟨z, rfl⟩ := strP htb
  refine brT rfl ?_
  refine ix_t (e' _) (d := .str z) rfl ?_
  exact in_f (ds := sgs13.map D.str) rfl rfl (by decide) inD_dec q

abbrev s__law_is_weight : Stmt := topS 45

theorem sc__law_is_weight : FnScope ["_law_whole"] ["_law_whole"] (defScope s__law_is_weight) := ⟨rfl, rfl, rfl, by decide +kernel, rfl, by decide +kernel, by decide +kernel⟩

def sp__law_is_weight : Sp2 := sp1 fun x m Q => Pw x ∧ Q (.bl (isWtP x)) m

theorem fn__law_is_weight {P : Program} {w : World} {K : PySem.W.Frag} {mg : Str → Option Value} {base : Heap} {f : Addr} {fd : FuncData} (F : FunZ K "_law_is_weight" "_law_is_weight" s__law_is_weight f fd) (D__law_is_number : DefOk P w K mg base 2 "_law_is_number" sp__law_is_number) : FnOk P w K mg base CX0 3 f fd ["_law_whole"] (lift K sp__law_is_weight) := by
  refine fn1 (N := ["_law_whole"]) F sc__law_is_weight rfl fun cdv A outer s H E hr => ⟨_, (qs_one (qs_ret (andV (callU D__law_is_number hr (by rfl) (qa_cons (vU 0) qa_nil)) (q_one (gtU (ixU (vU 0) q_int (fun _ _ => rfl)) q_int))))), ?_⟩
  rintro x m Q ⟨hw, q⟩
  have hx := hw.pln
  refine ⟨hx, ?_⟩
  unfold isWtP at q
  refine br2 (fun h => ?_) (fun h => ?_)
  · rw [h, Bool.true_and] at q
    obtain ⟨p, e, hp⟩ := numD_of h
    have e' := hx.res (m := m)
    rw [e] at e'
    unfold posN at q
    rw [e] at q
    refine ix_t e' (d := .int p.1) rfl ?_
    exact q
  · rw [h, Bool.false_and] at q
    exact q

abbrev s__law_is_rung : Stmt := topS 46

theorem sc__law_is_rung : FnScope ["_law_whole", "_law_one"] ["_law_whole"] (defScope s__law_is_rung) := ⟨rfl, rfl, rfl, by decide +kernel, rfl, by decide +kernel, by decide +kernel⟩

def sp__law_is_rung : Sp2 := sp1 fun x m Q => Pw x ∧ Q (.bl (isRgP x)) m

theorem fn__law_is_rung {P : Program} {w : World} {K : PySem.W.Frag} {mg : Str → Option Value} {base : Heap} {f : Addr} {fd : FuncData} (F : FunZ K "_law_is_rung" "_law_is_rung" s__law_is_rung f fd) (D__law_is_weight : DefOk P w K mg base 3 "_law_is_weight" sp__law_is_weight) (D__law_is_line : DefOk P w K mg base 4 "_law_is_line" sp__law_is_line) (mg_isinstance : mg "isinstance" = none) (mg_tuple : mg "tuple" = none) (mg_len : mg "len" = none) : FnOk P w K mg base CX0 5 f fd ["_law_whole"] (lift K sp__law_is_rung) := by
  refine fn1 (N := ["_law_whole", "_law_one"]) F sc__law_is_rung rfl fun cdv A outer s H E hr => ⟨_, (qs_cons (ifS (PW2.pt (orW (qt_not (testV (isiB .tup (by decide) (by rfl) mg_isinstance (vU 0) (tyU (by rfl) mg_tuple bt_tuple)))) (qw_or1 (tgtU (lenU (by rfl) mg_len (qa_cons (vU 0) qa_nil)) q_int)))) (qs_one (qs_ret q_bl)) qs_nil)
    (qs_cons (qs_for PassesOwn.never rfl (seqU (vU 0)) (qg_name (i := 1) sc__law_is_rung.nd rfl (by first | exact Or.inl rfl | exact Or.inr rfl)) (qs_cons (ifS (PW2.pt (orW (qt_not (testV (isiB .tup (by decide) (by rfl) mg_isinstance (vU 1) (tyU (by rfl) mg_tuple bt_tuple)))) (qw_or1 (tneU hr (lenU (by rfl) mg_len (qa_cons (vU 1) qa_nil)) q_int)))) (qs_one (qs_ret q_bl)) qs_nil)
    (qs_one (ifS (PW2.pt (orW (qt_not (testV (callU D__law_is_weight hr (by rfl) (qa_cons (ixU (vU 1) q_int (fun _ _ => rfl)) qa_nil)))) (qw_or1 (qt_not (testV (callU D__law_is_line hr (by rfl) (qa_cons (ixU (vU 1) q_int (fun _ _ => rfl)) qa_nil))))))) (qs_one (qs_ret q_bl)) qs_nil))))
    (qs_one (qs_ret q_bl)))), ?_⟩
  rintro x m Q ⟨hw, q⟩
  have hx := hw.pln
  refine isiK_of (t := tyP x) hx.ty ?_
  by_cases ht : tyP x = .tup
  rotate_left
  · rw [rgP_not (tyP_no ht)] at q
    refine brT ?_ (brt q)
    cases hy : tyP x <;> first | rfl | exact absurd hy ht
  rw [ht]
  obtain ⟨ps, e⟩ := tyP_tup ht
  have hd := hw.sub e
  have e' : ∀ m, res m x = .tup ps := fun m => by rw [hx.res, e]
  rw [rgP_of e] at q
  refine brF rfl ?_
  refine kLen_tup (e' _) ?_
  refine br2 (fun h => ?_) (fun h => ?_)
  · have h := of_decide_eq_true h
    rw [decide_eq_false (p := ps.length ≤ 16) (by omega), Bool.false_and] at q
    exact q
  have h := of_decide_eq_false h
  rw [decide_eq_true (p := ps.length ≤ 16) (by omega), Bool.true_and] at q
  refine seqK_tup (e' _) ?_
  refine ⟨fun i g m' => m' = m ∧ (ps.take i).all isPrP = true ∧ ∃ a2 : Option D, g = [some x, a2], ⟨rfl, rfl, _, rfl⟩, ?_⟩
  rintro i g m' ⟨rfl, hal, a2, rfl⟩
  refine ⟨trivial, fun p hpi => ?_, fun hi => ?_⟩
  · have hpm := List.mem_of_getElem? hpi
    have hpp := hd p hpm
    have no : isPrP p = false → Q (.bl false) m' := fun h => by
      have : ps.all isPrP = false := List.all_eq_false.mpr ⟨p, hpm, by rw [h]; decide⟩
      rw [this] at q
      exact q
    refine isiK_of (t := tyP p) hpp.pln.ty ?_
    by_cases htp : tyP p = .tup
    rotate_left
    · refine brT ?_ (brt (no (prP_not fun a b => tyP_no htp _)))
      cases hy : tyP p <;> first | rfl | exact absurd hy htp
    rw [htp]
    obtain ⟨es, e3⟩ := tyP_tup htp
    have he := hpp.sub e3
    have e3' : ∀ m, res m p = .tup es := fun m => by rw [hpp.pln.res, e3]
    refine brF rfl ?_
    refine kLen_tup (e3' _) ?_
    refine neI ?_
    refine br2 (fun h => ?_) (fun h => ?_)
    · have h : es.length ≠ 2 := by simp at h; omega
      exact no (prP_not fun a b e4 => h (by rw [e3] at e4; cases e4; rfl))
    have h : es.length = 2 := by simp at h; omega
    obtain ⟨u, v, rfl⟩ := two_of h
    refine ix_t (e3' _) (d := u) rfl ?_
    refine ⟨he u (by simp), ?_⟩
    refine br2 (fun h1 => ?_) (fun h1 => ?_)
    · exact brt (no (by rw [prP_two e3, notT h1, Bool.false_and]))
    have h1 := notF h1
    refine ix_t (e3' _) (d := v) rfl ?_
    refine ⟨he v (by simp), ?_⟩
    refine br2 (fun h2 => ?_) (fun h2 => ?_)
    · exact no (by rw [prP_two e3, notT h2, Bool.and_false])
    have h2 := notF h2
    have tk : ps.take (i + 1) = ps.take i ++ [p] := by rw [List.take_add_one, hpi]; rfl
    refine ⟨rfl, ?_, _, rfl⟩
    rw [tk, List.all_append, hal, List.all_cons, prP_two e3, h1, h2]
    rfl
  · have hi : i = ps.length := hi
    subst hi
    rw [List.take_length] at hal
    rw [hal] at q
    exact q

abbrev s__law_is_wish : Stmt := topS 47

theorem sc__law_is_wish : FnScope ["_law_whole"] ["_law_whole"] (defScope s__law_is_wish) := ⟨rfl, rfl, rfl, by decide +kernel, rfl, by decide +kernel, by decide +kernel⟩

def sp__law_is_wish : Sp2 := sp1 fun x m Q => Pw x ∧ Q (.bl (isWsP x)) m

theorem fn__law_is_wish {P : Program} {w : World} {K : PySem.W.Frag} {mg : Str → Option Value} {base : Heap} {f : Addr} {fd : FuncData} (F : FunZ K "_law_is_wish" "_law_is_wish" s__law_is_wish f fd) (D__law_is_weight : DefOk P w K mg base 3 "_law_is_weight" sp__law_is_weight) (D__law_is_line : DefOk P w K mg base 4 "_law_is_line" sp__law_is_line) (mg_isinstance : mg "isinstance" = none) (mg_tuple : mg "tuple" = none) (mg_len : mg "len" = none) (mg_str : mg "str" = none) : FnOk P w K mg base CX0 5 f fd ["_law_whole"] (lift K sp__law_is_wish) := by
  refine fn1 (N := ["_law_whole"]) F sc__law_is_wish rfl fun cdv A outer s H E hr => ⟨_, (qs_cons (ifS (PW2.pt (orW (qt_not (testV (isiB .tup (by decide) (by rfl) mg_isinstance (vU 0) (tyU (by rfl) mg_tuple bt_tuple)))) (orW (tneU hr (lenU (by rfl) mg_len (qa_cons (vU 0) qa_nil)) q_int) (qw_or1 (qt_not (testV (isiB .str (by decide) (by rfl) mg_isinstance (ixU (vU 0) q_int (fun _ _ => rfl)) (tyU (by rfl) mg_str bt_str)))))))) (qs_one (qs_ret q_bl)) qs_nil)
    (qs_cons (ifS (PW2.pt (orW (qt_not (testV (callU D__law_is_weight hr (by rfl) (qa_cons (ixU (vU 0) q_int (fun _ _ => rfl)) qa_nil)))) (qw_or1 (qt_not (testV (callU D__law_is_line hr (by rfl) (qa_cons (ixU (vU 0) q_int (fun _ _ => rfl)) qa_nil))))))) (qs_one (qs_ret q_bl)) qs_nil)
    (qs_one (qs_ret (orV (inU (ixU (vU 0) q_int (fun _ _ => rfl)) (q_lst (qa_cons q_str (qa_cons q_str qa_nil))) (by with_unfolding_all rfl)) (q_one (andV (q_eq hr (ixU (vU 0) q_int (fun _ _ => rfl)) q_str) (q_one (q_eq hr (ixU (vU 0) q_int (fun _ _ => rfl)) (q_tup (qa_cons q_int (qa_cons q_int qa_nil)))))))))))), ?_⟩
  rintro x m Q ⟨hw, q⟩
  have hx := hw.pln
  refine isiK_of (t := tyP x) hx.ty ?_
  by_cases ht : tyP x = .tup
  rotate_left
  · rw [wsP_not fun a b c => tyP_no ht _] at q
    refine brT ?_ (brt q)
    cases hy : tyP x <;> first | rfl | exact absurd hy ht
  rw [ht]
  obtain ⟨ds, e⟩ := tyP_tup ht
  have hd := hw.sub e
  have e' : ∀ m, res m x = .tup ds := fun m => by rw [hx.res, e]
  refine brF rfl ?_
  refine kLen_tup (e' _) ?_
  refine neI ?_
  refine br2 (fun h => ?_) (fun h => ?_)
  · have h : ds.length ≠ 3 := by simp at h; omega
    rw [wsP_not fun a b c e2 => h (by rw [e] at e2; cases e2; rfl)] at q
    exact brt q
  have h : ds.length = 3 := by simp at h; omega
  obtain ⟨a, b, c, rfl⟩ : ∃ a b c, ds = [a, b, c] := by
    match ds, h with
    | [a, b, c], _ => exact ⟨a, b, c, rfl⟩
  have ha := hd a (by simp)
  have hb := hd b (by simp)
  have hc := hd c (by simp)
  rw [wsP_three e] at q
  refine ix_t (e' _) (d := a) rfl ?_
  refine isiK_of (t := tyP a) ha.pln.ty ?_
  by_cases hta : tyP a = .str
  rotate_left
  · rw [isOf_not hta, Bool.false_and] at q
    refine brT ?_ q
    cases hy : tyP a <;> first | rfl | exact absurd hy hta
  obtain ⟨z, rfl⟩ := strP hta
  have hzok : okT z = true := by cases ha.pln with | str h _ => exact h
  refine brF rfl ?_
  refine ix_t (e' _) (d := b) rfl ?_
  refine ⟨hb, ?_⟩
  refine br2 (fun h1 => ?_) (fun h1 => ?_)
  · rw [notT h1, Bool.false_and, Bool.and_false] at q
    exact brt q
  have h1 := notF h1
  refine ix_t (e' _) (d := c) rfl ?_
  refine ⟨hc, ?_⟩
  refine br2 (fun h2 => ?_) (fun h2 => ?_)
  · rw [notT h2, Bool.false_and, Bool.and_false, Bool.and_false] at q
    exact q
  have h2 := notF h2
  rw [h1, h2, Bool.true_and, Bool.true_and] at q
  refine ix_t (e' _) (d := .str z) rfl ?_
  refine in_f (b := decide (z ∈ [Str.ofString "should", Str.ofString "might"])) (ds := [Str.ofString "should", Str.ofString "might"].map D.str) rfl rfl (by decide) inD_dec ?_
  have e1 : isOf sts13 (.str z) = (decide (z ∈ [Str.ofString "should", Str.ofString "might"]) || decide (z = Str.ofString "must")) := by
    show decide (z ∈ _) = _
    rw [← Bool.decide_or]
    refine decide_eq_decide.mpr ?_
    simp only [List.mem_cons, List.not_mem_nil, or_false]
    exact ⟨fun h => by rcases h with h | h | h; exact .inr h; exact .inl (.inl h); exact .inl (.inr h), fun h => by rcases h with (h | h) | h; exact .inr (.inl h); exact .inr (.inr h); exact .inl h⟩
  have em : isOf ["must"] (.str z) = decide (z = Str.ofString "must") := decide_eq_decide.mpr List.mem_singleton
  rw [e1, em] at q
  refine br2 (fun h3 => ?_) (fun h3 => ?_)
  · rw [h3, Bool.true_or, Bool.true_and] at q
    have hne : decide (z = Str.ofString "must") = false := decide_eq_false fun k => by subst k; exact absurd (of_decide_eq_true h3) (by decide)
    rw [hne] at q
    exact q
  rw [h3, Bool.false_or] at q
  refine ix_t (e' _) (d := .str z) rfl ?_
  refine eq_of (b := decide (z = Str.ofString "must")) (okS hzok) (okS (okT_of (by decide))) eqD_str ?_
  refine br2 (fun h4 => ?_) (fun h4 => ?_)
  · rw [h4] at q
    refine ix_t (e' _) (d := b) rfl ?_
    have hn : isNumD (resP b) = true := (Bool.and_eq_true_iff.mp h1).1
    exact eq_of (b := eqD (resP b) (.tup [.int 1, .int 1])) (by rw [hb.pln.res]; exact num_okD hn) rfl (by rw [hb.pln.res]; rfl) q
  · rw [h4, Bool.false_and] at q
    exact q

abbrev s__law_bent : Stmt := topS 48

theorem sc__law_bent : FnScope ["_law_state_here", "_law_whole", "_law_some", "_law_at"] ["_law_state_here", "_law_whole"] (defScope s__law_bent) := ⟨rfl, rfl, rfl, by decide +kernel, rfl, by decide +kernel, by decide +kernel⟩

/-- what is bent: numbers, texts and tuples of such, so deep -/
inductive Rw : Nat → D → Prop
  | int {n : Nat} {i : Int} (h : i.natAbs < 10 ^ 41) : Rw (n + 1) (.int i)
  | str {n : Nat} {z : Str} (h : ∀ c ∈ z.cps.toList, c < 128) (hl : z.length ≤ 100) : Rw (n + 1) (.str z)
  | tup {n : Nat} {ds : List D} (hl : ds.length ≤ 16) (h : ∀ d ∈ ds, Rw n d) : Rw (n + 1) (.tup ds)
theorem pwF {d : D} (h : Pln d) (hn : tyP d ≠ .tup) : Pw d := .at h (fun ds e => absurd e (tyP_no hn ds)) (fun ds e => absurd e (tyP_no hn ds))
theorem pwT {ds : List D} (hl : ds.length < 64) (h : ∀ d ∈ ds, Pw d) : Pw (.tup ds) := .at (plT (by omega) fun d hd => (h d hd).pln) (fun es e => by cases e; exact hl) (fun es e => by cases e; exact h)
theorem pwI {i : Int} (h : i.natAbs < 10 ^ 50) : Pw (.int i) := pwF (plI (Nat.lt_trans h (by decide))) (fun e => nomatch e)
theorem pwS {z : Str} (h : ∀ c ∈ z.cps.toList, c < 128) (hl : z.length ≤ 1000) : Pw (.str z) := pwF (plS (okT_of fun c hc => Nat.lt_trans (h c hc) (by decide)) hl) (fun e => nomatch e)
theorem Rw.pw : ∀ {n : Nat} {d : D}, Rw n d → Pw d
  | _, _, .int h => pwI (Nat.lt_trans h (by decide))
  | _, _, .str h hl => pwS h (by omega)
  | _, _, .tup hl h => pwT (by omega) fun d hd => (h d hd).pw
theorem Rw.okd : ∀ {n : Nat} {d : D} {k : Nat}, Rw n d → n ≤ k → okD k d = true
  | _, _, _, .int h, hk => by rename_i k _ _; cases k <;> rfl
  | _, _, _, .str h hl, hk => by
    rename_i k _ z
    have := okT_of (a := z) fun c hc => Nat.lt_trans (h c hc) (by decide)
    cases k with
    | zero => omega
    | succ k => exact okS this
  | _, _, _, .tup hl h, hk => by
    rename_i k n ds
    cases k with
    | zero => omega
    | succ k =>
      show okDs k ds = true
      exact okDs_of fun d hd => (h d hd).okd (by omega)
theorem cutD_mem {α : Type} {xs : List α} {lo hi : Option Int} {d : α} (h : d ∈ Z.cutD xs lo hi) : d ∈ xs := List.mem_of_mem_drop (List.mem_of_mem_take h)
theorem cutD_le {α : Type} {xs : List α} {lo hi : Option Int} : (Z.cutD xs lo hi).length ≤ xs.length := by
  unfold Z.cutD
  rw [List.length_take, List.length_drop]
  omega
theorem pw_cut {xs : List D} {lo hi : Option Int} (h : ∀ d ∈ xs, Pw d) : ∀ d ∈ Z.cutD xs lo hi, Pw d := fun d hd => h d (cutD_mem hd)
theorem joinIf {T : TT2} {A B R : TS2} {K : Ends2} {g : Sl} {m : M} (P : Bool → M → Prop) (h : ∀ k : Bool → M → Prop, (∀ b m1, P b m1 → k b m1) → T g m k)
    (hk : ∀ b m1, P b m1 → br b (A { K with nx := R K } g m1) (B { K with nx := R K } g m1)) : tSeq2 (tIfSU T A B) R K g m := h _ hk
theorem pw_app {xs ys : List D} (h : ∀ d ∈ xs, Pw d) (t : ∀ d ∈ ys, Pw d) : ∀ d ∈ xs ++ ys, Pw d := fa_app h t
theorem pw_two {xs : List D} (h : ∀ d ∈ xs, Pw d) : ∀ d ∈ (List.replicate (2 : Int).toNat xs).flatten, Pw d := fun d hd => by
  obtain ⟨l, h1, h2⟩ := List.mem_flatten.mp hd
  rw [(List.mem_replicate.mp h1).2] at h2
  exact h d h2
theorem pwL {ds : List D} (hl : ds.length ≤ 100) (h : ∀ d ∈ ds, Pw d) : Pw (.lst ds) := pwF (plL hl fun d hd => (h d hd).pln) (fun e => nomatch e)
theorem some_pw : ∀ d ∈ [D.non, .int 0, .int 1, .int (-1), .bl true, .tup [], .str (Str.ofString ""), .str (Str.ofString "x"), .str (Str.ofString "must"), .str (Str.ofString "should"), .str (Str.ofString "="), .str (Str.ofString "<="), .str (Str.ofString ">="), .tup [.int 0, .int 1], .tup [.int 1, .int 1], .tup [.int 2, .int 1], .tup [.int (-1), .int 2]] ++ [.tup [.int 2, .int 2], .tup [.int 1, .int 0], .dic [] [], .lst [.str (Str.ofString "x")]], Pw d := by
  have i : ∀ {j : Int}, j.natAbs ≤ 10 → Pw (.int j) := fun h => pwI (by omega)
  have p : ∀ {j k : Int}, j.natAbs ≤ 10 → k.natAbs ≤ 10 → Pw (.tup [.int j, .int k]) := fun h h2 => pwT (by show 2 < 64; decide) (fa_cons (i h) (fa_cons (i h2) fa_nil))
  refine fa_app ?_ ?_
  · refine fa_cons (pwF .non (fun e => nomatch e)) ?_
    refine fa_cons (i (by decide)) (fa_cons (i (by decide)) (fa_cons (i (by decide)) ?_))
    refine fa_cons (pwF (.bl _) (fun e => nomatch e)) ?_
    refine fa_cons (pwT (by show 0 < 64; decide) fa_nil) ?_
    refine fa_cons (pwS (by decide) (by decide)) (fa_cons (pwS (by decide) (by decide)) (fa_cons (pwS (by decide) (by decide)) ?_))
    refine fa_cons (pwS (by decide) (by decide)) (fa_cons (pwS (by decide) (by decide)) (fa_cons (pwS (by decide) (by decide)) ?_))
    refine fa_cons (pwS (by decide) (by decide)) ?_
    exact fa_cons (p (by decide) (by decide)) (fa_cons (p (by decide) (by decide)) (fa_cons (p (by decide) (by decide)) (fa_cons (p (by decide) (by decide)) fa_nil)))
  · refine fa_cons (p (by decide) (by decide)) (fa_cons (p (by decide) (by decide)) ?_)
    refine fa_cons (pwF (.dic _ _) (fun e => nomatch e)) ?_
    exact fa_cons (pwL (by show 1 ≤ 100; decide) (fa_cons (pwS (by decide) (by decide)) fa_nil)) fa_nil

def sp__law_bent (n : Nat) : Sp2 := sp2 fun s x m Q => ∃ (p : Addr), s = .ref p ∧ n ≤ 20 ∧ StAt p m m ∧ Rw (n + 1) x ∧ ∀ d m', Pw d → StAt p m m' → Q d m'

def spR__law_bent : Nat → Sp2
  | 0 => fun _ _ _ _ => False
  | n + 1 => sp__law_bent n

theorem fn__law_bent (n : Nat) {P : Program} {w : World} {K : PySem.W.Frag} {mg : Str → Option Value} {base : Heap} {f : Addr} {fd : FuncData} (F : FunZ K "_law_bent" "_law_bent" s__law_bent f fd) (D__law_next : DefOk P w K mg base 1 "_law_next" sp__law_next) (mg_isinstance : mg "isinstance" = none) (mg_tuple : mg "tuple" = none) (mg_int : mg "int" = none) (mg_str : mg "str" = none) (mg_len : mg "len" = none) (mg_list : mg "list" = none) (D__law_bent : DefOk P w K mg base (n + 2) "_law_bent" (spR__law_bent n)) : FnOk P w K mg base CX0 (n + 2 + 1) f fd ["_law_state_here", "_law_whole"] (lift K (sp__law_bent n)) := by
  refine fn2 (N := ["_law_state_here", "_law_whole", "_law_some", "_law_at"]) F sc__law_bent rfl fun cdv A outer s H E hr => ⟨_, (qs_cons (ifS (PW2.pt (andW (testV (isiB .tup (by decide) (by rfl) mg_isinstance (vU 1) (tyU (by rfl) mg_tuple bt_tuple))) (andW (tneU hr (vU 1) (q_tup qa_nil)) (qw_and1 (tgtU (callU (hk := by omega) D__law_next hr (by rfl) (qa_cons (vU 0) (qa_cons q_int qa_nil))) q_int))))) (qs_cons (qs_set (i := 3) sc__law_bent.nd rfl (by first | exact Or.inl rfl | exact Or.inr rfl) (callU (hk := by omega) D__law_next hr (by rfl) (qa_cons (vU 0) (qa_cons (lenU (by rfl) mg_len (qa_cons (vU 1) qa_nil)) qa_nil))))
    (qs_one (qs_ret (addTU (addTU (slU (vU 1) qo_none (poU (vU 3))) (q_tup (qa_cons (callU (hk := by omega) D__law_bent hr (by rfl) (qa_cons (vU 0) (qa_cons (ixU (vU 1) (vU 3) (fun _ _ => rfl)) qa_nil))) qa_nil))) (slU (vU 1) (poU (addU (vU 3) q_int)) qo_none))))) qs_nil)
    (qs_cons (qs_set (i := 2) sc__law_bent.nd rfl (by first | exact Or.inl rfl | exact Or.inr rfl) (q_lst (qa_cons q_non (qa_cons q_int (qa_cons q_int (qa_cons (negU q_int) (qa_cons q_bl (qa_cons (q_tup qa_nil) (qa_cons q_str (qa_cons q_str (qa_cons q_str (qa_cons q_str (qa_cons q_str (qa_cons q_str (qa_cons q_str (qa_cons (q_tup (qa_cons q_int (qa_cons q_int qa_nil))) (qa_cons (q_tup (qa_cons q_int (qa_cons q_int qa_nil))) (qa_cons (q_tup (qa_cons q_int (qa_cons q_int qa_nil))) (qa_cons (q_tup (qa_cons (negU q_int) (qa_cons q_int qa_nil))) qa_nil)))))))))))))))))))
    (qs_cons (qs_set (i := 2) sc__law_bent.nd rfl (by first | exact Or.inl rfl | exact Or.inr rfl) (addU (vU 2) (q_lst (qa_cons (q_tup (qa_cons q_int (qa_cons q_int qa_nil))) (qa_cons (q_tup (qa_cons q_int (qa_cons q_int qa_nil))) (qa_cons q_dnew (qa_cons (q_lst (qa_cons q_str qa_nil)) qa_nil)))))))
    (qs_cons (ifS (testV (isiB .tup (by decide) (by rfl) mg_isinstance (vU 1) (tyU (by rfl) mg_tuple bt_tuple))) (qs_cons (qs_set (i := 3) sc__law_bent.nd rfl (by first | exact Or.inl rfl | exact Or.inr rfl) (callU (hk := by omega) D__law_next hr (by rfl) (qa_cons (vU 0) (qa_cons (addU (lenU (by rfl) mg_len (qa_cons (vU 1) qa_nil)) q_int) qa_nil))))
    (qs_cons (qs_set (i := 2) sc__law_bent.nd rfl (by first | exact Or.inl rfl | exact Or.inr rfl) (addU (vU 2) (q_lst (qa_cons (listU (by rfl) mg_list (qa_cons (vU 1) qa_nil)) (qa_cons (addTU (slU (vU 1) qo_none (poU (vU 3))) (slU (vU 1) (poU (addU (vU 3) q_int)) qo_none)) (qa_cons (addTU (slU (vU 1) qo_none (poU (vU 3))) (slU (vU 1) (poU (subU (vU 3) q_int)) qo_none)) qa_nil))))))
    (qs_cons (qs_set (i := 2) sc__law_bent.nd rfl (by first | exact Or.inl rfl | exact Or.inr rfl) (addU (vU 2) (q_lst (qa_cons (revTU (vU 1)) (qa_cons (q_tup (qa_cons (vU 1) qa_nil)) qa_nil)))))
    (qs_one (qs_set (i := 2) sc__law_bent.nd rfl (by first | exact Or.inl rfl | exact Or.inr rfl) (addU (vU 2) (q_lst (qa_cons (slU (vU 1) (poU q_int) qo_none) (qa_cons (slU (vU 1) qo_none (poU (negU q_int))) (qa_cons (addTU (vU 1) (vU 1)) (qa_cons (addTU (vU 1) (q_tup (qa_cons q_non qa_nil))) (qa_cons (addTU (slU (vU 1) (poU (vU 3)) qo_none) (slU (vU 1) qo_none (poU (vU 3)))) qa_nil)))))))))))) qs_nil)
    (qs_cons (ifS (testV (isiB .int (by decide) (by rfl) mg_isinstance (vU 1) (tyU (by rfl) mg_int bt_int))) (qs_cons (qs_set (i := 2) sc__law_bent.nd rfl (by first | exact Or.inl rfl | exact Or.inr rfl) (addU (vU 2) (mulU (q_lst (qa_cons (addU (vU 1) q_int) (qa_cons (subU (vU 1) q_int) (qa_cons (subU q_int (vU 1)) (qa_cons (mulU (vU 1) q_int) qa_nil))))) q_int)))
    (qs_one (qs_set (i := 2) sc__law_bent.nd rfl (by first | exact Or.inl rfl | exact Or.inr rfl) (addU (vU 2) (mulU (q_lst (qa_cons (divU (vU 1) q_int) (qa_cons (strU (by rfl) mg_str (qa_cons (vU 1) qa_nil)) (qa_cons (q_tup (qa_cons (vU 1) qa_nil)) qa_nil)))) q_int))))) qs_nil)
    (qs_cons (ifS (testV (isiB .str (by decide) (by rfl) mg_isinstance (vU 1) (tyU (by rfl) mg_str bt_str))) (qs_cons (qs_set (i := 2) sc__law_bent.nd rfl (by first | exact Or.inl rfl | exact Or.inr rfl) (addU (vU 2) (mulU (q_lst (qa_cons (addU (vU 1) q_str) (qa_cons (slU (vU 1) (poU q_int) qo_none) (qa_cons (slU (vU 1) qo_none (poU (negU q_int))) (qa_cons (addU (vU 1) (vU 1)) qa_nil))))) q_int)))
    (qs_one (qs_set (i := 2) sc__law_bent.nd rfl (by first | exact Or.inl rfl | exact Or.inr rfl) (addU (vU 2) (mulU (q_lst (qa_cons (revSU (vU 1)) (qa_cons (addU (vU 1) q_str) (qa_cons (m_upper0M (vU 1)) qa_nil)))) q_int))))) qs_nil)
    (qs_one (qs_ret (ixU (vU 2) (callU (hk := by omega) D__law_next hr (by rfl) (qa_cons (vU 0) (qa_cons (lenU (by rfl) mg_len (qa_cons (vU 2) qa_nil)) qa_nil))) (fun _ _ => rfl)))))))))), ?_⟩
  rintro _ x m Q ⟨p, rfl, hn, hs, hx, q⟩
  have hxw := hx.pw
  refine joinIf (fun b m1 => StAt p m m1 ∧ (b = true → ∃ ds, x = .tup ds ∧ ds ≠ [])) (fun k hk => ?_) (fun b m1 ⟨hs1, hb⟩ => ?_)
  · refine isiK_of (t := tyP x) hxw.pln.ty ?_
    cases hx with
    | int h => exact brF rfl (hk _ _ ⟨hs, fun e => (by cases e)⟩)
    | str h hl => exact brF rfl (hk _ _ ⟨hs, fun e => (by cases e)⟩)
    | tup hl h =>
      rename_i ds
      refine brT rfl ?_
      have hok : okD 60 (.tup ds) = true := (Rw.tup (n := n) hl h).okd (by omega)
      refine ne_of (b := ds.isEmpty) hok rfl (by cases ds <;> rfl) ?_
      cases hds : ds with
      | nil => exact brf (hk _ _ ⟨hs, fun e => (by cases e)⟩)
      | cons d r =>
        subst hds
        refine brt ?_
        refine ⟨p, 5, rfl, rfl, hs, by decide, by decide, fun w m1 hw1 hw2 hs1 => ?_⟩
        exact hk _ _ ⟨hs1, fun _ => ⟨_, rfl, fun e => (by cases e)⟩⟩
  cases b with
  | true =>
    obtain ⟨ds, rfl, hne⟩ := hb rfl
    refine brt ?_
    obtain ⟨hl, h⟩ : ds.length ≤ 16 ∧ ∀ d ∈ ds, Rw n d := by cases hx with | tup hl h => exact ⟨hl, h⟩
    have hpos := List.length_pos_iff.mpr hne
    refine kLen_tup rfl ?_
    refine ⟨p, ds.length, rfl, rfl, hs1.self, by omega, lg9 (k := 64) (by omega), fun w m2 hw1 hw2 hs2 => ?_⟩
    have hs2 := hs1.trans hs2
    have hall : ∀ d ∈ ds, Pw d := fun d hd => (h d hd).pw
    refine sl_t rfl ?_
    obtain ⟨e, he, oe⟩ := pick13 (P := Rw n) h hw1 hw2
    refine ix_t rfl he ?_
    cases n with
    | zero => cases oe
    | succ n =>
      refine ⟨p, rfl, by omega, hs2.self, oe, fun d m3 hd hs3 => ?_⟩
      have hs3 := hs2.trans hs3
      have l1 := cutD_le (xs := ds) (lo := none) (hi := some w)
      have l2 := cutD_le (xs := ds) (lo := some (w + 1)) (hi := none)
      refine addT_of rfl rfl (Nat.le_trans (show _ ≤ 40 by show _ + 1 ≤ 40; omega) (szN 40)) ?_
      refine sl_t rfl ?_
      refine addT_of rfl rfl (Nat.le_trans (show _ ≤ 40 by rw [List.length_append]; show _ + 1 + _ ≤ 40; omega) (szN 40)) ?_
      exact q _ m3 (pwT (by rw [List.length_append, List.length_append]; show _ + 1 + _ < 64; omega) (pw_app (pw_app (pw_cut hall) (fa_cons hd fa_nil)) (pw_cut hall))) hs3
  | false =>
    refine brf ?_
    refine ⟨szN 21, ?_⟩
    refine isiK_of (t := tyP x) hxw.pln.ty ?_
    cases hx with
    | @int _ i h =>
      refine brF rfl ?_
      refine isiK_of (t := .int) rfl ?_
      refine brT rfl ?_
      refine mulI (cokR (by decide)) ?_
      refine mulL (by decide) (by decide) (szN 8) ?_
      refine ⟨szN 29, ?_⟩
      refine divI (by decide) (by decide) ?_
      refine ⟨log1900 (Nat.lt_trans h (by decide)), ?_⟩
      refine mulL (by decide) (by decide) (szN 6) ?_
      refine ⟨szN 35, ?_⟩
      refine isiK_of (t := .int) rfl ?_
      refine brF rfl ?_
      refine kLen_lst rfl ?_
      refine ⟨p, 35, rfl, rfl, hs1.self, by decide, by decide, fun u m2 hu1 hu2 hs2 => ?_⟩
      refine ix_pick (P := Pw) rfl ?_ hu1 (by show u < 35; exact hu2) fun d od => q d m2 od (hs1.trans hs2)
      refine pw_app (pw_app some_pw (pw_two ?_)) (pw_two ?_)
      · refine fa_cons (pwI (by omega)) (fa_cons (pwI (by omega)) (fa_cons (pwI (by omega)) (fa_cons (pwI (by omega)) fa_nil)))
      · refine fa_cons (pwI (by omega)) (fa_cons (pwS (fun c hc => ?_) ?_) (fa_cons (pwT (by show 1 < 64; decide) (fa_cons hxw fa_nil)) fa_nil))
        · have hc : c ∈ TL.tl (Str.ofString (toString i)) := hc
          rw [tl_int] at hc
          unfold sgL at hc
          split at hc
          · rcases List.mem_cons.mp hc with rfl | hc
            · decide
            · have := TL.numL_digits _ c hc; omega
          · have := TL.numL_digits _ c hc; omega
        · exact Nat.le_trans (int_len (by decide) h) (by decide)
    | @str _ z h hl =>
      refine brF rfl ?_
      refine isiK_of (t := .str) rfl ?_
      refine brF rfl ?_
      refine isiK_of (t := .str) rfl ?_
      refine brT rfl ?_
      have hz : z.length ≤ sizeLine := Nat.le_trans hl (szN 100)
      refine ⟨Nat.le_trans (show _ ≤ 101 by show _ + 1 ≤ 101; omega) (szN 101), ?_⟩
      refine sl_s rfl hz ?_
      refine sl_s rfl hz ?_
      refine ⟨Nat.le_trans (show _ ≤ 200 by omega) (szN 200), ?_⟩
      refine mulL (by decide) (by decide) (szN 8) ?_
      refine ⟨szN 29, ?_⟩
      refine revS_of hz ?_
      refine ⟨Nat.le_trans (show _ ≤ 101 by show _ + 1 ≤ 101; omega) (szN 101), ?_⟩
      refine upK_of (Nat.le_trans hl (by decide)) ?_
      refine mulL (by decide) (by decide) (szN 6) ?_
      refine ⟨szN 35, ?_⟩
      refine kLen_lst rfl ?_
      refine ⟨p, 35, rfl, rfl, hs1.self, by decide, by decide, fun u m2 hu1 hu2 hs2 => ?_⟩
      refine ix_pick (P := Pw) rfl ?_ hu1 (by show u < 35; exact hu2) fun d od => q d m2 od (hs1.trans hs2)
      have cat : ∀ {a b : Str}, (∀ c ∈ a.cps.toList, c < 128) → (∀ c ∈ b.cps.toList, c < 128) → ∀ c ∈ (a ++ b).cps.toList, c < 128 := fun {a b} ha hb c hc => by
        have hc : c ∈ TL.tl (a ++ b) := hc
        rw [TL.tl_append] at hc
        exact (List.mem_append.mp hc).elim (ha c) (hb c)
      have cl : ∀ a b : Str, (a ++ b).length = a.length + b.length := fun a b => by rw [TL.len_tl, TL.tl_append, List.length_append, ← TL.len_tl, ← TL.len_tl]
      have cm : ∀ lo hi, ∀ c ∈ (cutS z lo hi).cps.toList, c < 128 := fun lo hi c hc => h c (List.mem_of_mem_drop (List.mem_of_mem_take hc))
      have ck : ∀ lo hi, (cutS z lo hi).length ≤ 1000 := fun lo hi => Nat.le_trans (cutS_length z lo hi) (by omega)
      refine pw_app (pw_app some_pw (pw_two ?_)) (pw_two ?_)
      · refine fa_cons (pwS (cat h (by decide)) (by rw [cl]; show _ + 1 ≤ 1000; omega)) ?_
        refine fa_cons (pwS (cm _ _) (ck _ _)) (fa_cons (pwS (cm _ _) (ck _ _)) ?_)
        exact fa_cons (pwS (cat h h) (by rw [cl]; omega)) fa_nil
      · refine fa_cons (pwS (fun c hc => (revS_mem hc).elim (h c) (fun e => by omega)) (by rw [revS_len]; omega)) ?_
        refine fa_cons (pwS (cat h (by decide)) (by rw [cl]; show _ + 1 ≤ 1000; omega)) ?_
        have eu : Txt.upper z = ⟨z.cps.map PyProof.Rows.up1⟩ := PyProof.Rows.upper_ascii h
        refine fa_cons (pwS (fun c hc => ?_) ?_) fa_nil
        · rw [eu] at hc
          rw [Array.toList_map] at hc
          obtain ⟨c0, h0, rfl⟩ := List.mem_map.mp hc
          have := h c0 h0
          unfold PyProof.Rows.up1
          split <;> omega
        · rw [eu]
          show (z.cps.map PyProof.Rows.up1).size ≤ 1000
          rw [Array.size_map]
          exact Nat.le_trans hl (by decide)
    | @tup _ ds hl h =>
      refine brT rfl ?_
      refine kLen_tup rfl ?_
      refine ⟨p, (ds.length : Int) + 1, rfl, rfl, hs1.self, by omega, lg9 (k := 64) (by omega), fun w m2 hw1 hw2 hs2 => ?_⟩
      have hs2 := hs1.trans hs2
      have hall : ∀ d ∈ ds, Pw d := fun d hd => (h d hd).pw
      have le : ∀ lo hi, (Z.cutD ds lo hi).length ≤ 16 := fun lo hi => Nat.le_trans cutD_le hl
      have z2 : ∀ lo hi lo2 hi2, (Z.cutD ds lo hi).length + (Z.cutD ds lo2 hi2).length ≤ sizeLine := fun lo hi lo2 hi2 => Nat.le_trans (Nat.add_le_add (le lo hi) (le lo2 hi2)) (szN 32)
      have p2 : ∀ lo hi lo2 hi2, Pw (.tup (Z.cutD ds lo hi ++ Z.cutD ds lo2 hi2)) := fun lo hi lo2 hi2 => pwT (by rw [List.length_append]; have := le lo hi; have := le lo2 hi2; omega) (pw_app (pw_cut hall) (pw_cut hall))
      have p1 : ∀ lo hi, Pw (.tup (Z.cutD ds lo hi)) := fun lo hi => pwT (by have := le lo hi; omega) (pw_cut hall)
      refine kLst_of rfl ?_
      refine sl_t rfl ?_
      refine sl_t rfl ?_
      refine addT_of rfl rfl (z2 _ _ _ _) ?_
      refine sl_t rfl ?_
      refine sl_t rfl ?_
      refine addT_of rfl rfl (z2 _ _ _ _) ?_
      refine ⟨szN 24, ?_⟩
      refine revT_of rfl ?_
      refine ⟨szN 26, ?_⟩
      refine sl_t rfl ?_
      refine sl_t rfl ?_
      refine addT_of rfl rfl (Nat.le_trans (show _ ≤ 32 by omega) (szN 32)) ?_
      refine addT_of rfl rfl (Nat.le_trans (show _ ≤ 32 by show _ + 1 ≤ 32; omega) (szN 32)) ?_
      refine sl_t rfl ?_
      refine sl_t rfl ?_
      refine addT_of rfl rfl (z2 _ _ _ _) ?_
      refine ⟨szN 31, ?_⟩
      refine isiK_of (t := .tup) rfl ?_
      refine brF rfl ?_
      refine isiK_of (t := .tup) rfl ?_
      refine brF rfl ?_
      refine kLen_lst rfl ?_
      refine ⟨p, 31, rfl, rfl, hs2.self, by decide, by decide, fun u m3 hu1 hu2 hs3 => ?_⟩
      refine ix_pick (P := Pw) rfl ?_ hu1 (by show u < 31; exact hu2) fun d od => q d m3 od (hs2.trans hs3)
      refine pw_app (pw_app (pw_app some_pw ?_) ?_) ?_
      · exact fa_cons (pwL (by omega) hall) (fa_cons (p2 _ _ _ _) (fa_cons (p2 _ _ _ _) fa_nil))
      · exact fa_cons (pwT (by rw [List.length_reverse]; omega) fun d hd => hall d (List.mem_reverse.mp hd)) (fa_cons (pwT (by show 1 < 64; decide) (fa_cons hxw fa_nil)) fa_nil)
      · refine fa_cons (p1 _ _) (fa_cons (p1 _ _) ?_)
        refine fa_cons (pwT (by rw [List.length_append]; omega) (pw_app hall hall)) ?_
        refine fa_cons (pwT (by rw [List.length_append]; show _ + 1 < 64; omega) (pw_app hall (fa_cons (pwF .non (fun e => nomatch e)) fa_nil))) ?_
        exact fa_cons (p2 _ _ _ _) fa_nil

abbrev s__law_bent_right : Stmt := topS 49

theorem sc__law_bent_right : FnScope ["_law_state_here", "_law_line_here", "_law_rung", "_law_wish", "_law_turn", "_law_some", "_law_due", "_law_found", "_law_one"] ["_law_state_here", "_law_line_here", "_law_rung", "_law_wish"] (defScope s__law_bent_right) := ⟨rfl, rfl, rfl, by decide +kernel, rfl, by decide +kernel, by decide +kernel⟩

theorem Rw.up : ∀ {n k : Nat} {d : D}, Rw n d → n ≤ k → Rw k d
  | _, 0, _, .int _, hk => absurd hk (by omega)
  | _, 0, _, .str _ _, hk => absurd hk (by omega)
  | _, 0, _, .tup _ _, hk => absurd hk (by omega)
  | _, k + 1, _, .int h, _ => .int h
  | _, k + 1, _, .str h hl, _ => .str h hl
  | _, k + 1, _, .tup hl h, hk => .tup hl fun d hd => (h d hd).up (by omega)
theorem bls_ok {a b c : Bool} : okD 60 (.lst [.bl a, .bl b, .bl c]) = true := rfl
theorem bls_eq {a b c : Bool} : eqD (.lst [.bl a, .bl b, .bl c]) (.lst [.bl a, .bl b, .bl c]) = true := by cases a <;> cases b <;> cases c <;> rfl

def sp__law_bent_right : Sp2 := sp4 fun s x y z m Q => ∃ p : Addr, s = .ref p ∧ StAt p m m ∧ Rw 9 x ∧ Rw 9 y ∧ Rw 9 z ∧ ∀ m', StAt p m m' → Q (.bl true) m'

theorem fn__law_bent_right {P : Program} {w : World} {K : PySem.W.Frag} {mg : Str → Option Value} {base : Heap} {f : Addr} {fd : FuncData} (F : FunZ K "_law_bent_right" "_law_bent_right" s__law_bent_right f fd) (D__law_bent : DefOk P w K mg base 11 "_law_bent" (spR__law_bent 9)) (D__law_is_line : DefOk P w K mg base 4 "_law_is_line" sp__law_is_line) (D__law_is_rung : DefOk P w K mg base 5 "_law_is_rung" sp__law_is_rung) (D__law_is_wish : DefOk P w K mg base 5 "_law_is_wish" sp__law_is_wish) (D_is_line : DefOk P w K mg base 5 "is_line" sp_is_line) (D_is_rung : DefOk P w K mg base 6 "is_rung" sp_is_rung) (D_is_wish : DefOk P w K mg base 6 "is_wish" sp_is_wish) (mg_range : mg "range" = none) (mg_isinstance : mg "isinstance" = none) (mg_bool : mg "bool" = none) : FnOk P w K mg base CX0 12 f fd ["_law_state_here", "_law_line_here", "_law_rung", "_law_wish"] (lift K sp__law_bent_right) := by
  refine fn4 (N := ["_law_state_here", "_law_line_here", "_law_rung", "_law_wish", "_law_turn", "_law_some", "_law_due", "_law_found", "_law_one"]) F sc__law_bent_right rfl fun cdv A outer s H E hr => ⟨_, (qs_cons (qs_for PassesOwn.never rfl (rngU (by rfl) mg_range (qa_cons q_int qa_nil)) (qg_name (i := 4) sc__law_bent_right.nd rfl (by first | exact Or.inl rfl | exact Or.inr rfl)) (qs_cons (qs_set (i := 5) sc__law_bent_right.nd rfl (by first | exact Or.inl rfl | exact Or.inr rfl) (q_lst (qa_cons (callU D__law_bent hr (by rfl) (qa_cons (vU 0) (qa_cons (vU 1) qa_nil))) (qa_cons (callU D__law_bent hr (by rfl) (qa_cons (vU 0) (qa_cons (vU 2) qa_nil))) (qa_cons (callU D__law_bent hr (by rfl) (qa_cons (vU 0) (qa_cons (vU 3) qa_nil))) qa_nil)))))
    (qs_cons (qs_set (i := 6) sc__law_bent_right.nd rfl (by first | exact Or.inl rfl | exact Or.inr rfl) (q_lst (qa_cons (callU D__law_is_line hr (by rfl) (qa_cons (ixU (vU 5) q_int (fun _ _ => rfl)) qa_nil)) (qa_cons (callU D__law_is_rung hr (by rfl) (qa_cons (ixU (vU 5) q_int (fun _ _ => rfl)) qa_nil)) (qa_cons (callU D__law_is_wish hr (by rfl) (qa_cons (ixU (vU 5) q_int (fun _ _ => rfl)) qa_nil)) qa_nil)))))
    (qs_cons (qs_set (i := 7) sc__law_bent_right.nd rfl (by first | exact Or.inl rfl | exact Or.inr rfl) (q_lst (qa_cons (callU D_is_line hr (by rfl) (qa_cons (ixU (vU 5) q_int (fun _ _ => rfl)) qa_nil)) (qa_cons (callU D_is_rung hr (by rfl) (qa_cons (ixU (vU 5) q_int (fun _ _ => rfl)) qa_nil)) (qa_cons (callU D_is_wish hr (by rfl) (qa_cons (ixU (vU 5) q_int (fun _ _ => rfl)) qa_nil)) qa_nil)))))
    (qs_one (ifS (PW2.pt (orW (tneU hr (vU 7) (vU 6)) (qw_or1 (tneU hr (q_lc (own := [("_law_one", 8)]) rfl sc__law_bent_right.nd (seqU (vU 7)) (blkOk_by (N := ["_law_state_here", "_law_line_here", "_law_rung", "_law_wish", "_law_turn", "_law_some", "_law_due", "_law_found", "_law_one"]) (sc := defScope s__law_bent_right) (by decide +kernel)) (fun _ _ _ _ _ => (qgc_name (i := 8) sc__law_bent_right.nd rfl (by first | exact Or.inl rfl | exact Or.inr rfl) (by decide))) (fun _ _ _ _ _ => (qts_one (qt_not (testV (isiB .bl (by decide) (by rfl) mg_isinstance (vU 8) (tyU (by rfl) mg_bool bt_bool)))))) (fun _ _ _ _ _ => (vU 8))) (q_lst qa_nil))))) (qs_one (qs_ret q_bl)) qs_nil))))))
    (qs_one (qs_ret q_bl))), ?_⟩
  rintro _ x y z m Q ⟨p, rfl, hs, hx, hy, hz, q⟩
  refine ⟨⟨by decide, by decide⟩, fun i g m' => StAt p m m' ∧ ∃ b1 b2 b3 b4 b5 : Option D, g = [some (.ref p), some x, some y, some z, b1, b2, b3, b4, b5], ⟨hs, _, _, _, _, _, rfl⟩, ?_⟩
  rintro i g m' ⟨hs0, b1, b2, b3, b4, b5, rfl⟩
  refine ⟨trivial, fun d hd => ?_, fun _ => q m' hs0⟩
  refine ⟨p, rfl, by decide, hs0.self, hx, fun d1 m1 h1 hs1 => ?_⟩
  have hs1 := hs0.trans hs1
  refine ⟨p, rfl, by decide, hs1.self, hy, fun d2 m2 h2 hs2 => ?_⟩
  have hs2 := hs1.trans hs2
  refine ⟨p, rfl, by decide, hs2.self, hz, fun d3 m3 h3 hs3 => ?_⟩
  have hs3 := hs2.trans hs3
  refine ix_l (i := 0) rfl (d := d1) rfl ?_
  refine ⟨h1, ?_⟩
  refine ix_l (i := 1) rfl (d := d2) rfl ?_
  refine ⟨h2, ?_⟩
  refine ix_l (i := 2) rfl (d := d3) rfl ?_
  refine ⟨h3, ?_⟩
  refine ix_l (i := 0) rfl (d := d1) rfl ?_
  refine ⟨h1.pln, ?_⟩
  refine ix_l (i := 1) rfl (d := d2) rfl ?_
  refine ⟨h2.pln, ?_⟩
  refine ix_l (i := 2) rfl (d := d3) rfl ?_
  refine ⟨h3.pln, ?_⟩
  refine ne_of (b := true) bls_ok bls_ok bls_eq ?_
  refine brf ?_
  refine seqK_lst rfl ?_
  refine lc_genA [isLnP d1, isRgP d2, isWsP d3] D.bl rfl (fun b => [some (.ref p), some x, some y, some z, some d, some (.lst [d1, d2, d3]), some (.lst [.bl (isLnP d1), .bl (isRgP d2), .bl (isWsP d3)]), some (.lst [.bl (isLnP d1), .bl (isRgP d2), .bl (isWsP d3)]), some (.bl b)]) (fun _ => false) D.bl (szN 3) (fun _ _ => rfl) (fun b _ mm _ k hk => hk) (fun b _ mm _ k hk => ?_) (fun b _ _ mm _ k hk => hk) ?_
  · refine isiK_of (t := .bl) rfl ?_
    exact hk
  refine ne_of (b := true) rfl rfl rfl ?_
  refine brf ?_
  exact ⟨hs3, _, _, _, _, _, rfl⟩

abbrev s__law_right : Stmt := topS 50

theorem sc__law_right : FnScope ["_law_state_here", "_law_names_here", "_law_line_here", "_law_weight", "_law_rung", "_law_wish", "_law_odd"] ["_law_state_here"] (defScope s__law_right) := ⟨rfl, rfl, rfl, by decide +kernel, rfl, by decide +kernel, by decide +kernel⟩

theorem mulZ_n {n : Nat} {z : D} {m : M} {Q : Kd} (h : n ≤ 1000) (q : Q (.tup (List.replicate n z)) m) : oMulZ (.tup [z]) (.int n) m Q := by
  cases n with
  | zero => exact mulZ_0 rfl (by simp) rfl q
  | succ n =>
    have e : ∀ n : Nat, (List.replicate n [z]).flatten = List.replicate n z := fun n => by
      induction n with
      | zero => rfl
      | succ n ih => rw [List.replicate_succ, List.flatten_cons, ih]; rfl
    refine mulZ_u ?_
    have q : Q (.tup (List.replicate ((n + 1 : Nat) : Int).toNat [z]).flatten) m := by rw [e]; exact q
    unfold oMulU
    exact ⟨⟨⟨by simp, by omega, by omega, by show 1 ≤ 1000; decide⟩, q⟩⟩
theorem rw_nD {v : Fr} (h1 : v.1.natAbs < 10 ^ 41) (h2 : v.2.natAbs < 10 ^ 41) : Rw 2 (nD v) := .tup (by show 2 ≤ 16; decide) (fa_cons (.int h1) (fa_cons (.int h2) fa_nil))
theorem rw_nr {v : Fr} (h : Nr v) : Rw 2 (nD v) := rw_nD (Nat.lt_trans h.2.1 (by decide)) (Nat.lt_trans h.2.2 (by decide))
theorem rw_two {n : Nat} {a b : D} (ha : Rw n a) (hb : Rw n b) : Rw (n + 1) (.tup [a, b]) := .tup (by show 2 ≤ 16; decide) (fa_cons ha (fa_cons hb fa_nil))
theorem rw_ln {zs : List Str} {ps : List Pf} {c : Fr} {e : Bool} (F : Fm13 zs ps c) (N : NmsOk zs) (l : zs.length ≤ 6) : Rw 6 (ln13 ps c e) := by
  have hl := F.sub.length_le
  rw [List.length_map] at hl
  refine rw_two (rw_two (.tup (n := 3) (by rw [List.length_map]; omega) fun d hd => ?_) ((rw_nr F.c).up (by decide))) ?_
  · obtain ⟨x, hx, rfl⟩ := List.mem_map.mp hd
    have hn := N.nm x.1 (F.sub.subset (List.mem_map_of_mem hx))
    have h2 := hn.2.1
    exact rw_two (.str (n := 1) (fun c hc => by have := hn.2.2.1 c hc; omega) (by omega)) (rw_nr (F.nr x hx).1)
  · cases e <;> exact .str (n := 4) (by decide) (by decide)
theorem wt_ok {v : Fr} (h : Lo v) (h0 : 0 < v.1) : isWtP (nD v) = true := by
  have h1 : isNumD (nD v) = true := by
    show (decide (0 < v.2) && decide (Int.gcd v.1 v.2 = 1)) = true
    rw [decide_eq_true h.1, decide_eq_true h.2]
    rfl
  have h2 : posN (nD v) = true := decide_eq_true h0
  show (isNumD (nD v) && posN (nD v)) = true
  rw [h1, h2]
  rfl

def sp__law_right : Sp2 := sp1 fun s m Q => ∃ p : Addr, s = .ref p ∧ StAt p m m ∧ ∀ m', StAt p m m' → Q (.bl true) m'

theorem fn__law_right {P : Program} {w : World} {K : PySem.W.Frag} {mg : Str → Option Value} {base : Heap} {f : Addr} {fd : FuncData} (F : FunZ K "_law_right" "_law_right" s__law_right f fd) (D__law_names : DefOk P w K mg base 2 "_law_names" sp__law_names) (D__law_line : DefOk P w K mg base 4 "_law_line" sp__law_line) (D__law_made : DefOk P w K mg base 1 "_law_made" sp__law_made) (D__law_bent_right : DefOk P w K mg base 12 "_law_bent_right" sp__law_bent_right) (D__law_next : DefOk P w K mg base 1 "_law_next" sp__law_next) (D_is_line : DefOk P w K mg base 5 "is_line" sp_is_line) (D_is_rung : DefOk P w K mg base 6 "is_rung" sp_is_rung) (D_is_wish : DefOk P w K mg base 6 "is_wish" sp_is_wish) (D__law_odd_line : DefOk P w K mg base 4 "_law_odd_line" sp__law_odd_line) (D__law_odd_rung : DefOk P w K mg base 5 "_law_odd_rung" sp__law_odd_rung) (D__law_odd_wish : DefOk P w K mg base 5 "_law_odd_wish" sp__law_odd_wish) (K_is_line_0_thing : DefKw P w K mg base 5 "is_line" sp_is_line 0 ["thing"]) (K_is_rung_0_thing : DefKw P w K mg base 6 "is_rung" sp_is_rung 0 ["thing"]) (K_is_wish_0_thing : DefKw P w K mg base 6 "is_wish" sp_is_wish 0 ["thing"]) : FnOk P w K mg base CX0 13 f fd ["_law_state_here"] (lift K sp__law_right) := by
  refine fn1 (N := ["_law_state_here", "_law_names_here", "_law_line_here", "_law_weight", "_law_rung", "_law_wish", "_law_odd"]) F sc__law_right rfl fun cdv A outer s H E hr => ⟨_, (qs_cons (qs_set (i := 1) sc__law_right.nd rfl (by first | exact Or.inl rfl | exact Or.inr rfl) (callU D__law_names hr (by rfl) (qa_cons (vU 0) (qa_cons (addU q_int (callU D__law_next hr (by rfl) (qa_cons (vU 0) (qa_cons q_int qa_nil)))) qa_nil))))
    (qs_cons (qs_set (i := 2) sc__law_right.nd rfl (by first | exact Or.inl rfl | exact Or.inr rfl) (callU D__law_line hr (by rfl) (qa_cons (vU 0) (qa_cons (vU 1) (qa_cons (powU q_int q_int) qa_nil)))))
    (qs_cons (qs_set (i := 3) sc__law_right.nd rfl (by first | exact Or.inl rfl | exact Or.inr rfl) (callU D__law_made hr (by rfl) (qa_cons (addU q_int (callU D__law_next hr (by rfl) (qa_cons (vU 0) (qa_cons (powU q_int q_int) qa_nil)))) (qa_cons (addU q_int (callU D__law_next hr (by rfl) (qa_cons (vU 0) (qa_cons q_int qa_nil)))) qa_nil))))
    (qs_cons (qs_set (i := 4) sc__law_right.nd rfl (by first | exact Or.inl rfl | exact Or.inr rfl) (mulZ (q_tup (qa_cons (q_tup (qa_cons (vU 3) (qa_cons (vU 2) qa_nil))) qa_nil)) (ixU (q_lst (qa_cons q_int (qa_cons q_int (qa_cons q_int (qa_cons q_int qa_nil))))) (callU D__law_next hr (by rfl) (qa_cons (vU 0) (qa_cons q_int qa_nil))) (fun _ _ => rfl))))
    (qs_cons (qs_set (i := 5) sc__law_right.nd rfl (by first | exact Or.inl rfl | exact Or.inr rfl) (ixU (q_lst (qa_cons (q_tup (qa_cons q_str (qa_cons (q_tup (qa_cons q_int (qa_cons q_int qa_nil))) (qa_cons (vU 2) qa_nil)))) (qa_cons (q_tup (qa_cons q_str (qa_cons (vU 3) (qa_cons (vU 2) qa_nil)))) (qa_cons (q_tup (qa_cons q_str (qa_cons (vU 3) (qa_cons (vU 2) qa_nil)))) qa_nil)))) (callU D__law_next hr (by rfl) (qa_cons (vU 0) (qa_cons q_int qa_nil))) (fun _ _ => rfl)))
    (qs_cons (ifS (PW2.pt (orW (tisNotU (callK0U K_is_line_0_thing hr (by rfl) (qk_cons (vU 2) qk_nil)) q_bl) (orW (tisNotU (callK0U K_is_rung_0_thing hr (by rfl) (qk_cons (vU 4) qk_nil)) q_bl) (qw_or1 (tisNotU (callK0U K_is_wish_0_thing hr (by rfl) (qk_cons (vU 5) qk_nil)) q_bl))))) (qs_one (qs_ret q_bl)) qs_nil)
    (qs_cons (qs_set (i := 6) sc__law_right.nd rfl (by first | exact Or.inl rfl | exact Or.inr rfl) (q_lst (qa_cons (callU D_is_line hr (by rfl) (qa_cons (callU D__law_odd_line hr (by rfl) (qa_cons (vU 0) (qa_cons (vU 2) qa_nil))) qa_nil)) (qa_cons (callU D_is_rung hr (by rfl) (qa_cons (callU D__law_odd_rung hr (by rfl) (qa_cons (vU 0) (qa_cons (vU 2) qa_nil))) qa_nil)) qa_nil))))
    (qs_cons (ifS (tneU hr (addU (vU 6) (q_lst (qa_cons (callU D_is_wish hr (by rfl) (qa_cons (callU D__law_odd_wish hr (by rfl) (qa_cons (vU 0) (qa_cons (vU 2) qa_nil))) qa_nil)) qa_nil))) (q_lst (qa_cons q_bl (qa_cons q_bl (qa_cons q_bl qa_nil))))) (qs_one (qs_ret q_bl)) qs_nil)
    (qs_one (qs_ret (callU D__law_bent_right hr (by rfl) (qa_cons (vU 0) (qa_cons (vU 2) (qa_cons (vU 4) (qa_cons (vU 5) qa_nil))))))))))))))), ?_⟩
  rintro _ m Q ⟨p, rfl, hs, q⟩
  refine ⟨p, 6, rfl, rfl, hs, by decide, by decide, fun w m1 hw1 hw2 hs1 => ?_⟩
  refine ⟨p, (1 + w).toNat, rfl, by rw [Int.toNat_of_nonneg (by omega)], hs1.self, by omega, by omega, fun zs m2 hzl N hs2 => ?_⟩
  have hs2 := hs1.trans hs2
  have l6 : zs.length ≤ 6 := by omega
  refine powI (i := 10) (j := 30) (by decide) (by decide) (by decide) ?_
  refine ⟨p, zs, _, rfl, rfl, rfl, hs2.self, by decide, by decide, l6, fun ps c e m3 Fm hs3 => ?_⟩
  have hs3 := hs2.trans hs3
  refine powI (i := 10) (j := 30) (by decide) (by decide) (by decide) ?_
  refine ⟨p, _, rfl, rfl, hs3.self, by decide, by decide, fun a m4 ha1 ha2 hs4 => ?_⟩
  have ha2 : a < 10 ^ 30 := ha2
  have hs4 := hs3.trans hs4
  refine ⟨p, 9, rfl, rfl, hs4.self, by decide, by decide, fun b m5 hb1 hb2 hs5 => ?_⟩
  have hs5 := hs4.trans hs5
  refine ⟨_, _, rfl, rfl, by omega, lg9 (k := 64) (by omega), ?_⟩
  rw [if_neg (by omega), low_nD]
  have vlo := lowP_lo (a := 1 + a) (b := 1 + b) (by omega)
  have veq := lowP_eq (a := 1 + a) (b := 1 + b) (by omega)
  have vb1 : (lowP (1 + a) (1 + b)).1.natAbs ≤ (1 + a).natAbs := Int.natAbs_ediv_le_natAbs _ _
  have vb2 : (lowP (1 + a) (1 + b)).2.natAbs ≤ (1 + b).natAbs := Int.natAbs_ediv_le_natAbs _ _
  generalize lowP (1 + a) (1 + b) = v at vlo veq vb1 vb2
  have vpos : 0 < v.1 := by
    have h1 : 0 < (1 + a) * v.2 := Int.mul_pos (by omega) vlo.1
    rw [← veq] at h1
    rcases Int.lt_or_le 0 v.1 with h | h
    · exact h
    · have h2 := Int.mul_le_mul_of_nonneg_right h (show 0 ≤ 1 + b by omega)
      rw [Int.zero_mul] at h2
      exact absurd h1 (Int.not_lt.mpr h2)
  have wok := wt_ok vlo vpos
  have lok : isLnP (ln13 ps c e) = true := ln_ok13 Fm N
  have rwl : Rw 6 (ln13 ps c e) := rw_ln Fm N l6
  have rwv : Rw 2 (nD v) := rw_nD (Nat.lt_of_le_of_lt vb1 (by omega)) (Nat.lt_of_le_of_lt vb2 (by omega))
  refine ⟨p, 4, rfl, rfl, hs5.self, by decide, by decide, fun u m6 hu1 hu2 hs6 => ?_⟩
  have hs6 := hs5.trans hs6
  obtain ⟨k, hk, hk2⟩ : ∃ k : Nat, atI [D.int 0, .int 1, .int 2, .int 16] u = some (.int k) ∧ k ≤ 16 := by
    have : u = 0 ∨ u = 1 ∨ u = 2 ∨ u = 3 := by omega
    rcases this with rfl | rfl | rfl | rfl
    · exact ⟨0, rfl, by decide⟩
    · exact ⟨1, rfl, by decide⟩
    · exact ⟨2, rfl, by decide⟩
    · exact ⟨16, rfl, by decide⟩
  refine ix_l rfl hk ?_
  refine mulZ_n (by omega) ?_
  have rok : isRgP (.tup (List.replicate k (.tup [nD v, ln13 ps c e]))) = true := by
    rw [rgP_of rfl, List.length_replicate, decide_eq_true hk2, Bool.true_and, List.all_eq_true]
    intro y hy
    rw [(List.mem_replicate.mp hy).2, prP_two rfl, wok, lok]
    rfl
  have rwp : Rw 7 (.tup [nD v, ln13 ps c e]) := rw_two (rwv.up (by decide)) rwl
  have rwr : Rw 8 (.tup (List.replicate k (.tup [nD v, ln13 ps c e]))) := .tup (by rw [List.length_replicate]; exact hk2) fun d hd => by rw [(List.mem_replicate.mp hd).2]; exact rwp
  refine ⟨p, 3, rfl, rfl, hs6.self, by decide, by decide, fun u2 m7 hu3 hu4 hs7 => ?_⟩
  have hs7 := hs6.trans hs7
  refine ix_pick (P := fun d => isWsP d = true ∧ Rw 7 d) rfl ?_ hu3 (by show u2 < 3; exact hu4) fun wish hwish => ?_
  · have thr : ∀ {z : Str} {b : D}, (∀ c ∈ z.cps.toList, c < 128) → z.length ≤ 100 → Rw 2 b → Rw 7 (.tup [.str z, b, ln13 ps c e]) := fun hz hl hb => .tup (by show 3 ≤ 16; decide) (fa_cons (.str (n := 5) hz hl) (fa_cons (hb.up (by decide)) (fa_cons rwl fa_nil)))
    have wsk : ∀ {z : Str} {b : D}, isOf sts13 (.str z) = true → isWtP b = true → (!isOf ["must"] (.str z) || eqD (resP b) (.tup [.int 1, .int 1])) = true → isWsP (.tup [.str z, b, ln13 ps c e]) = true := fun h1 h2 h3 => by rw [wsP_three rfl, h1, h2, lok, h3]; rfl
    refine fa_cons ⟨wsk (by decide) (by decide) (by decide), thr (by decide) (by decide) (rw_two (.int (by decide)) (.int (by decide)))⟩ ?_
    refine fa_cons ⟨wsk (by decide) wok (by rw [show isOf ["must"] (.str (Str.ofString "should")) = false by decide]; rfl), thr (by decide) (by decide) rwv⟩ ?_
    exact fa_cons ⟨wsk (by decide) wok (by rw [show isOf ["must"] (.str (Str.ofString "might")) = false by decide]; rfl), thr (by decide) (by decide) rwv⟩ fa_nil
  refine ⟨rfl, rwl.pw.pln, ?_⟩
  rw [lok]
  refine brF rfl ?_
  refine ⟨rfl, rwr.pw.pln, ?_⟩
  rw [rok]
  refine brF rfl ?_
  refine ⟨rfl, hwish.2.pw.pln, ?_⟩
  rw [hwish.1]
  refine brF rfl ?_
  refine ⟨p, zs, ps, c, e, rfl, rfl, hs7.self, Fm, N, l6, fun d1 m8 hd1 hs8 => ?_⟩
  have hs8 := hs7.trans hs8
  refine ⟨hd1.1, ?_⟩
  refine ⟨p, zs, ps, c, e, rfl, rfl, hs8.self, Fm, N, l6, fun d2 m9 hd2 hs9 => ?_⟩
  have hs9 := hs8.trans hs9
  refine ⟨hd2.1, ?_⟩
  refine ⟨p, zs, ps, c, e, rfl, rfl, hs9.self, Fm, N, l6, fun d3 m10 hd3 hs10 => ?_⟩
  have hs10 := hs9.trans hs10
  refine ⟨hd3.1, ?_⟩
  refine ⟨szN 3, ?_⟩
  rw [hd1.2, hd2.2, hd3.2]
  refine ne_of (b := true) rfl rfl rfl ?_
  refine brf ?_
  exact ⟨p, rfl, hs10.self, rwl.up (by decide), rwr.up (by decide), hwish.2.up (by decide), fun m' h => q m' (hs10.trans h)⟩

abbrev s_law : Stmt := topS 51

theorem sc_law : FnScope ["_law_script", "_law_k"] ["_law_script"] (defScope s_law) := ⟨rfl, rfl, rfl, by decide +kernel, rfl, by decide +kernel, by decide +kernel⟩

theorem fn_law {P : Program} {w : World} {K : PySem.W.Frag} {mg : Str → Option Value} {base : Heap} {f : Addr} {fd : FuncData} (F : FunZ K "law" "law" s_law f fd) (D__law_right : DefOk P w K mg base 13 "_law_right" sp__law_right) (D__law_state : DefOk P w K mg base 1 "_law_state" sp__law_state) (mg_range : mg "range" = none) (mg_max : mg "max" = none) (mg_len : mg "len" = none) : FnOk P w K mg base CX0 14 f fd ["_law_script"] (lift K spLaw) := by
  refine fnL (N := ["_law_script", "_law_k"]) F sc_law rfl fun cdv A outer s H E hr => ⟨_, (qs_cons (qs_for PassesOwn.never rfl (rngU (by rfl) mg_range (qa_cons (maxU rfl (by rfl) mg_max (qa_cons q_int (qa_cons (lenU (by rfl) mg_len (qa_cons (vU 0) qa_nil)) qa_nil))) qa_nil)) (qg_name (i := 1) sc_law.nd rfl (by first | exact Or.inl rfl | exact Or.inr rfl)) (qs_one (ifS (qt_not (testV (callU D__law_right hr (by rfl) (qa_cons (callU D__law_state hr (by rfl) (qa_cons (vU 0) (qa_cons (vU 1) qa_nil))) qa_nil)))) (qs_one (qs_ret q_bl)) qs_nil)))
    (qs_one (qs_ret q_bl))), ?_⟩
  intro ns m Q hn q
  refine kLen_rol rfl ?_
  refine ⟨⟨by (repeat' split) <;> omega, by rw [List.length_map]; (repeat' split) <;> omega⟩, fun i g m' => ∃ b1 : Option D, g = [some (.rol (ns.map .int)), b1], ⟨_, rfl⟩, ?_⟩
  rintro i g m' ⟨b1, rfl⟩
  refine ⟨trivial, fun d hd => ?_, fun _ => ?_⟩
  · obtain ⟨hi, rfl⟩ := rng0_of hd
    refine ⟨ns, i, rfl, rfl, fun p m1 hp hs1 => ?_⟩
    refine ⟨p, rfl, hs1.self, fun m2 hs2 => ?_⟩
    refine brf ?_
    exact ⟨_, rfl⟩
  · exact q m'

theorem all_mk {l : PySem.W.OpenLaw} {w : World} {K : PySem.W.Frag} {h : Heap} {mg : Str → Option Value} {fa f0 f1 f2 f3 f4 f5 f6 f7 f8 f9 f10 f11 f12 f13 f14 f15 f16 f17 f18 f19 f20 f21 f22 f23 f24 f25 f26 f27 f28 f29 f30 f31 f32 f33 f34 f35 f36 f37 : Addr} (X : K.In h) (G : h.Ns mainGlobals mg) (hfa : mg "law" = some (.ref fa))
    {od0 an0 : Option Addr} {sl0 : Array (Option Value)} {oc0 kV0 dc0 pm0 cd0 ct0 : Value}
    (a0 : PySem.W.nsIn K mainGlobals "is_whole" = some (some (.ref f0))) (l0 : K.lookup f0 = some ⟨oc0, od0, .func (PySem.W.fnOf "is_whole" "is_whole" (defArgs s_is_whole) (defBody s_is_whole) (defScope s_is_whole) .none kV0 dc0 pm0 an0 cd0 ct0), sl0⟩) (c0 : PySem.W.codeIn K cd0 "is_whole" = true) (k0 : PySem.W.keepIn K (.ref f0) = true)
    {od1 an1 : Option Addr} {sl1 : Array (Option Value)} {oc1 kV1 dc1 pm1 cd1 ct1 : Value}
    (a1 : PySem.W.nsIn K mainGlobals "common" = some (some (.ref f1))) (l1 : K.lookup f1 = some ⟨oc1, od1, .func (PySem.W.fnOf "common" "common" (defArgs s_common) (defBody s_common) (defScope s_common) .none kV1 dc1 pm1 an1 cd1 ct1), sl1⟩) (c1 : PySem.W.codeIn K cd1 "common" = true) (k1 : PySem.W.keepIn K (.ref f1) = true)
    {od2 an2 : Option Addr} {sl2 : Array (Option Value)} {oc2 kV2 dc2 pm2 cd2 ct2 : Value}
    (a2 : PySem.W.nsIn K mainGlobals "is_number" = some (some (.ref f2))) (l2 : K.lookup f2 = some ⟨oc2, od2, .func (PySem.W.fnOf "is_number" "is_number" (defArgs s_is_number) (defBody s_is_number) (defScope s_is_number) .none kV2 dc2 pm2 an2 cd2 ct2), sl2⟩) (c2 : PySem.W.codeIn K cd2 "is_number" = true) (k2 : PySem.W.keepIn K (.ref f2) = true)
    {od3 an3 : Option Addr} {sl3 : Array (Option Value)} {oc3 kV3 dc3 pm3 cd3 ct3 : Value}
    {T3 : Addr} {ocT3 : Value} {odT3 : Option Addr} {slT3 : Array (Option Value)} {u3_0 : Tok} {nT3 : Nat}
    (a3 : PySem.W.nsIn K mainGlobals "number" = some (some (.ref f3))) (l3 : K.lookup f3 = some ⟨oc3, od3, .func (PySem.W.fnOf "number" "number" (defArgs s_number) (defBody s_number) (defScope s_number) (.ref T3) kV3 dc3 pm3 an3 cd3 ct3), sl3⟩) (c3 : PySem.W.codeIn K cd3 "number" = true) (k3 : PySem.W.keepIn K (.ref f3) = true)
    (t3 : K.lookup T3 = some ⟨ocT3, odT3, .seq #[.int 1 u3_0] nT3, slT3⟩)
    {od4 an4 : Option Addr} {sl4 : Array (Option Value)} {oc4 kV4 dc4 pm4 cd4 ct4 : Value}
    (a4 : PySem.W.nsIn K mainGlobals "is_row_of" = some (some (.ref f4))) (l4 : K.lookup f4 = some ⟨oc4, od4, .func (PySem.W.fnOf "is_row_of" "is_row_of" (defArgs s_is_row_of) (defBody s_is_row_of) (defScope s_is_row_of) .none kV4 dc4 pm4 an4 cd4 ct4), sl4⟩) (c4 : PySem.W.codeIn K cd4 "is_row_of" = true) (k4 : PySem.W.keepIn K (.ref f4) = true)
    {od5 an5 : Option Addr} {sl5 : Array (Option Value)} {oc5 kV5 dc5 pm5 cd5 ct5 : Value}
    (a5 : PySem.W.nsIn K mainGlobals "is_name" = some (some (.ref f5))) (l5 : K.lookup f5 = some ⟨oc5, od5, .func (PySem.W.fnOf "is_name" "is_name" (defArgs s_is_name) (defBody s_is_name) (defScope s_is_name) .none kV5 dc5 pm5 an5 cd5 ct5), sl5⟩) (c5 : PySem.W.codeIn K cd5 "is_name" = true) (k5 : PySem.W.keepIn K (.ref f5) = true)
    {od6 an6 : Option Addr} {sl6 : Array (Option Value)} {oc6 kV6 dc6 pm6 cd6 ct6 : Value}
    (a6 : PySem.W.nsIn K mainGlobals "is_rising" = some (some (.ref f6))) (l6 : K.lookup f6 = some ⟨oc6, od6, .func (PySem.W.fnOf "is_rising" "is_rising" (defArgs s_is_rising) (defBody s_is_rising) (defScope s_is_rising) .none kV6 dc6 pm6 an6 cd6 ct6), sl6⟩) (c6 : PySem.W.codeIn K cd6 "is_rising" = true) (k6 : PySem.W.keepIn K (.ref f6) = true)
    {od7 an7 : Option Addr} {sl7 : Array (Option Value)} {oc7 kV7 dc7 pm7 cd7 ct7 : Value}
    (a7 : PySem.W.nsIn K mainGlobals "is_part" = some (some (.ref f7))) (l7 : K.lookup f7 = some ⟨oc7, od7, .func (PySem.W.fnOf "is_part" "is_part" (defArgs s_is_part) (defBody s_is_part) (defScope s_is_part) .none kV7 dc7 pm7 an7 cd7 ct7), sl7⟩) (c7 : PySem.W.codeIn K cd7 "is_part" = true) (k7 : PySem.W.keepIn K (.ref f7) = true)
    {od8 an8 : Option Addr} {sl8 : Array (Option Value)} {oc8 kV8 dc8 pm8 cd8 ct8 : Value}
    (a8 : PySem.W.nsIn K mainGlobals "is_form" = some (some (.ref f8))) (l8 : K.lookup f8 = some ⟨oc8, od8, .func (PySem.W.fnOf "is_form" "is_form" (defArgs s_is_form) (defBody s_is_form) (defScope s_is_form) .none kV8 dc8 pm8 an8 cd8 ct8), sl8⟩) (c8 : PySem.W.codeIn K cd8 "is_form" = true) (k8 : PySem.W.keepIn K (.ref f8) = true)
    {od9 an9 : Option Addr} {sl9 : Array (Option Value)} {oc9 kV9 dc9 pm9 cd9 ct9 : Value}
    (a9 : PySem.W.nsIn K mainGlobals "is_one_of" = some (some (.ref f9))) (l9 : K.lookup f9 = some ⟨oc9, od9, .func (PySem.W.fnOf "is_one_of" "is_one_of" (defArgs s_is_one_of) (defBody s_is_one_of) (defScope s_is_one_of) .none kV9 dc9 pm9 an9 cd9 ct9), sl9⟩) (c9 : PySem.W.codeIn K cd9 "is_one_of" = true) (k9 : PySem.W.keepIn K (.ref f9) = true)
    {od10 an10 : Option Addr} {sl10 : Array (Option Value)} {oc10 kV10 dc10 pm10 cd10 ct10 : Value}
    (a10 : PySem.W.nsIn K mainGlobals "is_line" = some (some (.ref f10))) (l10 : K.lookup f10 = some ⟨oc10, od10, .func (PySem.W.fnOf "is_line" "is_line" (defArgs s_is_line) (defBody s_is_line) (defScope s_is_line) .none kV10 dc10 pm10 an10 cd10 ct10), sl10⟩) (c10 : PySem.W.codeIn K cd10 "is_line" = true) (k10 : PySem.W.keepIn K (.ref f10) = true)
    {od11 an11 : Option Addr} {sl11 : Array (Option Value)} {oc11 kV11 dc11 pm11 cd11 ct11 : Value}
    (a11 : PySem.W.nsIn K mainGlobals "is_weight" = some (some (.ref f11))) (l11 : K.lookup f11 = some ⟨oc11, od11, .func (PySem.W.fnOf "is_weight" "is_weight" (defArgs s_is_weight) (defBody s_is_weight) (defScope s_is_weight) .none kV11 dc11 pm11 an11 cd11 ct11), sl11⟩) (c11 : PySem.W.codeIn K cd11 "is_weight" = true) (k11 : PySem.W.keepIn K (.ref f11) = true)
    {od12 an12 : Option Addr} {sl12 : Array (Option Value)} {oc12 kV12 dc12 pm12 cd12 ct12 : Value}
    (a12 : PySem.W.nsIn K mainGlobals "is_rung" = some (some (.ref f12))) (l12 : K.lookup f12 = some ⟨oc12, od12, .func (PySem.W.fnOf "is_rung" "is_rung" (defArgs s_is_rung) (defBody s_is_rung) (defScope s_is_rung) .none kV12 dc12 pm12 an12 cd12 ct12), sl12⟩) (c12 : PySem.W.codeIn K cd12 "is_rung" = true) (k12 : PySem.W.keepIn K (.ref f12) = true)
    {od13 an13 : Option Addr} {sl13 : Array (Option Value)} {oc13 kV13 dc13 pm13 cd13 ct13 : Value}
    (a13 : PySem.W.nsIn K mainGlobals "is_wish" = some (some (.ref f13))) (l13 : K.lookup f13 = some ⟨oc13, od13, .func (PySem.W.fnOf "is_wish" "is_wish" (defArgs s_is_wish) (defBody s_is_wish) (defScope s_is_wish) .none kV13 dc13 pm13 an13 cd13 ct13), sl13⟩) (c13 : PySem.W.codeIn K cd13 "is_wish" = true) (k13 : PySem.W.keepIn K (.ref f13) = true)
    {od14 an14 : Option Addr} {sl14 : Array (Option Value)} {oc14 kV14 dc14 pm14 cd14 ct14 : Value}
    (a14 : PySem.W.nsIn K mainGlobals "_law_state" = some (some (.ref f14))) (l14 : K.lookup f14 = some ⟨oc14, od14, .func (PySem.W.fnOf "_law_state" "_law_state" (defArgs s__law_state) (defBody s__law_state) (defScope s__law_state) .none kV14 dc14 pm14 an14 cd14 ct14), sl14⟩) (c14 : PySem.W.codeIn K cd14 "_law_state" = true) (k14 : PySem.W.keepIn K (.ref f14) = true)
    {od15 an15 : Option Addr} {sl15 : Array (Option Value)} {oc15 kV15 dc15 pm15 cd15 ct15 : Value}
    (a15 : PySem.W.nsIn K mainGlobals "_law_next" = some (some (.ref f15))) (l15 : K.lookup f15 = some ⟨oc15, od15, .func (PySem.W.fnOf "_law_next" "_law_next" (defArgs s__law_next) (defBody s__law_next) (defScope s__law_next) .none kV15 dc15 pm15 an15 cd15 ct15), sl15⟩) (c15 : PySem.W.codeIn K cd15 "_law_next" = true) (k15 : PySem.W.keepIn K (.ref f15) = true)
    {od16 an16 : Option Addr} {sl16 : Array (Option Value)} {oc16 kV16 dc16 pm16 cd16 ct16 : Value}
    (a16 : PySem.W.nsIn K mainGlobals "_law_names" = some (some (.ref f16))) (l16 : K.lookup f16 = some ⟨oc16, od16, .func (PySem.W.fnOf "_law_names" "_law_names" (defArgs s__law_names) (defBody s__law_names) (defScope s__law_names) .none kV16 dc16 pm16 an16 cd16 ct16), sl16⟩) (c16 : PySem.W.codeIn K cd16 "_law_names" = true) (k16 : PySem.W.keepIn K (.ref f16) = true)
    {od17 an17 : Option Addr} {sl17 : Array (Option Value)} {oc17 kV17 dc17 pm17 cd17 ct17 : Value}
    (a17 : PySem.W.nsIn K mainGlobals "_law_made" = some (some (.ref f17))) (l17 : K.lookup f17 = some ⟨oc17, od17, .func (PySem.W.fnOf "_law_made" "_law_made" (defArgs s__law_made) (defBody s__law_made) (defScope s__law_made) .none kV17 dc17 pm17 an17 cd17 ct17), sl17⟩) (c17 : PySem.W.codeIn K cd17 "_law_made" = true) (k17 : PySem.W.keepIn K (.ref f17) = true)
    {od18 an18 : Option Addr} {sl18 : Array (Option Value)} {oc18 kV18 dc18 pm18 cd18 ct18 : Value}
    (a18 : PySem.W.nsIn K mainGlobals "_law_drawn" = some (some (.ref f18))) (l18 : K.lookup f18 = some ⟨oc18, od18, .func (PySem.W.fnOf "_law_drawn" "_law_drawn" (defArgs s__law_drawn) (defBody s__law_drawn) (defScope s__law_drawn) .none kV18 dc18 pm18 an18 cd18 ct18), sl18⟩) (c18 : PySem.W.codeIn K cd18 "_law_drawn" = true) (k18 : PySem.W.keepIn K (.ref f18) = true)
    {od19 an19 : Option Addr} {sl19 : Array (Option Value)} {oc19 kV19 dc19 pm19 cd19 ct19 : Value}
    (a19 : PySem.W.nsIn K mainGlobals "_law_form" = some (some (.ref f19))) (l19 : K.lookup f19 = some ⟨oc19, od19, .func (PySem.W.fnOf "_law_form" "_law_form" (defArgs s__law_form) (defBody s__law_form) (defScope s__law_form) .none kV19 dc19 pm19 an19 cd19 ct19), sl19⟩) (c19 : PySem.W.codeIn K cd19 "_law_form" = true) (k19 : PySem.W.keepIn K (.ref f19) = true)
    {od20 an20 : Option Addr} {sl20 : Array (Option Value)} {oc20 kV20 dc20 pm20 cd20 ct20 : Value}
    (a20 : PySem.W.nsIn K mainGlobals "_law_line" = some (some (.ref f20))) (l20 : K.lookup f20 = some ⟨oc20, od20, .func (PySem.W.fnOf "_law_line" "_law_line" (defArgs s__law_line) (defBody s__law_line) (defScope s__law_line) .none kV20 dc20 pm20 an20 cd20 ct20), sl20⟩) (c20 : PySem.W.codeIn K cd20 "_law_line" = true) (k20 : PySem.W.keepIn K (.ref f20) = true)
    {od21 an21 : Option Addr} {sl21 : Array (Option Value)} {oc21 kV21 dc21 pm21 cd21 ct21 : Value}
    (a21 : PySem.W.nsIn K mainGlobals "_law_odd_number" = some (some (.ref f21))) (l21 : K.lookup f21 = some ⟨oc21, od21, .func (PySem.W.fnOf "_law_odd_number" "_law_odd_number" (defArgs s__law_odd_number) (defBody s__law_odd_number) (defScope s__law_odd_number) .none kV21 dc21 pm21 an21 cd21 ct21), sl21⟩) (c21 : PySem.W.codeIn K cd21 "_law_odd_number" = true) (k21 : PySem.W.keepIn K (.ref f21) = true)
    {od22 an22 : Option Addr} {sl22 : Array (Option Value)} {oc22 kV22 dc22 pm22 cd22 ct22 : Value}
    (a22 : PySem.W.nsIn K mainGlobals "_law_odd_form" = some (some (.ref f22))) (l22 : K.lookup f22 = some ⟨oc22, od22, .func (PySem.W.fnOf "_law_odd_form" "_law_odd_form" (defArgs s__law_odd_form) (defBody s__law_odd_form) (defScope s__law_odd_form) .none kV22 dc22 pm22 an22 cd22 ct22), sl22⟩) (c22 : PySem.W.codeIn K cd22 "_law_odd_form" = true) (k22 : PySem.W.keepIn K (.ref f22) = true)
    {od23 an23 : Option Addr} {sl23 : Array (Option Value)} {oc23 kV23 dc23 pm23 cd23 ct23 : Value}
    (a23 : PySem.W.nsIn K mainGlobals "_law_odd_line" = some (some (.ref f23))) (l23 : K.lookup f23 = some ⟨oc23, od23, .func (PySem.W.fnOf "_law_odd_line" "_law_odd_line" (defArgs s__law_odd_line) (defBody s__law_odd_line) (defScope s__law_odd_line) .none kV23 dc23 pm23 an23 cd23 ct23), sl23⟩) (c23 : PySem.W.codeIn K cd23 "_law_odd_line" = true) (k23 : PySem.W.keepIn K (.ref f23) = true)
    {od24 an24 : Option Addr} {sl24 : Array (Option Value)} {oc24 kV24 dc24 pm24 cd24 ct24 : Value}
    (a24 : PySem.W.nsIn K mainGlobals "_law_odd_weight" = some (some (.ref f24))) (l24 : K.lookup f24 = some ⟨oc24, od24, .func (PySem.W.fnOf "_law_odd_weight" "_law_odd_weight" (defArgs s__law_odd_weight) (defBody s__law_odd_weight) (defScope s__law_odd_weight) .none kV24 dc24 pm24 an24 cd24 ct24), sl24⟩) (c24 : PySem.W.codeIn K cd24 "_law_odd_weight" = true) (k24 : PySem.W.keepIn K (.ref f24) = true)
    {od25 an25 : Option Addr} {sl25 : Array (Option Value)} {oc25 kV25 dc25 pm25 cd25 ct25 : Value}
    (a25 : PySem.W.nsIn K mainGlobals "_law_odd_rung" = some (some (.ref f25))) (l25 : K.lookup f25 = some ⟨oc25, od25, .func (PySem.W.fnOf "_law_odd_rung" "_law_odd_rung" (defArgs s__law_odd_rung) (defBody s__law_odd_rung) (defScope s__law_odd_rung) .none kV25 dc25 pm25 an25 cd25 ct25), sl25⟩) (c25 : PySem.W.codeIn K cd25 "_law_odd_rung" = true) (k25 : PySem.W.keepIn K (.ref f25) = true)
    {od26 an26 : Option Addr} {sl26 : Array (Option Value)} {oc26 kV26 dc26 pm26 cd26 ct26 : Value}
    (a26 : PySem.W.nsIn K mainGlobals "_law_odd_wish" = some (some (.ref f26))) (l26 : K.lookup f26 = some ⟨oc26, od26, .func (PySem.W.fnOf "_law_odd_wish" "_law_odd_wish" (defArgs s__law_odd_wish) (defBody s__law_odd_wish) (defScope s__law_odd_wish) .none kV26 dc26 pm26 an26 cd26 ct26), sl26⟩) (c26 : PySem.W.codeIn K cd26 "_law_odd_wish" = true) (k26 : PySem.W.keepIn K (.ref f26) = true)
    {od27 an27 : Option Addr} {sl27 : Array (Option Value)} {oc27 kV27 dc27 pm27 cd27 ct27 : Value}
    (a27 : PySem.W.nsIn K mainGlobals "_law_is_number" = some (some (.ref f27))) (l27 : K.lookup f27 = some ⟨oc27, od27, .func (PySem.W.fnOf "_law_is_number" "_law_is_number" (defArgs s__law_is_number) (defBody s__law_is_number) (defScope s__law_is_number) .none kV27 dc27 pm27 an27 cd27 ct27), sl27⟩) (c27 : PySem.W.codeIn K cd27 "_law_is_number" = true) (k27 : PySem.W.keepIn K (.ref f27) = true)
    {od28 an28 : Option Addr} {sl28 : Array (Option Value)} {oc28 kV28 dc28 pm28 cd28 ct28 : Value}
    (a28 : PySem.W.nsIn K mainGlobals "_law_is_name" = some (some (.ref f28))) (l28 : K.lookup f28 = some ⟨oc28, od28, .func (PySem.W.fnOf "_law_is_name" "_law_is_name" (defArgs s__law_is_name) (defBody s__law_is_name) (defScope s__law_is_name) .none kV28 dc28 pm28 an28 cd28 ct28), sl28⟩) (c28 : PySem.W.codeIn K cd28 "_law_is_name" = true) (k28 : PySem.W.keepIn K (.ref f28) = true)
    {od29 an29 : Option Addr} {sl29 : Array (Option Value)} {oc29 kV29 dc29 pm29 cd29 ct29 : Value}
    (a29 : PySem.W.nsIn K mainGlobals "_law_is_form" = some (some (.ref f29))) (l29 : K.lookup f29 = some ⟨oc29, od29, .func (PySem.W.fnOf "_law_is_form" "_law_is_form" (defArgs s__law_is_form) (defBody s__law_is_form) (defScope s__law_is_form) .none kV29 dc29 pm29 an29 cd29 ct29), sl29⟩) (c29 : PySem.W.codeIn K cd29 "_law_is_form" = true) (k29 : PySem.W.keepIn K (.ref f29) = true)
    {od30 an30 : Option Addr} {sl30 : Array (Option Value)} {oc30 kV30 dc30 pm30 cd30 ct30 : Value}
    (a30 : PySem.W.nsIn K mainGlobals "_law_is_line" = some (some (.ref f30))) (l30 : K.lookup f30 = some ⟨oc30, od30, .func (PySem.W.fnOf "_law_is_line" "_law_is_line" (defArgs s__law_is_line) (defBody s__law_is_line) (defScope s__law_is_line) .none kV30 dc30 pm30 an30 cd30 ct30), sl30⟩) (c30 : PySem.W.codeIn K cd30 "_law_is_line" = true) (k30 : PySem.W.keepIn K (.ref f30) = true)
    {od31 an31 : Option Addr} {sl31 : Array (Option Value)} {oc31 kV31 dc31 pm31 cd31 ct31 : Value}
    (a31 : PySem.W.nsIn K mainGlobals "_law_is_weight" = some (some (.ref f31))) (l31 : K.lookup f31 = some ⟨oc31, od31, .func (PySem.W.fnOf "_law_is_weight" "_law_is_weight" (defArgs s__law_is_weight) (defBody s__law_is_weight) (defScope s__law_is_weight) .none kV31 dc31 pm31 an31 cd31 ct31), sl31⟩) (c31 : PySem.W.codeIn K cd31 "_law_is_weight" = true) (k31 : PySem.W.keepIn K (.ref f31) = true)
    {od32 an32 : Option Addr} {sl32 : Array (Option Value)} {oc32 kV32 dc32 pm32 cd32 ct32 : Value}
    (a32 : PySem.W.nsIn K mainGlobals "_law_is_rung" = some (some (.ref f32))) (l32 : K.lookup f32 = some ⟨oc32, od32, .func (PySem.W.fnOf "_law_is_rung" "_law_is_rung" (defArgs s__law_is_rung) (defBody s__law_is_rung) (defScope s__law_is_rung) .none kV32 dc32 pm32 an32 cd32 ct32), sl32⟩) (c32 : PySem.W.codeIn K cd32 "_law_is_rung" = true) (k32 : PySem.W.keepIn K (.ref f32) = true)
    {od33 an33 : Option Addr} {sl33 : Array (Option Value)} {oc33 kV33 dc33 pm33 cd33 ct33 : Value}
    (a33 : PySem.W.nsIn K mainGlobals "_law_is_wish" = some (some (.ref f33))) (l33 : K.lookup f33 = some ⟨oc33, od33, .func (PySem.W.fnOf "_law_is_wish" "_law_is_wish" (defArgs s__law_is_wish) (defBody s__law_is_wish) (defScope s__law_is_wish) .none kV33 dc33 pm33 an33 cd33 ct33), sl33⟩) (c33 : PySem.W.codeIn K cd33 "_law_is_wish" = true) (k33 : PySem.W.keepIn K (.ref f33) = true)
    {od34 an34 : Option Addr} {sl34 : Array (Option Value)} {oc34 kV34 dc34 pm34 cd34 ct34 : Value}
    (a34 : PySem.W.nsIn K mainGlobals "_law_bent" = some (some (.ref f34))) (l34 : K.lookup f34 = some ⟨oc34, od34, .func (PySem.W.fnOf "_law_bent" "_law_bent" (defArgs s__law_bent) (defBody s__law_bent) (defScope s__law_bent) .none kV34 dc34 pm34 an34 cd34 ct34), sl34⟩) (c34 : PySem.W.codeIn K cd34 "_law_bent" = true) (k34 : PySem.W.keepIn K (.ref f34) = true)
    {od35 an35 : Option Addr} {sl35 : Array (Option Value)} {oc35 kV35 dc35 pm35 cd35 ct35 : Value}
    (a35 : PySem.W.nsIn K mainGlobals "_law_bent_right" = some (some (.ref f35))) (l35 : K.lookup f35 = some ⟨oc35, od35, .func (PySem.W.fnOf "_law_bent_right" "_law_bent_right" (defArgs s__law_bent_right) (defBody s__law_bent_right) (defScope s__law_bent_right) .none kV35 dc35 pm35 an35 cd35 ct35), sl35⟩) (c35 : PySem.W.codeIn K cd35 "_law_bent_right" = true) (k35 : PySem.W.keepIn K (.ref f35) = true)
    {od36 an36 : Option Addr} {sl36 : Array (Option Value)} {oc36 kV36 dc36 pm36 cd36 ct36 : Value}
    (a36 : PySem.W.nsIn K mainGlobals "_law_right" = some (some (.ref f36))) (l36 : K.lookup f36 = some ⟨oc36, od36, .func (PySem.W.fnOf "_law_right" "_law_right" (defArgs s__law_right) (defBody s__law_right) (defScope s__law_right) .none kV36 dc36 pm36 an36 cd36 ct36), sl36⟩) (c36 : PySem.W.codeIn K cd36 "_law_right" = true) (k36 : PySem.W.keepIn K (.ref f36) = true)
    {od37 an37 : Option Addr} {sl37 : Array (Option Value)} {oc37 kV37 dc37 pm37 cd37 ct37 : Value}
    (a37 : PySem.W.nsIn K mainGlobals "law" = some (some (.ref f37))) (l37 : K.lookup f37 = some ⟨oc37, od37, .func (PySem.W.fnOf "law" "law" (defArgs s_law) (defBody s_law) (defScope s_law) .none kV37 dc37 pm37 an37 cd37 ct37), sl37⟩) (c37 : PySem.W.codeIn K cd37 "law" = true) (k37 : PySem.W.keepIn K (.ref f37) = true)
    (z_isinstance : PySem.W.nsIn K mainGlobals "isinstance" = some none)
    (z_int : PySem.W.nsIn K mainGlobals "int" = some none)
    (z_bool : PySem.W.nsIn K mainGlobals "bool" = some none)
    (z_tuple : PySem.W.nsIn K mainGlobals "tuple" = some none)
    (z_len : PySem.W.nsIn K mainGlobals "len" = some none)
    (z_all : PySem.W.nsIn K mainGlobals "all" = some none)
    (z_abs : PySem.W.nsIn K mainGlobals "abs" = some none)
    (z_str : PySem.W.nsIn K mainGlobals "str" = some none)
    (z_range : PySem.W.nsIn K mainGlobals "range" = some none)
    (z_sum : PySem.W.nsIn K mainGlobals "sum" = some none)
    (z_sorted : PySem.W.nsIn K mainGlobals "sorted" = some none)
    (z_list : PySem.W.nsIn K mainGlobals "list" = some none)
    (z_set : PySem.W.nsIn K mainGlobals "set" = some none)
    (z_max : PySem.W.nsIn K mainGlobals "max" = some none)
    {Tc_KEPT : Addr} {odc_KEPT : Option Addr} {slc_KEPT : Array (Option Value)} {nc_KEPT : Nat} {tk_KEPT_0 tk_KEPT_1 tk_KEPT_2 tk_KEPT_3 tk_KEPT_4 tk_KEPT_5 tk_KEPT_6 tk_KEPT_7 tk_KEPT_8 tk_KEPT_9 tk_KEPT_10 tk_KEPT_11 tk_KEPT_12 tk_KEPT_13 tk_KEPT_14 tk_KEPT_15 tk_KEPT_16 tk_KEPT_17 tk_KEPT_18 tk_KEPT_19 tk_KEPT_20 tk_KEPT_21 tk_KEPT_22 tk_KEPT_23 tk_KEPT_24 : Tok} (qc_KEPT : PySem.W.nsIn K mainGlobals "KEPT" = some (some (.ref Tc_KEPT))) (lc_KEPT : K.lookup Tc_KEPT = some ⟨.type "tuple", odc_KEPT, .seq #[.str "best" tk_KEPT_0, .str "by" tk_KEPT_1, .str "core" tk_KEPT_2, .str "drag" tk_KEPT_3, .str "drop" tk_KEPT_4, .str "end" tk_KEPT_5, .str "follow" tk_KEPT_6, .str "gone" tk_KEPT_7, .str "groups" tk_KEPT_8, .str "let" tk_KEPT_9, .str "might" tk_KEPT_10, .str "missed" tk_KEPT_11, .str "must" tk_KEPT_12, .str "no" tk_KEPT_13, .str "none" tk_KEPT_14, .str "path" tk_KEPT_15, .str "range" tk_KEPT_16, .str "redo" tk_KEPT_17, .str "should" tk_KEPT_18, .str "show" tk_KEPT_19, .str "thing" tk_KEPT_20, .str "to" tk_KEPT_21, .str "undo" tk_KEPT_22, .str "wish" tk_KEPT_23, .str "yes" tk_KEPT_24] nc_KEPT, slc_KEPT⟩)
    {tk_MOST_LETTERS : Tok} (qc_MOST_LETTERS : PySem.W.nsIn K mainGlobals "MOST_LETTERS" = some (some (.int 6 tk_MOST_LETTERS)))
    {tk_LETTERS : Tok} (qc_LETTERS : PySem.W.nsIn K mainGlobals "LETTERS" = some (some (.str "abcdefghijklmnopqrstuvwxyz" tk_LETTERS)))
    {Tc_NOUGHT : Addr} {odc_NOUGHT : Option Addr} {slc_NOUGHT : Array (Option Value)} {nc_NOUGHT : Nat} {tk_NOUGHT_0 tk_NOUGHT_1 : Tok} (qc_NOUGHT : PySem.W.nsIn K mainGlobals "NOUGHT" = some (some (.ref Tc_NOUGHT))) (lc_NOUGHT : K.lookup Tc_NOUGHT = some ⟨.type "tuple", odc_NOUGHT, .seq #[.int 0 tk_NOUGHT_0, .int 1 tk_NOUGHT_1] nc_NOUGHT, slc_NOUGHT⟩)
    {Tc_SIGNS : Addr} {odc_SIGNS : Option Addr} {slc_SIGNS : Array (Option Value)} {nc_SIGNS : Nat} {tk_SIGNS_0 tk_SIGNS_1 : Tok} (qc_SIGNS : PySem.W.nsIn K mainGlobals "SIGNS" = some (some (.ref Tc_SIGNS))) (lc_SIGNS : K.lookup Tc_SIGNS = some ⟨.type "tuple", odc_SIGNS, .seq #[.str "<=" tk_SIGNS_0, .str "=" tk_SIGNS_1] nc_SIGNS, slc_SIGNS⟩)
    {tk_MOST_PAIRS : Tok} (qc_MOST_PAIRS : PySem.W.nsIn K mainGlobals "MOST_PAIRS" = some (some (.int 16 tk_MOST_PAIRS)))
    {Tc_STRENGTHS : Addr} {odc_STRENGTHS : Option Addr} {slc_STRENGTHS : Array (Option Value)} {nc_STRENGTHS : Nat} {tk_STRENGTHS_0 tk_STRENGTHS_1 tk_STRENGTHS_2 : Tok} (qc_STRENGTHS : PySem.W.nsIn K mainGlobals "STRENGTHS" = some (some (.ref Tc_STRENGTHS))) (lc_STRENGTHS : K.lookup Tc_STRENGTHS = some ⟨.type "tuple", odc_STRENGTHS, .seq #[.str "must" tk_STRENGTHS_0, .str "should" tk_STRENGTHS_1, .str "might" tk_STRENGTHS_2] nc_STRENGTHS, slc_STRENGTHS⟩) :
    ∃ fd : FuncData, (∀ (s : Shared) (v : Value), BindsTo s fd ⟨[v], []⟩ [("_law_script", v)]) ∧ ∀ base : Heap, K.In base → base.Ns mainGlobals mg → FnOk l.prog w K mg base CX0 14 fa fd ["_law_script"] (lift K spLaw) := by
  have e := hfa.symm.trans (PySem.W.mg_of X G a37)
  cases e
  have A0 : DefAt K mg "is_whole" s_is_whole ["thing"] := ⟨f0, _, funz_mk (st := s_is_whole) l0 c0 k0, PySem.W.mg_of X G a0, Binds.all (us1 (fun _  => rfl))⟩
  have A1 : DefAt K mg "common" s_common ["one", "other"] := ⟨f1, _, funz_mk (st := s_common) l1 c1 k1, PySem.W.mg_of X G a1, Binds.all (us2 (fun _ _  => rfl))⟩
  have A2 : DefAt K mg "is_number" s_is_number ["thing"] := ⟨f2, _, funz_mk (st := s_is_number) l2 c2 k2, PySem.W.mg_of X G a2, Binds.all (us1 (fun _  => rfl))⟩
  have A3 : DefAt K mg "number" s_number ["over", "under"] := ⟨f3, _, funz_mk (st := s_number) l3 c3 k3, PySem.W.mg_of X G a3, fun s us hX hl => match us, hl with | [_, _], _ => PySem.W.binds_K hX rfl t3 rfl rfl rfl⟩
  have A4 : DefAt K mg "is_row_of" s_is_row_of ["thing", "many"] := ⟨f4, _, funz_mk (st := s_is_row_of) l4 c4 k4, PySem.W.mg_of X G a4, Binds.all (us2 (fun _ _  => rfl))⟩
  have A5 : DefAt K mg "is_name" s_is_name ["thing"] := ⟨f5, _, funz_mk (st := s_is_name) l5 c5 k5, PySem.W.mg_of X G a5, Binds.all (us1 (fun _  => rfl))⟩
  have A6 : DefAt K mg "is_rising" s_is_rising ["names"] := ⟨f6, _, funz_mk (st := s_is_rising) l6 c6 k6, PySem.W.mg_of X G a6, Binds.all (us1 (fun _  => rfl))⟩
  have A7 : DefAt K mg "is_part" s_is_part ["thing"] := ⟨f7, _, funz_mk (st := s_is_part) l7 c7 k7, PySem.W.mg_of X G a7, Binds.all (us1 (fun _  => rfl))⟩
  have A8 : DefAt K mg "is_form" s_is_form ["thing"] := ⟨f8, _, funz_mk (st := s_is_form) l8 c8 k8, PySem.W.mg_of X G a8, Binds.all (us1 (fun _  => rfl))⟩
  have A9 : DefAt K mg "is_one_of" s_is_one_of ["thing", "words"] := ⟨f9, _, funz_mk (st := s_is_one_of) l9 c9 k9, PySem.W.mg_of X G a9, Binds.all (us2 (fun _ _  => rfl))⟩
  have A10 : DefAt K mg "is_line" s_is_line ["thing"] := ⟨f10, _, funz_mk (st := s_is_line) l10 c10 k10, PySem.W.mg_of X G a10, Binds.all (us1 (fun _  => rfl))⟩
  have A11 : DefAt K mg "is_weight" s_is_weight ["thing"] := ⟨f11, _, funz_mk (st := s_is_weight) l11 c11 k11, PySem.W.mg_of X G a11, Binds.all (us1 (fun _  => rfl))⟩
  have A12 : DefAt K mg "is_rung" s_is_rung ["thing"] := ⟨f12, _, funz_mk (st := s_is_rung) l12 c12 k12, PySem.W.mg_of X G a12, Binds.all (us1 (fun _  => rfl))⟩
  have A13 : DefAt K mg "is_wish" s_is_wish ["thing"] := ⟨f13, _, funz_mk (st := s_is_wish) l13 c13 k13, PySem.W.mg_of X G a13, Binds.all (us1 (fun _  => rfl))⟩
  have A14 : DefAt K mg "_law_state" s__law_state ["_law_script", "_law_k"] := ⟨f14, _, funz_mk (st := s__law_state) l14 c14 k14, PySem.W.mg_of X G a14, Binds.all (us2 (fun _ _  => rfl))⟩
  have A15 : DefAt K mg "_law_next" s__law_next ["_law_state_here", "_law_size"] := ⟨f15, _, funz_mk (st := s__law_next) l15 c15 k15, PySem.W.mg_of X G a15, Binds.all (us2 (fun _ _  => rfl))⟩
  have A16 : DefAt K mg "_law_names" s__law_names ["_law_state_here", "_law_size"] := ⟨f16, _, funz_mk (st := s__law_names) l16 c16 k16, PySem.W.mg_of X G a16, Binds.all (us2 (fun _ _  => rfl))⟩
  have A17 : DefAt K mg "_law_made" s__law_made ["_law_over", "_law_under"] := ⟨f17, _, funz_mk (st := s__law_made) l17 c17 k17, PySem.W.mg_of X G a17, Binds.all (us2 (fun _ _  => rfl))⟩
  have A18 : DefAt K mg "_law_drawn" s__law_drawn ["_law_state_here", "_law_most"] := ⟨f18, _, funz_mk (st := s__law_drawn) l18 c18 k18, PySem.W.mg_of X G a18, Binds.all (us2 (fun _ _  => rfl))⟩
  have A19 : DefAt K mg "_law_form" s__law_form ["_law_state_here", "_law_names_here", "_law_most"] := ⟨f19, _, funz_mk (st := s__law_form) l19 c19 k19, PySem.W.mg_of X G a19, Binds.all (us3 (fun _ _ _  => rfl))⟩
  have A20 : DefAt K mg "_law_line" s__law_line ["_law_state_here", "_law_names_here", "_law_most"] := ⟨f20, _, funz_mk (st := s__law_line) l20 c20 k20, PySem.W.mg_of X G a20, Binds.all (us3 (fun _ _ _  => rfl))⟩
  have A21 : DefAt K mg "_law_odd_number" s__law_odd_number ["_law_state_here", "_law_value"] := ⟨f21, _, funz_mk (st := s__law_odd_number) l21 c21 k21, PySem.W.mg_of X G a21, Binds.all (us2 (fun _ _  => rfl))⟩
  have A22 : DefAt K mg "_law_odd_form" s__law_odd_form ["_law_state_here", "_law_form_here"] := ⟨f22, _, funz_mk (st := s__law_odd_form) l22 c22 k22, PySem.W.mg_of X G a22, Binds.all (us2 (fun _ _  => rfl))⟩
  have A23 : DefAt K mg "_law_odd_line" s__law_odd_line ["_law_state_here", "_law_line_here"] := ⟨f23, _, funz_mk (st := s__law_odd_line) l23 c23 k23, PySem.W.mg_of X G a23, Binds.all (us2 (fun _ _  => rfl))⟩
  have A24 : DefAt K mg "_law_odd_weight" s__law_odd_weight ["_law_state_here"] := ⟨f24, _, funz_mk (st := s__law_odd_weight) l24 c24 k24, PySem.W.mg_of X G a24, Binds.all (us1 (fun _  => rfl))⟩
  have A25 : DefAt K mg "_law_odd_rung" s__law_odd_rung ["_law_state_here", "_law_line_here"] := ⟨f25, _, funz_mk (st := s__law_odd_rung) l25 c25 k25, PySem.W.mg_of X G a25, Binds.all (us2 (fun _ _  => rfl))⟩
  have A26 : DefAt K mg "_law_odd_wish" s__law_odd_wish ["_law_state_here", "_law_line_here"] := ⟨f26, _, funz_mk (st := s__law_odd_wish) l26 c26 k26, PySem.W.mg_of X G a26, Binds.all (us2 (fun _ _  => rfl))⟩
  have A27 : DefAt K mg "_law_is_number" s__law_is_number ["_law_whole"] := ⟨f27, _, funz_mk (st := s__law_is_number) l27 c27 k27, PySem.W.mg_of X G a27, Binds.all (us1 (fun _  => rfl))⟩
  have A28 : DefAt K mg "_law_is_name" s__law_is_name ["_law_whole"] := ⟨f28, _, funz_mk (st := s__law_is_name) l28 c28 k28, PySem.W.mg_of X G a28, Binds.all (us1 (fun _  => rfl))⟩
  have A29 : DefAt K mg "_law_is_form" s__law_is_form ["_law_whole"] := ⟨f29, _, funz_mk (st := s__law_is_form) l29 c29 k29, PySem.W.mg_of X G a29, Binds.all (us1 (fun _  => rfl))⟩
  have A30 : DefAt K mg "_law_is_line" s__law_is_line ["_law_whole"] := ⟨f30, _, funz_mk (st := s__law_is_line) l30 c30 k30, PySem.W.mg_of X G a30, Binds.all (us1 (fun _  => rfl))⟩
  have A31 : DefAt K mg "_law_is_weight" s__law_is_weight ["_law_whole"] := ⟨f31, _, funz_mk (st := s__law_is_weight) l31 c31 k31, PySem.W.mg_of X G a31, Binds.all (us1 (fun _  => rfl))⟩
  have A32 : DefAt K mg "_law_is_rung" s__law_is_rung ["_law_whole"] := ⟨f32, _, funz_mk (st := s__law_is_rung) l32 c32 k32, PySem.W.mg_of X G a32, Binds.all (us1 (fun _  => rfl))⟩
  have A33 : DefAt K mg "_law_is_wish" s__law_is_wish ["_law_whole"] := ⟨f33, _, funz_mk (st := s__law_is_wish) l33 c33 k33, PySem.W.mg_of X G a33, Binds.all (us1 (fun _  => rfl))⟩
  have A34 : DefAt K mg "_law_bent" s__law_bent ["_law_state_here", "_law_whole"] := ⟨f34, _, funz_mk (st := s__law_bent) l34 c34 k34, PySem.W.mg_of X G a34, Binds.all (us2 (fun _ _  => rfl))⟩
  have A35 : DefAt K mg "_law_bent_right" s__law_bent_right ["_law_state_here", "_law_line_here", "_law_rung", "_law_wish"] := ⟨f35, _, funz_mk (st := s__law_bent_right) l35 c35 k35, PySem.W.mg_of X G a35, Binds.all (us4 (fun _ _ _ _  => rfl))⟩
  have A36 : DefAt K mg "_law_right" s__law_right ["_law_state_here"] := ⟨f36, _, funz_mk (st := s__law_right) l36 c36 k36, PySem.W.mg_of X G a36, Binds.all (us1 (fun _  => rfl))⟩
  have mg_isinstance := PySem.W.mg_none_of X G z_isinstance
  have mg_int := PySem.W.mg_none_of X G z_int
  have mg_bool := PySem.W.mg_none_of X G z_bool
  have mg_tuple := PySem.W.mg_none_of X G z_tuple
  have mg_len := PySem.W.mg_none_of X G z_len
  have mg_all := PySem.W.mg_none_of X G z_all
  have mg_abs := PySem.W.mg_none_of X G z_abs
  have mg_str := PySem.W.mg_none_of X G z_str
  have mg_range := PySem.W.mg_none_of X G z_range
  have mg_sum := PySem.W.mg_none_of X G z_sum
  have mg_sorted := PySem.W.mg_none_of X G z_sorted
  have mg_list := PySem.W.mg_none_of X G z_list
  have mg_set := PySem.W.mg_none_of X G z_set
  have mg_max := PySem.W.mg_none_of X G z_max
  have c_KEPT : ConstAt K mg "KEPT" (.tup [.str "best", .str "by", .str "core", .str "drag", .str "drop", .str "end", .str "follow", .str "gone", .str "groups", .str "let", .str "might", .str "missed", .str "must", .str "no", .str "none", .str "path", .str "range", .str "redo", .str "should", .str "show", .str "thing", .str "to", .str "undo", .str "wish", .str "yes"]) := constT (PySem.W.mg_of X G qc_KEPT) lc_KEPT (vs := [.str "best", .str "by", .str "core", .str "drag", .str "drop", .str "end", .str "follow", .str "gone", .str "groups", .str "let", .str "might", .str "missed", .str "must", .str "no", .str "none", .str "path", .str "range", .str "redo", .str "should", .str "show", .str "thing", .str "to", .str "undo", .str "wish", .str "yes"]) (.cons ⟨_, rfl⟩ (.cons ⟨_, rfl⟩ (.cons ⟨_, rfl⟩ (.cons ⟨_, rfl⟩ (.cons ⟨_, rfl⟩ (.cons ⟨_, rfl⟩ (.cons ⟨_, rfl⟩ (.cons ⟨_, rfl⟩ (.cons ⟨_, rfl⟩ (.cons ⟨_, rfl⟩ (.cons ⟨_, rfl⟩ (.cons ⟨_, rfl⟩ (.cons ⟨_, rfl⟩ (.cons ⟨_, rfl⟩ (.cons ⟨_, rfl⟩ (.cons ⟨_, rfl⟩ (.cons ⟨_, rfl⟩ (.cons ⟨_, rfl⟩ (.cons ⟨_, rfl⟩ (.cons ⟨_, rfl⟩ (.cons ⟨_, rfl⟩ (.cons ⟨_, rfl⟩ (.cons ⟨_, rfl⟩ (.cons ⟨_, rfl⟩ (.cons ⟨_, rfl⟩ .nil))))))))))))))))))))))))) (szN 25) (fun _ => (.cons (.str _) (.cons (.str _) (.cons (.str _) (.cons (.str _) (.cons (.str _) (.cons (.str _) (.cons (.str _) (.cons (.str _) (.cons (.str _) (.cons (.str _) (.cons (.str _) (.cons (.str _) (.cons (.str _) (.cons (.str _) (.cons (.str _) (.cons (.str _) (.cons (.str _) (.cons (.str _) (.cons (.str _) (.cons (.str _) (.cons (.str _) (.cons (.str _) (.cons (.str _) (.cons (.str _) (.cons (.str _) .nil))))))))))))))))))))))))))
  have c_MOST_LETTERS : ConstAt K mg "MOST_LETTERS" (.int 6) := constI (PySem.W.mg_of X G qc_MOST_LETTERS)
  have c_LETTERS : ConstAt K mg "LETTERS" (.str "abcdefghijklmnopqrstuvwxyz") := constS (PySem.W.mg_of X G qc_LETTERS)
  have c_NOUGHT : ConstAt K mg "NOUGHT" (.tup [.int 0, .int 1]) := constT (PySem.W.mg_of X G qc_NOUGHT) lc_NOUGHT (vs := [.int 0, .int 1]) (.cons ⟨_, rfl⟩ (.cons ⟨_, rfl⟩ .nil)) (szN 2) (fun _ => (.cons (.int _) (.cons (.int _) .nil)))
  have c_SIGNS : ConstAt K mg "SIGNS" (.tup [.str "<=", .str "="]) := constT (PySem.W.mg_of X G qc_SIGNS) lc_SIGNS (vs := [.str "<=", .str "="]) (.cons ⟨_, rfl⟩ (.cons ⟨_, rfl⟩ .nil)) (szN 2) (fun _ => (.cons (.str _) (.cons (.str _) .nil)))
  have c_MOST_PAIRS : ConstAt K mg "MOST_PAIRS" (.int 16) := constI (PySem.W.mg_of X G qc_MOST_PAIRS)
  have c_STRENGTHS : ConstAt K mg "STRENGTHS" (.tup [.str "must", .str "should", .str "might"]) := constT (PySem.W.mg_of X G qc_STRENGTHS) lc_STRENGTHS (vs := [.str "must", .str "should", .str "might"]) (.cons ⟨_, rfl⟩ (.cons ⟨_, rfl⟩ (.cons ⟨_, rfl⟩ .nil))) (szN 3) (fun _ => (.cons (.str _) (.cons (.str _) (.cons (.str _) .nil))))
  refine ⟨PySem.W.fnOf "law" "law" (defArgs s_law) (defBody s_law) (defScope s_law) .none kV37 dc37 pm37 an37 cd37 ct37, fun s v => .of_eq rfl, fun base _ _ => ?_⟩
  · have D_is_whole : DefOk l.prog w K mg base 1 "is_whole" sp_is_whole := A0.ok fun f fd F => fn_is_whole F mg_isinstance mg_int mg_bool
    have D_common : DefOk l.prog w K mg base 1 "common" sp_common := A1.ok fun f fd F => fn_common F
    have D_is_number : DefOk l.prog w K mg base 2 "is_number" sp_is_number := A2.ok fun f fd F => fn_is_number F D_common D_is_whole mg_isinstance mg_tuple mg_len mg_all mg_abs
    have D_number : DefOk l.prog w K mg base 2 "number" sp_number := A3.ok fun f fd F => fn_number F D_common mg_abs
    have E_number1 : DefDf l.prog w K mg base 2 "number" sp_number [.int 1] := ⟨f3, _, ["over", "under"], [.int 1 u3_0], [.int 1], fn_number (funz_mk (st := s_number) l3 c3 k3) D_common mg_abs, PySem.W.mg_of X G a3, k3, fun s us hX hl => match us, (by simp at hl; omega : us.length = 1) with | [_], _ => PySem.W.binds_K hX rfl t3 rfl rfl rfl, (.cons ⟨_, rfl⟩ .nil), fun _ => (.cons (.int _) .nil)⟩
    have D_is_row_of : DefOk l.prog w K mg base 1 "is_row_of" sp_is_row_of := A4.ok fun f fd F => fn_is_row_of F mg_isinstance mg_tuple mg_len
    have D_is_name : DefOk l.prog w K mg base 1 "is_name" sp_is_name := A5.ok fun f fd F => fn_is_name F mg_all mg_isinstance mg_str mg_len c_KEPT c_MOST_LETTERS c_LETTERS
    have D_is_rising : DefOk l.prog w K mg base 1 "is_rising" sp_is_rising := A6.ok fun f fd F => fn_is_rising F mg_all mg_range mg_len
    have D_is_part : DefOk l.prog w K mg base 3 "is_part" sp_is_part := A7.ok fun f fd F => fn_is_part F D_is_name D_is_number mg_isinstance mg_tuple mg_len c_NOUGHT
    have D_is_form : DefOk l.prog w K mg base 4 "is_form" sp_is_form := A8.ok fun f fd F => fn_is_form F D_is_rising D_is_number D_is_part mg_isinstance mg_tuple mg_len mg_all
    have D_is_one_of : DefOk l.prog w K mg base 1 "is_one_of" sp_is_one_of := A9.ok fun f fd F => fn_is_one_of F mg_isinstance mg_str
    have D_is_line : DefOk l.prog w K mg base 5 "is_line" sp_is_line := A10.ok fun f fd F => fn_is_line F D_is_row_of D_is_form D_is_one_of c_SIGNS
    have K_is_line_0_thing : DefKw l.prog w K mg base 5 "is_line" sp_is_line 0 ["thing"] := ⟨f10, _, ["thing"], fn_is_line (funz_mk (st := s_is_line) l10 c10 k10) D_is_row_of D_is_form D_is_one_of c_SIGNS, PySem.W.mg_of X G a10, k10, by simp, fun s us ws hX hn hl => match us, ws, hn, (by simp at hl; omega : ws.length = 1) with | [], [_], _, _ => .of_eq rfl⟩
    have D_is_weight : DefOk l.prog w K mg base 3 "is_weight" sp_is_weight := A11.ok fun f fd F => fn_is_weight F D_is_number
    have D_is_rung : DefOk l.prog w K mg base 6 "is_rung" sp_is_rung := A12.ok fun f fd F => fn_is_rung F D_is_row_of D_is_weight D_is_line mg_all mg_isinstance mg_tuple mg_len c_MOST_PAIRS
    have K_is_rung_0_thing : DefKw l.prog w K mg base 6 "is_rung" sp_is_rung 0 ["thing"] := ⟨f12, _, ["thing"], fn_is_rung (funz_mk (st := s_is_rung) l12 c12 k12) D_is_row_of D_is_weight D_is_line mg_all mg_isinstance mg_tuple mg_len c_MOST_PAIRS, PySem.W.mg_of X G a12, k12, by simp, fun s us ws hX hn hl => match us, ws, hn, (by simp at hl; omega : ws.length = 1) with | [], [_], _, _ => .of_eq rfl⟩
    have D_is_wish : DefOk l.prog w K mg base 6 "is_wish" sp_is_wish := A13.ok fun f fd F => fn_is_wish F D_is_row_of D_is_one_of D_is_weight D_is_line D_number c_STRENGTHS E_number1
    have K_is_wish_0_thing : DefKw l.prog w K mg base 6 "is_wish" sp_is_wish 0 ["thing"] := ⟨f13, _, ["thing"], fn_is_wish (funz_mk (st := s_is_wish) l13 c13 k13) D_is_row_of D_is_one_of D_is_weight D_is_line D_number c_STRENGTHS E_number1, PySem.W.mg_of X G a13, k13, by simp, fun s us ws hX hn hl => match us, ws, hn, (by simp at hl; omega : ws.length = 1) with | [], [_], _, _ => .of_eq rfl⟩
    have D__law_state : DefOk l.prog w K mg base 1 "_law_state" sp__law_state := A14.ok fun f fd F => fn__law_state F mg_len mg_sum
    have D__law_next : DefOk l.prog w K mg base 1 "_law_next" sp__law_next := A15.ok fun f fd F => fn__law_next F
    have D__law_names : DefOk l.prog w K mg base 2 "_law_names" sp__law_names := A16.ok fun f fd F => fn__law_names F D__law_next mg_sorted mg_range mg_int
    have D__law_made : DefOk l.prog w K mg base 1 "_law_made" sp__law_made := A17.ok fun f fd F => fn__law_made F mg_abs
    have D__law_drawn : DefOk l.prog w K mg base 2 "_law_drawn" sp__law_drawn := A18.ok fun f fd F => fn__law_drawn F D__law_next D__law_made
    have D__law_form : DefOk l.prog w K mg base 3 "_law_form" sp__law_form := A19.ok fun f fd F => fn__law_form F D__law_drawn D__law_next mg_tuple
    have D__law_line : DefOk l.prog w K mg base 4 "_law_line" sp__law_line := A20.ok fun f fd F => fn__law_line F D__law_form D__law_next
    have D__law_odd_number : DefOk l.prog w K mg base 2 "_law_odd_number" sp__law_odd_number := A21.ok fun f fd F => fn__law_odd_number F D__law_next
    have D__law_odd_form : DefOk l.prog w K mg base 3 "_law_odd_form" sp__law_odd_form := A22.ok fun f fd F => fn__law_odd_form F D__law_odd_number D__law_drawn D__law_next mg_list
    have D__law_odd_line : DefOk l.prog w K mg base 4 "_law_odd_line" sp__law_odd_line := A23.ok fun f fd F => fn__law_odd_line F D__law_next D__law_odd_form
    have D__law_odd_weight : DefOk l.prog w K mg base 3 "_law_odd_weight" sp__law_odd_weight := A24.ok fun f fd F => fn__law_odd_weight F D__law_next D__law_odd_number D__law_drawn
    have D__law_odd_rung : DefOk l.prog w K mg base 5 "_law_odd_rung" sp__law_odd_rung := A25.ok fun f fd F => fn__law_odd_rung F D__law_next D__law_odd_weight D__law_odd_line
    have D__law_odd_wish : DefOk l.prog w K mg base 5 "_law_odd_wish" sp__law_odd_wish := A26.ok fun f fd F => fn__law_odd_wish F D__law_next D__law_odd_weight D__law_odd_line
    have D__law_is_number : DefOk l.prog w K mg base 2 "_law_is_number" sp__law_is_number := A27.ok fun f fd F => fn__law_is_number F D__law_made mg_isinstance mg_tuple mg_len mg_bool mg_int
    have D__law_is_name : DefOk l.prog w K mg base 1 "_law_is_name" sp__law_is_name := A28.ok fun f fd F => fn__law_is_name F mg_isinstance mg_str mg_len
    have D__law_is_form : DefOk l.prog w K mg base 3 "_law_is_form" sp__law_is_form := A29.ok fun f fd F => fn__law_is_form F D__law_is_number D__law_is_name mg_isinstance mg_tuple mg_len mg_sorted mg_set
    have D__law_is_line : DefOk l.prog w K mg base 4 "_law_is_line" sp__law_is_line := A30.ok fun f fd F => fn__law_is_line F D__law_is_form mg_isinstance mg_str mg_tuple mg_len
    have D__law_is_weight : DefOk l.prog w K mg base 3 "_law_is_weight" sp__law_is_weight := A31.ok fun f fd F => fn__law_is_weight F D__law_is_number
    have D__law_is_rung : DefOk l.prog w K mg base 5 "_law_is_rung" sp__law_is_rung := A32.ok fun f fd F => fn__law_is_rung F D__law_is_weight D__law_is_line mg_isinstance mg_tuple mg_len
    have D__law_is_wish : DefOk l.prog w K mg base 5 "_law_is_wish" sp__law_is_wish := A33.ok fun f fd F => fn__law_is_wish F D__law_is_weight D__law_is_line mg_isinstance mg_tuple mg_len mg_str
    have D__law_bent : DefOk l.prog w K mg base 11 "_law_bent" (spR__law_bent 9) := Nat.rec (motive := fun n => DefOk l.prog w K mg base (n + 2) "_law_bent" (spR__law_bent n)) (A34.ok fun f fd F => fn_false) (fun n D => A34.ok fun f fd F => fn__law_bent n F D__law_next mg_isinstance mg_tuple mg_int mg_str mg_len mg_list D) 9
    have D__law_bent_right : DefOk l.prog w K mg base 12 "_law_bent_right" sp__law_bent_right := A35.ok fun f fd F => fn__law_bent_right F D__law_bent D__law_is_line D__law_is_rung D__law_is_wish D_is_line D_is_rung D_is_wish mg_range mg_isinstance mg_bool
    have D__law_right : DefOk l.prog w K mg base 13 "_law_right" sp__law_right := A36.ok fun f fd F => fn__law_right F D__law_names D__law_line D__law_made D__law_bent_right D__law_next D_is_line D_is_rung D_is_wish D__law_odd_line D__law_odd_rung D__law_odd_wish K_is_line_0_thing K_is_rung_0_thing K_is_wish_0_thing
    exact fn_law (funz_mk (st := s_law) l37 c37 k37) D__law_right D__law_state mg_range mg_max mg_len

end W
open PySem PySem.W PyProof.Rows
set_option maxRecDepth 100000 in
set_option maxHeartbeats 0 in
theorem PySem.Challenge.cw_wishboard_k13_what_lines_are_holds : PySem.Challenge.rw_wishboard_k13_what_lines_are.Holds := by
  w_on; o_law; k_head; (case hw => w_witness2)
  k_fill
  refine Z.walkZ (l := PySem.Challenge.rw_wishboard_k13_what_lines_are) (k := 14) (x := "_law_script") rfl rfl ⟨rfl, by decide, by decide⟩ (fun w h Y => PySem.W.kIn_of Y) ?F
  case F =>
    intro w mg fa h KX G hmg
    refine' W.all_mk KX G hmg ?a0 ?l0 ?c0 ?k0 ?a1 ?l1 ?c1 ?k1 ?a2 ?l2 ?c2 ?k2 ?a3 ?l3 ?c3 ?k3 ?t3 ?a4 ?l4 ?c4 ?k4 ?a5 ?l5 ?c5 ?k5 ?a6 ?l6 ?c6 ?k6 ?a7 ?l7 ?c7 ?k7 ?a8 ?l8 ?c8 ?k8 ?a9 ?l9 ?c9 ?k9 ?a10 ?l10 ?c10 ?k10 ?a11 ?l11 ?c11 ?k11 ?a12 ?l12 ?c12 ?k12 ?a13 ?l13 ?c13 ?k13 ?a14 ?l14 ?c14 ?k14 ?a15 ?l15 ?c15 ?k15 ?a16 ?l16 ?c16 ?k16 ?a17 ?l17 ?c17 ?k17 ?a18 ?l18 ?c18 ?k18 ?a19 ?l19 ?c19 ?k19 ?a20 ?l20 ?c20 ?k20 ?a21 ?l21 ?c21 ?k21 ?a22 ?l22 ?c22 ?k22 ?a23 ?l23 ?c23 ?k23 ?a24 ?l24 ?c24 ?k24 ?a25 ?l25 ?c25 ?k25 ?a26 ?l26 ?c26 ?k26 ?a27 ?l27 ?c27 ?k27 ?a28 ?l28 ?c28 ?k28 ?a29 ?l29 ?c29 ?k29 ?a30 ?l30 ?c30 ?k30 ?a31 ?l31 ?c31 ?k31 ?a32 ?l32 ?c32 ?k32 ?a33 ?l33 ?c33 ?k33 ?a34 ?l34 ?c34 ?k34 ?a35 ?l35 ?c35 ?k35 ?a36 ?l36 ?c36 ?k36 ?a37 ?l37 ?c37 ?k37 ?z_isinstance ?z_int ?z_bool ?z_tuple ?z_len ?z_all ?z_abs ?z_str ?z_range ?z_sum ?z_sorted ?z_list ?z_set ?z_max ?qc_KEPT ?lc_KEPT ?qc_MOST_LETTERS ?qc_LETTERS ?qc_NOUGHT ?lc_NOUGHT ?qc_SIGNS ?lc_SIGNS ?qc_MOST_PAIRS ?qc_STRENGTHS ?lc_STRENGTHS
    (case a0 => k_is)
    (case l0 => k_is)
    (case c0 => k_is)
    (case k0 => k_is)
    (case a1 => k_is)
    (case l1 => k_is)
    (case c1 => k_is)
    (case k1 => k_is)
    (case a2 => k_is)
    (case l2 => k_is)
    (case c2 => k_is)
    (case k2 => k_is)
    (case a3 => k_is)
    (case l3 => k_is)
    (case c3 => k_is)
    (case k3 => k_is)
    (case t3 => k_is)
    (case a4 => k_is)
    (case l4 => k_is)
    (case c4 => k_is)
    (case k4 => k_is)
    (case a5 => k_is)
    (case l5 => k_is)
    (case c5 => k_is)
    (case k5 => k_is)
    (case a6 => k_is)
    (case l6 => k_is)
    (case c6 => k_is)
    (case k6 => k_is)
    (case a7 => k_is)
    (case l7 => k_is)
    (case c7 => k_is)
    (case k7 => k_is)
    (case a8 => k_is)
    (case l8 => k_is)
    (case c8 => k_is)
    (case k8 => k_is)
    (case a9 => k_is)
    (case l9 => k_is)
    (case c9 => k_is)
    (case k9 => k_is)
    (case a10 => k_is)
    (case l10 => k_is)
    (case c10 => k_is)
    (case k10 => k_is)
    (case a11 => k_is)
    (case l11 => k_is)
    (case c11 => k_is)
    (case k11 => k_is)
    (case a12 => k_is)
    (case l12 => k_is)
    (case c12 => k_is)
    (case k12 => k_is)
    (case a13 => k_is)
    (case l13 => k_is)
    (case c13 => k_is)
    (case k13 => k_is)
    (case a14 => k_is)
    (case l14 => k_is)
    (case c14 => k_is)
    (case k14 => k_is)
    (case a15 => k_is)
    (case l15 => k_is)
    (case c15 => k_is)
    (case k15 => k_is)
    (case a16 => k_is)
    (case l16 => k_is)
    (case c16 => k_is)
    (case k16 => k_is)
    (case a17 => k_is)
    (case l17 => k_is)
    (case c17 => k_is)
    (case k17 => k_is)
    (case a18 => k_is)
    (case l18 => k_is)
    (case c18 => k_is)
    (case k18 => k_is)
    (case a19 => k_is)
    (case l19 => k_is)
    (case c19 => k_is)
    (case k19 => k_is)
    (case a20 => k_is)
    (case l20 => k_is)
    (case c20 => k_is)
    (case k20 => k_is)
    (case a21 => k_is)
    (case l21 => k_is)
    (case c21 => k_is)
    (case k21 => k_is)
    (case a22 => k_is)
    (case l22 => k_is)
    (case c22 => k_is)
    (case k22 => k_is)
    (case a23 => k_is)
    (case l23 => k_is)
    (case c23 => k_is)
    (case k23 => k_is)
    (case a24 => k_is)
    (case l24 => k_is)
    (case c24 => k_is)
    (case k24 => k_is)
    (case a25 => k_is)
    (case l25 => k_is)
    (case c25 => k_is)
    (case k25 => k_is)
    (case a26 => k_is)
    (case l26 => k_is)
    (case c26 => k_is)
    (case k26 => k_is)
    (case a27 => k_is)
    (case l27 => k_is)
    (case c27 => k_is)
    (case k27 => k_is)
    (case a28 => k_is)
    (case l28 => k_is)
    (case c28 => k_is)
    (case k28 => k_is)
    (case a29 => k_is)
    (case l29 => k_is)
    (case c29 => k_is)
    (case k29 => k_is)
    (case a30 => k_is)
    (case l30 => k_is)
    (case c30 => k_is)
    (case k30 => k_is)
    (case a31 => k_is)
    (case l31 => k_is)
    (case c31 => k_is)
    (case k31 => k_is)
    (case a32 => k_is)
    (case l32 => k_is)
    (case c32 => k_is)
    (case k32 => k_is)
    (case a33 => k_is)
    (case l33 => k_is)
    (case c33 => k_is)
    (case k33 => k_is)
    (case a34 => k_is)
    (case l34 => k_is)
    (case c34 => k_is)
    (case k34 => k_is)
    (case a35 => k_is)
    (case l35 => k_is)
    (case c35 => k_is)
    (case k35 => k_is)
    (case a36 => k_is)
    (case l36 => k_is)
    (case c36 => k_is)
    (case k36 => k_is)
    (case a37 => k_is)
    (case l37 => k_is)
    (case c37 => k_is)
    (case k37 => k_is)
    (case z_isinstance => k_is)
    (case z_int => k_is)
    (case z_bool => k_is)
    (case z_tuple => k_is)
    (case z_len => k_is)
    (case z_all => k_is)
    (case z_abs => k_is)
    (case z_str => k_is)
    (case z_range => k_is)
    (case z_sum => k_is)
    (case z_sorted => k_is)
    (case z_list => k_is)
    (case z_set => k_is)
    (case z_max => k_is)
    (case qc_KEPT => k_is)
    (case lc_KEPT => k_is)
    (case qc_MOST_LETTERS => k_is)
    (case qc_LETTERS => k_is)
    (case qc_NOUGHT => k_is)
    (case lc_NOUGHT => k_is)
    (case qc_SIGNS => k_is)
    (case lc_SIGNS => k_is)
    (case qc_MOST_PAIRS => k_is)
    (case qc_STRENGTHS => k_is)
    (case lc_STRENGTHS => k_is)
