import PyProof.Rows.All
import Wide.All
import OpenK.AllK
import Wide.FinOn
import KE.KStateDown
import Lean
import HandS.ForMost
import HandS.Exc
import HandS.Defaults
import HandS.IsInst
import HandS.Walk
import HandS.TupAny
import HandS.Flow
import HandS.Style
import HandS.HeadHook1
import HandS.HeadHook2
import HandS.Strs
import KE.GoesEnum
import HandS.DictComp
import HandS.TupLe
import PyProof.ReprRoads
import PyProof.StrBlock2
import PyProof.Rows.TupDisplay
import HandS.Ends
import HandS.HeadEnd
import HandS.Head0
import HandS.Head1
import HandS.Head2
import HandS.HeadHook3
import HandS.HeadHook4
import HandS.Deep
import HandS.Zip
import KE.GoesMore
import KE.GoesZip
import PySem.Challenge.RW_fliponce_k27_whole_rules_more
set_option Elab.async false
set_option linter.all false
set_option maxRecDepth 100000
set_option maxHeartbeats 2000000
/-! The data layer: values as trees, a small store, weakest preconditions over slots and store. -/
namespace FD
open PySem PySem.Spec PyProof.Rows L2

/-- a value as a tree; tup, ftp, ktp: a tuple (one that may be a key; one whose methods may be called; any); lst, scr: a list (a frozen one of ours; any); ptr: a thing with an identity, its content stands in the store; obj, dcK, dcT: an object, a dict, that is not changed any more -/

inductive D where
  | non
  | bl (b : Bool)
  | int (i : Int)
  | str (s : Str)
  | tup (l : List D)
  | ftp (l : List D)
  | ktp (l : List D)
  | lst (l : List D)
  | scr (l : List D)
  | ptr (a : Addr)
  | obj (C : Addr) (fs : List (Str × D))
  | dcK (l : List (Key × D))
  | dcT (l : List (List Key × D))
/-- what stands in the store -/
inductive MO where
  | lst (l : List D)
  | dK (kvs : List (Key × D))
  | dT (kvs : List (List Key × D))
  | ins (C : Addr) (fs : List (Str × D))
abbrev Mem := Addr → Option MO
def Mem.upd (M : Mem) (a : Addr) (o : MO) : Mem := fun b => if b = a then some o else M b
theorem Mem.upd_same {M : Mem} {a : Addr} {o : MO} : M.upd a o a = some o := by unfold Mem.upd; rw [if_pos rfl]
theorem Mem.upd_ne {M : Mem} {a b : Addr} {o : MO} (h : b ≠ a) : M.upd a o b = M b := by unfold Mem.upd; rw [if_neg h]
def Mem.le (M M' : Mem) : Prop := ∀ a o, M a = some o → M' a = some o
theorem Mem.le_refl (M : Mem) : M.le M := fun _ _ h => h
theorem Mem.le.trans {M M1 M2 : Mem} (a : M.le M1) (b : M1.le M2) : M.le M2 := fun c o h => b c o (a c o h)
theorem Mem.le_upd {M : Mem} {a : Addr} {o : MO} (h : M a = none) : M.le (M.upd a o) := fun b u e => by
  have n : b ≠ a := fun z => by rw [z, h] at e; cases e
  rw [Mem.upd_ne n]; exact e

/-- the frozen part of the heap: what may be read as data, and what is reserved for somebody further up -/
inductive RO where
  | ice (o : HO)
  | res (o : HO)
abbrev F := Addr → Option RO
def F.ice (h : F) : Hp := fun a => match h a with
  | some (.ice o) => some o
  | _ => none
def F.put (h : F) (a : Addr) (o : RO) : F := fun b => if b = a then some o else h b
theorem F.put_same {h : F} {a : Addr} {o : RO} : h.put a o a = some o := by unfold F.put; rw [if_pos rfl]
theorem F.put_ne {h : F} {a b : Addr} {o : RO} (n : b ≠ a) : h.put a o b = h b := by unfold F.put; rw [if_neg n]
def F.le (h h' : F) : Prop := ∀ a o, h a = some o → h' a = some o
theorem F.le.refl (h : F) : h.le h := fun _ _ e => e
theorem F.le.trans {h h1 h2 : F} (a : h.le h1) (b : h1.le h2) : h.le h2 := fun c o e => b c o (a c o e)
theorem F.ice_of {h : F} {a : Addr} {o : HO} (e : h.ice a = some o) : h a = some (.ice o) := by
  unfold F.ice at e
  split at e
  · rename_i o' q
    cases e; exact q
  · cases e
theorem F.ice_eq {h : F} {a : Addr} {o : HO} (e : h a = some (.ice o)) : h.ice a = some o := by unfold F.ice; rw [e]
theorem F.ice_none {h : F} {a : Addr} (e : h a = none) : h.ice a = none := by unfold F.ice; rw [e]
theorem F.le.ice {h h' : F} (e : h.le h') : Same h.ice h'.ice := fun a o q => F.ice_eq (e a _ (F.ice_of q))
theorem F.le_put {h : F} {a : Addr} {o : RO} (n : h a = none) : h.le (h.put a o) := fun b u e => by
  have ne : b ≠ a := fun z => by rw [z, n] at e; cases e
  rw [F.put_ne ne]; exact e

/-- a text within the line, of real signs -/
def sOk (s : Str) : Bool := decide (s.cps.size ≤ 16777216) && s.cps.all (· < 0x110000)
theorem sOk_len {s : Str} (h : sOk s = true) : s.length ≤ sizeLine := by
  unfold sOk at h
  rw [sizeLine_eq]
  exact of_decide_eq_true (Bool.and_eq_true_iff.mp h).1
theorem sOk_real {s : Str} (h : sOk s = true) : PyData.strOk s = true := (Bool.and_eq_true_iff.mp h).2
theorem sOk_mem {s : Str} (h : sOk s = true) {c : Nat} (m : c ∈ s.cps.toList) : c < 0x110000 := by
  have q := (Bool.and_eq_true_iff.mp h).2
  rw [← Array.all_toList, List.all_eq_true] at q
  exact of_decide_eq_true (q c m)
theorem sOk_of {s : Str} (h : s.cps.size ≤ 16777216) (m : ∀ c ∈ s.cps.toList, c < 0x110000) : sOk s = true := by
  unfold sOk
  rw [Bool.and_eq_true]
  refine ⟨decide_eq_true h, ?_⟩
  rw [← Array.all_toList, List.all_eq_true]
  exact fun c hc => decide_eq_true (m c hc)
theorem sOk_sign {s : Str} (h : sOk s = true) {c : Nat} (m : c ∈ s.cps.toList) : sOk ⟨#[c]⟩ = true := sOk_of (by simp) fun d hd => by
  have e : d = c := by simpa using hd
  subst e; exact sOk_mem h m
theorem sOk_append {s t : Str} (h : sOk s = true) (h' : sOk t = true) (l : s.length + t.length ≤ 16777216) : sOk (s ++ t) = true := by
  refine sOk_of ?_ fun c hc => ?_
  · show (s.cps ++ t.cps).size ≤ _
    rw [Array.size_append]; exact l
  · have q : c ∈ (s.cps ++ t.cps).toList := hc
    rw [Array.toList_append] at q
    exact (List.mem_append.mp q).elim (sOk_mem h) (sOk_mem h')

mutual
/-- the value v stands for the tree d -/
inductive Rp (K : PySem.W.Frag) (H : F) : V → D → Prop
  | non : Rp K H .non .non
  | bl (b : Bool) : Rp K H (.bl b) (.bl b)
  | int (i : Int) : Rp K H (.int i) (.int i)
  | str (s : Str) (h : sOk s = true) : Rp K H (.str s) (.str s)
  | tup {a : Addr} {xs : List V} {ds : List D} (h : H.ice a = some (.tup xs)) (ha : RpAll K H xs ds) (hz : ds.length ≤ sizeLine) : Rp K H (.ref a) (.tup ds)
  | ftp {a : Addr} {o : Obj} {xs : List V} {ds : List D} (h : H.ice a = some (.frz o (.tup xs))) (hd : o.dict = none) (ha : RpAll K H xs ds) (hz : ds.length ≤ sizeLine) : Rp K H (.ref a) (.ftp ds)
  | ktp {a : Addr} {xs : List V} {ds : List D} (h : SqT K H.ice a xs) (ha : RpAll K H xs ds) (hz : ds.length ≤ sizeLine) : Rp K H (.ref a) (.ktp ds)
  | lst {a : Addr} {xs : List V} {ds : List D} (h : H.ice a = some (.lst xs)) (ha : RpAll K H xs ds) (hz : ds.length ≤ sizeLine) : Rp K H (.ref a) (.lst ds)
  | scr {a : Addr} {xs : List V} {ds : List D} (h : SqL K H.ice a xs) (ha : RpAll K H xs ds) (hz : ds.length ≤ sizeLine) : Rp K H (.ref a) (.scr ds)
  | ptr (a : Addr) : Rp K H (.ref a) (.ptr a)
  | obj {a C dx : Addr} {xs : List (Str × V)} {ds : List (Str × D)} (h : H.ice a = some (.ins C dx xs)) (hk : xs.map (·.1) = ds.map (·.1)) (ha : RpAll K H (xs.map (·.2)) (ds.map (·.2))) : Rp K H (.ref a) (.obj C ds)
  | dcK {a : Addr} {xs : List (Key × V)} {ds : List (Key × D)} (h : H.ice a = some (.dK xs)) (hk : xs.map (·.1) = ds.map (·.1)) (ha : RpAll K H (xs.map (·.2)) (ds.map (·.2))) : Rp K H (.ref a) (.dcK ds)
  | dcT {a : Addr} {xs : List (List Key × V)} {ds : List (List Key × D)} (h : H.ice a = some (.dT xs)) (hk : xs.map (·.1) = ds.map (·.1)) (ha : RpAll K H (xs.map (·.2)) (ds.map (·.2))) : Rp K H (.ref a) (.dcT ds)
inductive RpAll (K : PySem.W.Frag) (H : F) : List V → List D → Prop
  | nil : RpAll K H [] []
  | cons {v : V} {vs : List V} {d : D} {ds : List D} (h : Rp K H v d) (t : RpAll K H vs ds) : RpAll K H (v :: vs) (d :: ds)
end

theorem seqT_mono {K : PySem.W.Frag} {H H' : Hp} {a : Addr} {xs : List V} (e : Same H H') (h : SqT K H a xs) : SqT K H' a xs := by
  rcases h with (h | ⟨o, h⟩) | h
  · exact .inl (.inl (e _ _ h))
  · exact .inl (.inr ⟨o, e _ _ h⟩)
  · exact .inr h
mutual
theorem Rp.mono' {K : PySem.W.Frag} {H H' : F} (e : Same H.ice H'.ice) : ∀ {v : V} {d : D}, Rp K H v d → Rp K H' v d
  | _, _, .non => .non
  | _, _, .bl b => .bl b
  | _, _, .int i => .int i
  | _, _, .str s h => .str s h
  | _, _, .tup h ha hz => .tup (e _ _ h) (RpAll.mono' e ha) hz
  | _, _, .ftp h hd ha hz => .ftp (e _ _ h) hd (RpAll.mono' e ha) hz
  | _, _, .ktp h ha hz => .ktp (seqT_mono e h) (RpAll.mono' e ha) hz
  | _, _, .lst h ha hz => .lst (e _ _ h) (RpAll.mono' e ha) hz
  | _, _, .scr h ha hz => .scr (e.seq h) (RpAll.mono' e ha) hz
  | _, _, .ptr a => .ptr a
  | _, _, .obj h hk ha => .obj (e _ _ h) hk (RpAll.mono' e ha)
  | _, _, .dcK h hk ha => .dcK (e _ _ h) hk (RpAll.mono' e ha)
  | _, _, .dcT h hk ha => .dcT (e _ _ h) hk (RpAll.mono' e ha)
theorem RpAll.mono' {K : PySem.W.Frag} {H H' : F} (e : Same H.ice H'.ice) : ∀ {vs : List V} {ds : List D}, RpAll K H vs ds → RpAll K H' vs ds
  | _, _, .nil => .nil
  | _, _, .cons h t => .cons (Rp.mono' e h) (RpAll.mono' e t)
end
theorem Rp.mono {K : PySem.W.Frag} {H H' : F} (e : H.le H') {v : V} {d : D} (h : Rp K H v d) : Rp K H' v d := h.mono' e.ice
theorem RpAll.mono {K : PySem.W.Frag} {H H' : F} (e : H.le H') {vs : List V} {ds : List D} (h : RpAll K H vs ds) : RpAll K H' vs ds := h.mono' e.ice
def tupOf : D → Option (List D)
  | .tup l => some l
  | .ftp l => some l
  | .ktp l => some l
  | _ => none
theorem Rp.tupl {K : PySem.W.Frag} {H : F} {v : V} {d : D} {l : List D} (e : tupOf d = some l) (r : Rp K H v d) : ∃ a xs, v = .ref a ∧ SqT K H.ice a xs ∧ RpAll K H xs l ∧ l.length ≤ sizeLine := by
  cases r with
  | tup h ha hz => cases e; exact ⟨_, _, rfl, .of h, ha, hz⟩
  | ftp h hd ha hz => cases e; exact ⟨_, _, rfl, .inl (.inr ⟨_, h⟩), ha, hz⟩
  | ktp h ha hz => cases e; exact ⟨_, _, rfl, h, ha, hz⟩
  | _ => cases e
section
variable {K : PySem.W.Frag} {H H' : F}
theorem RpAll.length : ∀ {vs : List V} {ds : List D}, RpAll K H vs ds → vs.length = ds.length
  | _, _, .nil => rfl
  | _, _, .cons _ t => by rw [List.length_cons, List.length_cons, RpAll.length t]
theorem RpAll.get : ∀ {vs : List V} {ds : List D} {i : Nat} {d : D}, RpAll K H vs ds → ds[i]? = some d → ∃ v, vs[i]? = some v ∧ Rp K H v d
  | _, _, i, _, .nil, e => by simp at e
  | _, _, 0, _, .cons h _, e => by simp at e; subst e; exact ⟨_, rfl, h⟩
  | _, _, i + 1, d, .cons _ t, e => by
    obtain ⟨v, h1, h2⟩ := RpAll.get (i := i) (d := d) t (by simpa using e)
    exact ⟨v, by simpa using h1, h2⟩
theorem RpAll.getV : ∀ {vs : List V} {ds : List D} {i : Nat} {v : V}, RpAll K H vs ds → vs[i]? = some v → ∃ d, ds[i]? = some d ∧ Rp K H v d
  | _, _, i, _, .nil, e => by simp at e
  | _, _, 0, _, .cons h _, e => by simp at e; subst e; exact ⟨_, rfl, h⟩
  | _, _, i + 1, v, .cons _ t, e => by
    obtain ⟨d, h1, h2⟩ := RpAll.getV (i := i) (v := v) t (by simpa using e)
    exact ⟨d, by simpa using h1, h2⟩
theorem RpAll.append : ∀ {vs us : List V} {ds es : List D}, RpAll K H vs ds → RpAll K H us es → RpAll K H (vs ++ us) (ds ++ es)
  | _, _, _, _, .nil, q => q
  | _, _, _, _, .cons h t, q => .cons h (RpAll.append t q)
theorem RpAll.take : ∀ {vs : List V} {ds : List D} (n : Nat), RpAll K H vs ds → RpAll K H (vs.take n) (ds.take n)
  | _, _, 0, _ => .nil
  | _, _, _ + 1, .nil => .nil
  | _, _, n + 1, .cons h t => .cons h (RpAll.take n t)
theorem RpAll.drop : ∀ {vs : List V} {ds : List D} (n : Nat), RpAll K H vs ds → RpAll K H (vs.drop n) (ds.drop n)
  | _, _, 0, h => h
  | _, _, _ + 1, .nil => .nil
  | _, _, n + 1, .cons _ t => RpAll.drop n t
theorem RpAll.set {v : V} {d : D} (r : Rp K H v d) : ∀ {vs : List V} {ds : List D} (i : Nat), RpAll K H vs ds → RpAll K H (vs.set i v) (ds.set i d)
  | _, _, _, .nil => .nil
  | _, _, 0, .cons _ t => .cons r t
  | _, _, i + 1, .cons h t => .cons h (RpAll.set r i t)
theorem RpAll.erase : ∀ {vs : List V} {ds : List D} (i : Nat), RpAll K H vs ds → RpAll K H (vs.eraseIdx i) (ds.eraseIdx i)
  | _, _, _, .nil => .nil
  | _, _, 0, .cons _ t => t
  | _, _, i + 1, .cons h t => .cons h (RpAll.erase i t)
end

/-- pairs of a key and a value -/
def RpKV {κ : Type} (K : PySem.W.Frag) (H : F) : List (κ × V) → List (κ × D) → Prop := Paired fun p q => p.1 = q.1 ∧ Rp K H p.2 q.2
theorem RpKV.mono' {κ : Type} {K : PySem.W.Frag} {H H' : F} (e : Same H.ice H'.ice) : ∀ {a : List (κ × V)} {b : List (κ × D)}, RpKV K H a b → RpKV K H' a b
  | _, _, .nil => .nil
  | _, _, .cons h t => .cons ⟨h.1, h.2.mono' e⟩ (RpKV.mono' e t)
theorem kv_of {κ : Type} {K : PySem.W.Frag} {H : F} : ∀ {xs : List (κ × V)} {ds : List (κ × D)}, xs.map (·.1) = ds.map (·.1) → RpAll K H (xs.map (·.2)) (ds.map (·.2)) → RpKV K H xs ds
  | [], [], _, _ => .nil
  | [], _ :: _, h, _ => by cases h
  | _ :: _, [], h, _ => by cases h
  | (x, v) :: xs, (y, d) :: ds, h, .cons r t => by
    simp only [List.map_cons, List.cons.injEq] at h
    exact .cons ⟨h.1, r⟩ (kv_of h.2 t)
theorem kv_to {κ : Type} {K : PySem.W.Frag} {H : F} : ∀ {xs : List (κ × V)} {ds : List (κ × D)}, RpKV K H xs ds → xs.map (·.1) = ds.map (·.1) ∧ RpAll K H (xs.map (·.2)) (ds.map (·.2))
  | _, _, .nil => ⟨rfl, .nil⟩
  | (x, v) :: xs, (y, d) :: ds, .cons h t => by
    obtain ⟨h1, h2⟩ := kv_to t
    have e : x = y := h.1
    simp only [List.map_cons, e, h1, true_and]
    exact .cons h.2 h2
inductive RpO (K : PySem.W.Frag) (H : F) : MO → HO → Prop
  | lst {xs : List V} {ds : List D} (h : RpAll K H xs ds) (hz : ds.length ≤ sizeLine) : RpO K H (.lst ds) (.lst xs)
  | dK {xs : List (Key × V)} {ds : List (Key × D)} (h : RpKV K H xs ds) : RpO K H (.dK ds) (.dK xs)
  | dT {xs : List (List Key × V)} {ds : List (List Key × D)} (h : RpKV K H xs ds) : RpO K H (.dT ds) (.dT xs)
  | ins {C dx : Addr} {xs : List (Str × V)} {ds : List (Str × D)} (h : RpKV K H xs ds) : RpO K H (.ins C ds) (.ins C dx xs)
theorem RpO.mono' {K : PySem.W.Frag} {H H' : F} (e : Same H.ice H'.ice) {m : MO} {o : HO} (h : RpO K H m o) : RpO K H' m o := by
  cases h with
  | lst h hz => exact .lst (h.mono' e) hz
  | dK h => exact .dK (h.mono' e)
  | dT h => exact .dT (h.mono' e)
  | ins h => exact .ins (h.mono' e)
theorem RpO.mono {K : PySem.W.Frag} {H H' : F} (e : H.le H') {m : MO} {o : HO} (h : RpO K H m o) : RpO K H' m o := h.mono' e.ice
/-- the heap H holds the frozen part H0 and the store M -/
structure Fr (K : PySem.W.Frag) (H : Hp) (H0 : F) (M : Mem) : Prop where
  sub : Same H0.ice H
  res : ∀ a o, H0 a = some (.res o) → H a = some o
  mem : ∀ a mo, M a = some mo → H0 a = none ∧ ∃ o, H a = some o ∧ RpO K H0 mo o
abbrev Env := List (Option D)
/-- the slots -/
structure RpE (K : PySem.W.Frag) (H : F) (σ : L2.St) (Γ : Env) : Prop where
  len : σ.length = Γ.length
  at_ : ∀ (i : Nat) (d : D), Γ[i]? = some (some d) → ∃ v, σ[i]? = some (some v) ∧ Rp K H v d
theorem RpE.mono {K : PySem.W.Frag} {H H' : F} {σ : L2.St} {Γ : Env} (e : H.le H') (r : RpE K H σ Γ) : RpE K H' σ Γ :=
  ⟨r.len, fun i d h => let ⟨v, h1, h2⟩ := r.at_ i d h; ⟨v, h1, h2.mono e⟩⟩
theorem RpE.set {K : PySem.W.Frag} {H : F} {σ : L2.St} {Γ : Env} {v : V} {d : D} (r : RpE K H σ Γ) (i : Nat) (h : Rp K H v d) : RpE K H (σ.set i (some v)) (Γ.set i (some d)) := by
  refine ⟨by rw [List.length_set, List.length_set, r.len], fun j e hj => ?_⟩
  by_cases hij : i = j
  · subst hij
    by_cases hl : i < Γ.length
    · rw [List.getElem?_set_self hl] at hj
      cases hj
      exact ⟨v, List.getElem?_set_self (by rw [r.len]; exact hl), h⟩
    · rw [List.getElem?_eq_none (by rw [List.length_set]; omega)] at hj
      cases hj
  · rw [List.getElem?_set_ne hij] at hj
    obtain ⟨u, h1, h2⟩ := r.at_ j e hj
    exact ⟨u, by rw [List.getElem?_set_ne hij]; exact h1, h2⟩
theorem RpE.unset {K : PySem.W.Frag} {H : F} {σ : L2.St} {Γ : Env} (r : RpE K H σ Γ) (i : Nat) : RpE K H (σ.set i none) (Γ.set i none) := by
  refine ⟨by rw [List.length_set, List.length_set, r.len], fun j e hj => ?_⟩
  by_cases hij : i = j
  · subst hij
    by_cases hl : i < Γ.length
    · rw [List.getElem?_set_self hl] at hj
      cases hj
    · rw [List.getElem?_eq_none (by rw [List.length_set]; omega)] at hj
      cases hj
  · rw [List.getElem?_set_ne hij] at hj
    obtain ⟨u, h1, h2⟩ := r.at_ j e hj
    exact ⟨u, by rw [List.getElem?_set_ne hij]; exact h1, h2⟩

/-! ### lifted readings -/
abbrev WK := D → Mem → Prop
abbrev WE := Env → Mem → WK → Prop
abbrev WT := Env → Mem → (Bool → Mem → Prop) → Prop
abbrev WA := Env → Mem → (List D → Mem → Prop) → Prop
structure DEnds where
  nx : Env → Mem → Prop
  rt : WK
  bk : Env → Mem → Prop := fun _ _ => False
  ct : Env → Mem → Prop := fun _ _ => False
abbrev WS := DEnds → Env → Mem → Prop
section
variable (K : PySem.W.Frag)
def PostV (H0 : F) (post : WK) (Q : VK) : Prop := ∀ (v : V) (d : D) (H' : Hp) (H0' : F) (M' : Mem), post d M' → Fr K H' H0' M' → F.le H0 H0' → Rp K H0' v d → Q v H'
def PostB (H0 : F) (post : Bool → Mem → Prop) (Q : Bool → Hp → Prop) : Prop := ∀ (b : Bool) (H' : Hp) (H0' : F) (M' : Mem), post b M' → Fr K H' H0' M' → F.le H0 H0' → Q b H'
def PostA (H0 : F) (post : List D → Mem → Prop) (Q : List V → Hp → Prop) : Prop := ∀ (vs : List V) (ds : List D) (H' : Hp) (H0' : F) (M' : Mem), post ds M' → Fr K H' H0' M' → F.le H0 H0' → RpAll K H0' vs ds → Q vs H'
def PostE (H0 : F) (post : Env → Mem → Prop) (Q : L2.St → Hp → Prop) : Prop := ∀ (σ : L2.St) (Γ : Env) (H' : Hp) (H0' : F) (M' : Mem), post Γ M' → Fr K H' H0' M' → F.le H0 H0' → RpE K H0' σ Γ → Q σ H'
structure PostS (H0 : F) (post : DEnds) (E : Ends) : Prop where
  nx : PostE K H0 post.nx E.nx
  rt : PostV K H0 post.rt E.rt
  bk : PostE K H0 post.bk E.bk
  ct : PostE K H0 post.ct E.ct
def up (w : WE) : TE := fun σ H Q => ∃ (H0 : F) (Γ : Env) (M : Mem) (post : WK), Fr K H H0 M ∧ RpE K H0 σ Γ ∧ w Γ M post ∧ PostV K H0 post Q
def upT (w : WT) : TT := fun σ H Q => ∃ (H0 : F) (Γ : Env) (M : Mem) (post : Bool → Mem → Prop), Fr K H H0 M ∧ RpE K H0 σ Γ ∧ w Γ M post ∧ PostB K H0 post Q
def upA (w : WA) : TA := fun σ H Q => ∃ (H0 : F) (Γ : Env) (M : Mem) (post : List D → Mem → Prop), Fr K H H0 M ∧ RpE K H0 σ Γ ∧ w Γ M post ∧ PostA K H0 post Q
def upS (w : WS) : TS := fun E σ H => ∃ (H0 : F) (Γ : Env) (M : Mem) (post : DEnds), Fr K H H0 M ∧ RpE K H0 σ Γ ∧ w post Γ M ∧ PostS K H0 post E
end
abbrev DE (X : Cx) (e : Expr) (w : WE) : Prop := PE X e (up X.K w)
abbrev DT (X : Cx) (e : Expr) (w : WT) : Prop := PT X e (upT X.K w)
abbrev DW (X : Cx) (e : Expr) (w : WT) : Prop := PW X e (upT X.K w)
abbrev DA (X : Cx) (es : List Expr) (w : WA) : Prop := PA X es (upA X.K w)
abbrev DS (X : Cx) (st : Stmt) (w : WS) : Prop := PS X st (upS X.K w)
abbrev DSs (X : Cx) (sts : List Stmt) (w : WS) : Prop := PSs X sts (upS X.K w)
section
variable {X : Cx}
theorem PE.weak {e : Expr} {t t' : TE} (h : PE X e t) (i : ∀ σ H Q, t' σ H Q → t σ H Q) : PE X e t' := ⟨fun pins s σ H Q I q => h.run pins s σ H Q I (i σ H Q q)⟩
theorem PT.weak {e : Expr} {t t' : TT} (h : PT X e t) (i : ∀ σ H Q, t' σ H Q → t σ H Q) : PT X e t' := ⟨fun pins s σ H Q I q => h.run pins s σ H Q I (i σ H Q q)⟩
theorem PW.weak {e : Expr} {t t' : TT} (h : PW X e t) (i : ∀ σ H Q, t' σ H Q → t σ H Q) : PW X e t' := ⟨fun wh pins s σ H Q I q => h.run wh pins s σ H Q I (i σ H Q q)⟩
theorem PA.weak {e : List Expr} {t t' : TA} (h : PA X e t) (i : ∀ σ H Q, t' σ H Q → t σ H Q) : PA X e t' := ⟨fun pos pins s σ H Q I q => h.run pos pins s σ H Q I (i σ H Q q)⟩
theorem PS.weak {st : Stmt} {t t' : TS} (h : PS X st t) (i : ∀ E σ H, t' E σ H → t E σ H) : PS X st t' := ⟨fun pins s σ H E I q => h.run pins s σ H E I (i E σ H q)⟩
theorem PSs.weak {st : List Stmt} {t t' : TS} (h : PSs X st t) (i : ∀ E σ H, t' E σ H → t E σ H) : PSs X st t' := ⟨fun pins s σ H E I q => h.run pins s σ H E I (i E σ H q)⟩
end
section
variable {K : PySem.W.Frag} {H H' : Hp} {H0 H1 H2 : F} {M M' : Mem} {Q : VK} {post : WK} {σ : L2.St} {Γ : Env}
theorem PostV.mono (e : F.le H0 H1) (p : PostV K H0 post Q) : PostV K H1 post Q := fun v d H' H0' M' a b c r => p v d H' H0' M' a b (e.trans c) r
theorem PostB.mono {post : Bool → Mem → Prop} {Q : Bool → Hp → Prop} (e : F.le H0 H1) (p : PostB K H0 post Q) : PostB K H1 post Q := fun b H' H0' M' a c d => p b H' H0' M' a c (e.trans d)
theorem PostA.mono {post : List D → Mem → Prop} {Q : List V → Hp → Prop} (e : F.le H0 H1) (p : PostA K H0 post Q) : PostA K H1 post Q := fun v d H' H0' M' a b c r => p v d H' H0' M' a b (e.trans c) r
theorem PostE.mono {post : Env → Mem → Prop} {Q : L2.St → Hp → Prop} (e : F.le H0 H1) (p : PostE K H0 post Q) : PostE K H1 post Q := fun v d H' H0' M' a b c r => p v d H' H0' M' a b (e.trans c) r
theorem PostS.mono {post : DEnds} {E : Ends} (e : F.le H0 H1) (p : PostS K H0 post E) : PostS K H1 post E := ⟨p.nx.mono e, p.rt.mono e, p.bk.mono e, p.ct.mono e⟩
/-- no change of the heap -/
theorem PostV.now (p : PostV K H0 post Q) (f : Fr K H H0 M) {v : V} {d : D} (r : Rp K H0 v d) (h : post d M) : Q v H := p v d H H0 M h f (F.le.refl _) r
theorem Fr.fresh (f : Fr K H H0 M) {p : Addr} (h : H p = none) : H0 p = none ∧ M p = none := by
  refine ⟨?_, ?_⟩
  · cases q : H0 p with
    | none => rfl
    | some o =>
      cases o with
      | ice o => rw [f.sub p o (F.ice_eq q)] at h; cases h
      | res o => rw [f.res p o q] at h; cases h
  · cases q : M p with
    | none => rfl
    | some mo =>
      obtain ⟨_, o, e, _⟩ := f.mem p mo q
      rw [h] at e; cases e
/-- a new frozen thing -/
theorem Fr.ice (f : Fr K H H0 M) {p : Addr} {o : HO} (h : H p = none) : Fr K (upd H p o) (H0.put p (.ice o)) M := by
  obtain ⟨h0, m0⟩ := f.fresh h
  refine ⟨fun b u e => ?_, fun b u e => ?_, fun a mo e => ?_⟩
  · have e := F.ice_of e
    by_cases hb : b = p
    · subst hb; rw [F.put_same] at e; cases e; exact upd_same
    · rw [F.put_ne hb] at e; rw [upd_ne hb]; exact f.sub b u (F.ice_eq e)
  · have hb : b ≠ p := fun z => by rw [z, F.put_same] at e; cases e
    rw [F.put_ne hb] at e; rw [upd_ne hb]; exact f.res b u e
  · have ne : a ≠ p := fun z => by rw [z, m0] at e; cases e
    obtain ⟨n0, u, e1, e2⟩ := f.mem a mo e
    exact ⟨by rw [F.put_ne ne]; exact n0, u, by rw [upd_ne ne]; exact e1, e2.mono (F.le_put h0)⟩
/-- a new reserved thing -/
theorem Fr.hold (f : Fr K H H0 M) {p : Addr} {o : HO} (h : H p = none) : Fr K (upd H p o) (H0.put p (.res o)) M := by
  obtain ⟨h0, m0⟩ := f.fresh h
  refine ⟨fun b u e => ?_, fun b u e => ?_, fun a mo e => ?_⟩
  · have e := F.ice_of e
    have hb : b ≠ p := fun z => by rw [z, F.put_same] at e; cases e
    rw [F.put_ne hb] at e; rw [upd_ne hb]; exact f.sub b u (F.ice_eq e)
  · by_cases hb : b = p
    · subst hb; rw [F.put_same] at e; cases e; exact upd_same
    · rw [F.put_ne hb] at e; rw [upd_ne hb]; exact f.res b u e
  · have ne : a ≠ p := fun z => by rw [z, m0] at e; cases e
    obtain ⟨n0, u, e1, e2⟩ := f.mem a mo e
    exact ⟨by rw [F.put_ne ne]; exact n0, u, by rw [upd_ne ne]; exact e1, e2.mono (F.le_put h0)⟩
theorem put_res_ice {H0 : F} {p : Addr} {o o' : HO} (h : H0 p = some (.res o)) : Same H0.ice (H0.put p (.res o')).ice := fun b u e => by
  have e := F.ice_of e
  have hb : b ≠ p := fun z => by rw [z, h] at e; cases e
  exact F.ice_eq (by rw [F.put_ne hb]; exact e)
/-- a reserved thing is changed by whom it is reserved for -/
theorem Fr.rehold (f : Fr K H H0 M) {p : Addr} {o o' : HO} (h : H0 p = some (.res o)) : Fr K (upd H p o') (H0.put p (.res o')) M := by
  refine ⟨fun b u e => ?_, fun b u e => ?_, fun a mo e => ?_⟩
  · have e := F.ice_of e
    have hb : b ≠ p := fun z => by rw [z, F.put_same] at e; cases e
    rw [F.put_ne hb] at e; rw [upd_ne hb]; exact f.sub b u (F.ice_eq e)
  · by_cases hb : b = p
    · subst hb; rw [F.put_same] at e; cases e; exact upd_same
    · rw [F.put_ne hb] at e; rw [upd_ne hb]; exact f.res b u e
  · obtain ⟨n0, u, e1, e2⟩ := f.mem a mo e
    have ne : a ≠ p := fun z => by rw [z, h] at n0; cases n0
    exact ⟨by rw [F.put_ne ne]; exact n0, u, by rw [upd_ne ne]; exact e1, e2.mono' (put_res_ice h)⟩
theorem put_thaw_ice {H0 : F} {p : Addr} {o o' : HO} (h : H0 p = some (.res o)) : Same H0.ice (H0.put p (.ice o')).ice := fun b u e => by
  have e := F.ice_of e
  have hb : b ≠ p := fun z => by rw [z, h] at e; cases e
  exact F.ice_eq (by rw [F.put_ne hb]; exact e)
/-- a reserved thing becomes a frozen one -/
theorem Fr.settle (f : Fr K H H0 M) {p : Addr} {o : HO} (h : H0 p = some (.res o)) : Fr K H (H0.put p (.ice o)) M := by
  refine ⟨fun b u e => ?_, fun b u e => ?_, fun a mo e => ?_⟩
  · have e := F.ice_of e
    by_cases hb : b = p
    · subst hb; rw [F.put_same] at e; cases e; exact f.res _ _ h
    · rw [F.put_ne hb] at e; exact f.sub b u (F.ice_eq e)
  · have hb : b ≠ p := fun z => by rw [z, F.put_same] at e; cases e
    rw [F.put_ne hb] at e; exact f.res b u e
  · obtain ⟨n0, u, e1, e2⟩ := f.mem a mo e
    have ne : a ≠ p := fun z => by rw [z, h] at n0; cases n0
    exact ⟨by rw [F.put_ne ne]; exact n0, u, e1, e2.mono' (put_thaw_ice h)⟩
/-- garbage -/
theorem Fr.waste (f : Fr K H H0 M) {p : Addr} {o : HO} (h : H p = none) : Fr K (upd H p o) H0 M := by
  obtain ⟨h0, m0⟩ := f.fresh h
  have nb : ∀ b u, H0 b = some u → b ≠ p := fun b u e z => by rw [z, h0] at e; cases e
  refine ⟨fun b u e => ?_, fun b u e => ?_, fun a mo e => ?_⟩
  · rw [upd_ne (nb b _ (F.ice_of e))]; exact f.sub b u e
  · rw [upd_ne (nb b _ e)]; exact f.res b u e
  · have ne : a ≠ p := fun z => by rw [z, m0] at e; cases e
    obtain ⟨n0, u, e1, e2⟩ := f.mem a mo e
    exact ⟨n0, u, by rw [upd_ne ne]; exact e1, e2⟩
theorem Fr.set_ (f : Fr K H H0 M) {p : Addr} {o : HO} {mo : MO} (h0 : H0 p = none) (r : RpO K H0 mo o) : Fr K (upd H p o) H0 (M.upd p mo) := by
  have nb : ∀ b u, H0 b = some u → b ≠ p := fun b u e z => by rw [z, h0] at e; cases e
  refine ⟨fun b u e => ?_, fun b u e => ?_, fun a mo' e => ?_⟩
  · rw [upd_ne (nb b _ (F.ice_of e))]; exact f.sub b u e
  · rw [upd_ne (nb b _ e)]; exact f.res b u e
  · by_cases ne : a = p
    · subst ne
      rw [Mem.upd_same] at e; cases e
      exact ⟨h0, o, upd_same, r⟩
    · rw [Mem.upd_ne ne] at e
      obtain ⟨n0, u, e1, e2⟩ := f.mem a mo' e
      exact ⟨n0, u, by rw [upd_ne ne]; exact e1, e2⟩
/-- a new thing in the store -/
theorem Fr.new (f : Fr K H H0 M) {p : Addr} {o : HO} {mo : MO} (h : H p = none) (r : RpO K H0 mo o) : Fr K (upd H p o) H0 (M.upd p mo) := f.set_ (f.fresh h).1 r
/-- a thing of the store is changed -/
theorem Fr.put (f : Fr K H H0 M) {p : Addr} {o : HO} {mo old : MO} (h : M p = some old) (r : RpO K H0 mo o) : Fr K (upd H p o) H0 (M.upd p mo) := f.set_ (f.mem p old h).1 r
/-- what is not wanted any more is left out; what is left out does not change any more -/
theorem Fr.drop (f : Fr K H H0 M) (le : M'.le M) : ∃ H0', F.le H0 H0' ∧ Fr K H H0' M' ∧ ∀ a mo, M a = some mo → M' a = none → ∃ o, H0'.ice a = some o ∧ RpO K H0 mo o := by
  classical
  have key : ∀ a, ∃ r : Option RO, (∀ o, H0 a = some o → r = some o) ∧ (H0 a = none → ((∃ mo, M a = some mo) ∧ M' a = none → ∃ o, r = some (.ice o) ∧ H a = some o) ∧ (¬ ((∃ mo, M a = some mo) ∧ M' a = none) → r = none)) := fun a => by
    cases q : H0 a with
    | some o => exact ⟨some o, fun o' e => by cases e; rfl, fun e => by cases e⟩
    | none =>
      by_cases c : (∃ mo, M a = some mo) ∧ M' a = none
      · obtain ⟨⟨mo, hm⟩, h2⟩ := c
        obtain ⟨_, o, ho, _⟩ := f.mem a mo hm
        exact ⟨some (.ice o), fun o' e => (by cases e), fun _ => ⟨fun _ => ⟨o, rfl, ho⟩, fun n => absurd ⟨⟨mo, hm⟩, h2⟩ n⟩⟩
      · exact ⟨none, fun o' e => (by cases e), fun _ => ⟨fun h => absurd h c, fun _ => rfl⟩⟩
  let H1 : F := fun a => Classical.choose (key a)
  have k1 : ∀ a o, H0 a = some o → H1 a = some o := fun a => (Classical.choose_spec (key a)).1
  have k2 : ∀ a, H0 a = none → (∃ mo, M a = some mo) ∧ M' a = none → ∃ o, H1 a = some (.ice o) ∧ H a = some o := fun a h => ((Classical.choose_spec (key a)).2 h).1
  have k3 : ∀ a, H0 a = none → ¬ ((∃ mo, M a = some mo) ∧ M' a = none) → H1 a = none := fun a h => ((Classical.choose_spec (key a)).2 h).2
  have s01 : F.le H0 H1 := k1
  have cs : ∀ a o, H1 a = some o → H0 a = some o ∨ (H0 a = none ∧ (∃ mo, M a = some mo) ∧ M' a = none) := fun a o e => by
    cases q : H0 a with
    | some o' => rw [k1 a o' q] at e; cases e; exact .inl rfl
    | none =>
      by_cases c : (∃ mo, M a = some mo) ∧ M' a = none
      · exact .inr ⟨rfl, c⟩
      · rw [k3 a q c] at e; cases e
  refine ⟨H1, s01, ⟨fun b u e => ?_, fun b u e => ?_, fun a mo e => ?_⟩, fun a mo e n => ?_⟩
  · have e := F.ice_of e
    rcases cs b _ e with q | ⟨q, c, n⟩
    · exact f.sub b u (F.ice_eq q)
    · obtain ⟨o, h1, h2⟩ := k2 b q ⟨c, n⟩
      rw [e] at h1; cases h1; exact h2
  · rcases cs b _ e with q | ⟨q, c, n⟩
    · exact f.res b u q
    · obtain ⟨o, h1, h2⟩ := k2 b q ⟨c, n⟩
      rw [e] at h1; cases h1
  · obtain ⟨n0, o, ho, ro⟩ := f.mem a mo (le a mo e)
    refine ⟨k3 a n0 fun c => ?_, o, ho, ro.mono s01⟩
    rw [c.2] at e; cases e
  · obtain ⟨n0, o, ho, ro⟩ := f.mem a mo e
    obtain ⟨o', h1, h2⟩ := k2 a n0 ⟨⟨mo, e⟩, n⟩
    rw [ho] at h2; cases h2
    exact ⟨o, F.ice_eq h1, ro⟩
def Mem.del (M : Mem) (p : Addr) : Mem := fun a => if a = p then none else M a
/-- a list of the store becomes a frozen one -/
theorem Fr.freeze (f : Fr K H H0 M) {p : Addr} {ds : List D} (h : M p = some (.lst ds)) : ∃ xs, RpAll K H0 xs ds ∧ ds.length ≤ sizeLine ∧ Fr K H (H0.put p (.ice (.lst xs))) (M.del p) ∧ F.le H0 (H0.put p (.ice (.lst xs))) := by
  obtain ⟨h0, o, e, r⟩ := f.mem p _ h
  cases r with
  | @lst xs _ ha hz =>
    refine ⟨xs, ha, hz, ⟨fun b u q => ?_, fun b u q => ?_, fun a mo q => ?_⟩, F.le_put h0⟩
    · have q := F.ice_of q
      by_cases hb : b = p
      · subst hb; rw [F.put_same] at q; cases q; exact e
      · rw [F.put_ne hb] at q; exact f.sub b u (F.ice_eq q)
    · have hb : b ≠ p := fun z => by rw [z, F.put_same] at q; cases q
      rw [F.put_ne hb] at q; exact f.res b u q
    · unfold Mem.del at q
      by_cases ne : a = p
      · rw [if_pos ne] at q; cases q
      · rw [if_neg ne] at q
        obtain ⟨n0, u, e1, e2⟩ := f.mem a mo q
        exact ⟨by rw [F.put_ne ne]; exact n0, u, e1, e2.mono (F.le_put h0)⟩
end
end FD

namespace FD
open PySem PySem.Spec PyProof.Rows L2
/-! ### small words -/
def look (Γ : Env) (i : Nat) (k : D → Prop) : Prop := match Γ[i]? with
  | some (some d) => k d
  | _ => False
def got {α : Type} (o : Option α) (k : α → Prop) : Prop := match o with
  | some d => k d
  | none => False
theorem look_of {Γ : Env} {i : Nat} {k : D → Prop} (h : look Γ i k) : ∃ d, Γ[i]? = some (some d) ∧ k d := by
  unfold look at h
  split at h
  · rename_i d e
    exact ⟨d, e, h⟩
  · exact h.elim
theorem got_of {α : Type} {o : Option α} {k : α → Prop} (h : got o k) : ∃ d, o = some d ∧ k d := by
  cases o with
  | none => exact h.elim
  | some d => exact ⟨d, rfl, h⟩
theorem got_some {α : Type} {o : Option α} {k : α → Prop} {d : α} (e : o = some d) (h : k d) : got o k := by rw [e]; exact h
/-- what a pure function of one or two values asks -/
abbrev G1 := Mem → D → WK → Prop
abbrev G2 := Mem → D → D → WK → Prop
abbrev GA := Mem → List D → WK → Prop
abbrev GM := Mem → D → List D → WK → Prop
def p1 (f : D → Option D) : G1 := fun M x post => got (f x) fun z => post z M
def p2 (f : D → D → Option D) : G2 := fun M x y post => got (f x y) fun z => post z M
section
variable (K : PySem.W.Frag)
def rU1 (g : G1) : V → Hp → VK → Prop := fun x H Q => ∃ (H0 : F) (M : Mem) (d : D) (post : WK), Fr K H H0 M ∧ Rp K H0 x d ∧ g M d post ∧ PostV K H0 post Q
def rU2 (g : G2) : R2 := fun x y H Q => ∃ (H0 : F) (M : Mem) (d e : D) (post : WK), Fr K H H0 M ∧ Rp K H0 x d ∧ Rp K H0 y e ∧ g M d e post ∧ PostV K H0 post Q
def rUA (g : GA) : List V → Hp → VK → Prop := fun xs H Q => ∃ (H0 : F) (M : Mem) (ds : List D) (post : WK), Fr K H H0 M ∧ RpAll K H0 xs ds ∧ g M ds post ∧ PostV K H0 post Q
def rUM (g : GM) : V → List V → Hp → VK → Prop := fun x xs H Q => ∃ (H0 : F) (M : Mem) (d : D) (ds : List D) (post : WK), Fr K H H0 M ∧ Rp K H0 x d ∧ RpAll K H0 xs ds ∧ g M d ds post ∧ PostV K H0 post Q
end
section
variable {X : Cx}
theorem OpR.imp {f : Value → Value → Sem Value} {r r' : R2} (h : OpR X f r) (i : ∀ x y H Q, r' x y H Q → r x y H Q) : OpR X f r' :=
  fun pins s σ H x y v u Q I rx ry q => h pins s σ H x y v u Q I rx ry (i x y H Q q)
theorem UnR.imp {f : Value → Sem Value} {r r' : V → Hp → VK → Prop} (h : UnR X f r) (i : ∀ x H Q, r' x H Q → r x H Q) : UnR X f r' :=
  fun pins s σ H x v Q I rx q => h pins s σ H x v Q I rx (i x H Q q)
theorem CallR.imp {f : Value} {r r' : List V → Hp → VK → Prop} (h : CallR X f r) (i : ∀ x H Q, r' x H Q → r x H Q) : CallR X f r' :=
  fun pins s σ H x v Q I rx q => h pins s σ H x v Q I rx (i x H Q q)
theorem IxR.imp {r r' : R2} (h : IxR X r) (i : ∀ x y H Q, r' x y H Q → r x y H Q) : IxR X r' :=
  fun value slice pins s σ H x y v u Q I rx ry q hs => h value slice pins s σ H x y v u Q I rx ry (i x y H Q q) hs
theorem MtR.imp {id : String} {r r' : V → List V → Hp → VK → Prop} (h : MtR X id r) (i : ∀ x xs H Q, r' x xs H Q → r x xs H Q) : MtR X id r' :=
  fun pins s σ H x xs v us Q I rx rs q => h pins s σ H x xs v us Q I rx rs (i x xs H Q q)
theorem SlR.imp {r r' : V → Option Int → Option Int → Hp → VK → Prop} (h : SlR X r) (i : ∀ x lo hi H Q, r' x lo hi H Q → r x lo hi H Q) : SlR X r' := by
  intro pins s σ H x
  intros
  rename_i I q
  apply h <;> first | assumption | exact i _ _ _ _ _ ‹_›

/-! ### names, constants -/
def wVar (i : Nat) : WE := fun Γ M post => look Γ i fun d => post d M
def wC (d : D) : WE := fun _ M post => post d M
theorem dv (i : Nat) {x : Str} {pos : Pos} (hN : X.N[i]? = some x := by rfl) (hv : Vis X.env.scope x := by first | exact Or.inl rfl | exact Or.inr (Or.inl rfl) | exact Or.inr (Or.inr rfl))
    (hd : (x == ("__debug__" : Str)) = false := by decide) (hcd : (x == ("__classdict__" : Str)) = false := by decide) : DE X (.Name x pos) (wVar i) :=
  PE.weak (pe_var hN hv hd hcd) fun σ H Q h => by
    obtain ⟨H0, Γ, M, post, f, e, w, p⟩ := h
    obtain ⟨d, h1, h2⟩ := look_of w
    obtain ⟨v, s1, r⟩ := e.at_ i d h1
    exact ⟨v, s1, p.now f r h2⟩
theorem dc_of {e : Expr} {v : V} {d : D} (h : PE X e (tC v)) (r : ∀ H, Rp X.K H v d) : DE X e (wC d) :=
  PE.weak h fun σ H Q h => by
    obtain ⟨H0, Γ, M, post, f, e, w, p⟩ := h
    exact p.now f (r H0) w
theorem dint {i j pos} : DE X (.Constant (.int i) j pos) (wC (.int i)) := dc_of pe_int fun _ => .int i
theorem dbl {b j pos} : DE X (.Constant (.bool b) j pos) (wC (.bl b)) := dc_of pe_bl fun _ => .bl b
theorem dnon {j pos} : DE X (.Constant .none j pos) (wC .non) := dc_of pe_non fun _ => .non
theorem dstr {x : Str} {j : Nat} {pos : Pos} (h : sOk x = true := by decide +kernel) : DE X (.Constant (.str x) j pos) (wC (.str x)) := dc_of pe_str fun _ => .str x h
/-- a constant of the module: an int, a text, a class, a tuple of the written part -/
theorem dglob {x : Str} {v : V} {d : D} {u : Value} {pos : Pos} (hg : Gl X x) (hm : X.mg x = some u) (r : RelV v u) (rd : ∀ H, Rp X.K H v d) (hd : (x == ("__debug__" : Str)) = false := by decide) : DE X (.Name x pos) (wC d) :=
  dc_of (pe_glob hg hm r hd) rd

/-! ### binding -/
/-- one value is known -/
theorem up_bind {w : WE} {k : D → WE} {σ : L2.St} {H : Hp} {Q : VK} {R : VK} (h : up X.K (fun Γ M post => w Γ M fun d M1 => k d Γ M1 post) σ H Q)
    (i : ∀ (v : V) (d : D) (H1 : Hp) (H0 : F) (Γ : Env) (M : Mem) (post : WK), Fr X.K H1 H0 M → RpE X.K H0 σ Γ → Rp X.K H0 v d → k d Γ M post → PostV X.K H0 post Q → R v H1) : up X.K w σ H R := by
  obtain ⟨H0, Γ, M, post, f, e, hw, p⟩ := h
  exact ⟨H0, Γ, M, fun d M1 => k d Γ M1 post, f, e, hw, fun v d H' H0' M' q f' s r => i v d H' H0' Γ M' post f' (e.mono s) r q (p.mono s)⟩
def wOp (g : G2) (wa wb : WE) : WE := fun Γ M post => wa Γ M fun x M1 => wb Γ M1 fun y M2 => g M2 x y post
def wUn (g : G1) (wa : WE) : WE := fun Γ M post => wa Γ M fun x M1 => g M1 x post
variable {a b c : Expr} {wa wb wc : WE} {pos : Pos}
theorem up_op {g : G2} {σ : L2.St} {H : Hp} {Q : VK} (h : up X.K (wOp g wa wb) σ H Q) : tOp (rU2 X.K g) (up X.K wa) (up X.K wb) σ H Q :=
  up_bind (k := fun x Γ M post => wb Γ M fun y M2 => g M2 x y post) h fun v d H1 H0 Γ M post f e r q p =>
    ⟨H0, Γ, M, _, f, e, q, fun u d2 H2 H02 M2 q2 f2 s2 r2 => ⟨H02, M2, d, d2, post, f2, r.mono s2, r2, q2, p.mono s2⟩⟩
theorem de_op {op : Operator} {g : G2} (ho : OpR X (binaryOp op) (rU2 X.K g)) (ha : DE X a wa) (hb : DE X b wb) : DE X (.BinOp a op b pos) (wOp g wa wb) :=
  PE.weak (pe_op ho ha hb) fun _ _ _ h => up_op h
theorem de_un {op : UnaryOp} {g : G1} (ho : UnR X (unaryOp op) (rU1 X.K g)) (ha : DE X a wa) : DE X (.UnaryOp op a pos) (wUn g wa) :=
  PE.weak (pe_un ho ha) fun σ H Q h => up_bind (k := fun x _ M post => g M x post) h fun v d H1 H0 Γ M post f e r q p => ⟨H0, M, d, post, f, r, q, p⟩
theorem de_cmp {op : CmpOp} {g : G2} (ho : OpR X (compareOp op) (rU2 X.K g)) (ha : DE X a wa) (hb : DE X b wb) (hm : behindInMarks op b = false := by first | exact nomark _ | rfl) : DE X (.Compare a [op] [b] pos) (wOp g wa wb) :=
  PE.weak (pe_cmpR ho ha hb hm) fun _ _ _ h => up_op h

/-! ### tests -/
/-- a value that is a bool -/
def isB (d : D) (k : Bool → Prop) : Prop := match d with
  | .bl b => k b
  | _ => False
theorem isB_of {d : D} {k : Bool → Prop} (h : isB d k) : ∃ b, d = .bl b ∧ k b := by
  cases d with
  | bl b => exact ⟨b, rfl, h⟩
  | _ => exact h.elim
def wTst (w : WE) : WT := fun Γ M post => w Γ M fun d M1 => isB d fun b => post b M1
theorem upT_tst {w : WE} {σ : L2.St} {H : Hp} {Q : Bool → Hp → Prop} (h : upT X.K (wTst w) σ H Q) : up X.K w σ H fun x H' => ∃ k, x = .bl k ∧ Q k H' := by
  obtain ⟨H0, Γ, M, post, f, e, hw, p⟩ := h
  refine ⟨H0, Γ, M, _, f, e, hw, fun v d H' H0' M' q f' s r => ?_⟩
  obtain ⟨b, rfl, q⟩ := isB_of q
  cases r
  exact ⟨b, rfl, p b H' H0' M' q f' s⟩
theorem dt_cmp {op : CmpOp} {g : G2} (ho : OpR X (compareOp op) (rU2 X.K g)) (ha : DE X a wa) (hb : DE X b wb) (hm : behindInMarks op b = false := by first | exact nomark _ | rfl) : DT X (.Compare a [op] [b] pos) (wTst (wOp g wa wb)) :=
  PT.weak (pt_cmpR ho ha hb hm) fun _ _ _ h => up_op (upT_tst h)
theorem dt_val {e : Expr} {w : WE} (h : DE X e w) (he : ∀ whole, isTrue e X.env whole = (do let v ← whole; standAt e.pos; holding [v] (truthy v)) := by intro _; rfl) : DT X e (wTst w) :=
  PT.weak (pt_val h he) fun _ _ _ h => upT_tst h
def wAnd (t u : WT) : WT := fun Γ M post => t Γ M fun c M1 => if c = true then u Γ M1 post else post false M1
def wOr (t u : WT) : WT := fun Γ M post => t Γ M fun c M1 => if c = true then post true M1 else u Γ M1 post
def wNot (t : WT) : WT := fun Γ M post => t Γ M fun c M1 => post (!c) M1
variable {ta tb : WT} {rest : List Expr}
theorem dw_and1 (ha : DT X a ta) : DW X (.BoolOp .And [a] pos) ta := pw_and1 ha
theorem dw_or1 (ha : DT X a ta) : DW X (.BoolOp .Or [a] pos) ta := pw_or1 ha
theorem dw_and (ha : DT X a ta) (hb : DW X (.BoolOp .And (b :: rest) pos) tb) : DW X (.BoolOp .And (a :: b :: rest) pos) (wAnd ta tb) :=
  PW.weak (pw_and ha hb) fun σ H Q h => by
    obtain ⟨H0, Γ, M, post, f, e, hw, p⟩ := h
    refine ⟨H0, Γ, M, _, f, e, hw, fun c H' H0' M' q f' s => ?_⟩
    cases c with
    | true =>
      simp only [if_true] at q ⊢
      exact ⟨H0', Γ, M', post, f', e.mono s, q, p.mono s⟩
    | false =>
      simp only [Bool.false_eq_true, if_false] at q ⊢
      exact p false H' H0' M' q f' s
theorem dw_or (ha : DT X a ta) (hb : DW X (.BoolOp .Or (b :: rest) pos) tb) : DW X (.BoolOp .Or (a :: b :: rest) pos) (wOr ta tb) :=
  PW.weak (pw_or ha hb) fun σ H Q h => by
    obtain ⟨H0, Γ, M, post, f, e, hw, p⟩ := h
    refine ⟨H0, Γ, M, _, f, e, hw, fun c H' H0' M' q f' s => ?_⟩
    cases c with
    | true =>
      simp only [if_true] at q ⊢
      exact p true H' H0' M' q f' s
    | false =>
      simp only [Bool.false_eq_true, if_false] at q ⊢
      exact ⟨H0', Γ, M', post, f', e.mono s, q, p.mono s⟩
theorem dt_not (ha : DT X a ta) : DT X (.UnaryOp .Not a pos) (wNot ta) :=
  PT.weak (pt_not ha) fun σ H Q h => by
    obtain ⟨H0, Γ, M, post, f, e, hw, p⟩ := h
    exact ⟨H0, Γ, M, _, f, e, hw, fun c H' H0' M' q f' s => p (!c) H' H0' M' q f' s⟩
/-- as values -/
def wAndV (wa wb : WE) : WE := fun Γ M post => wa Γ M fun d M1 => isB d fun c => if c = true then wb Γ M1 post else post (.bl false) M1
def wOrV (wa wb : WE) : WE := fun Γ M post => wa Γ M fun d M1 => isB d fun c => if c = true then post (.bl true) M1 else wb Γ M1 post
def wNotV (wa : WE) : WE := fun Γ M post => wa Γ M fun d M1 => isB d fun c => post (.bl (!c)) M1
theorem de_one {op} (h : DE X a wa) : DE X (.BoolOp op [a] pos) wa := pe_one h
theorem de_and (ha : DE X a wa) (hb : DE X (.BoolOp .And (b :: rest) pos) wb) : DE X (.BoolOp .And (a :: b :: rest) pos) (wAndV wa wb) :=
  PE.weak (pe_and ha hb) fun σ H Q h => up_bind (k := fun d Γ M post => isB d fun c => if c = true then wb Γ M post else post (.bl false) M) h fun v d H1 H0 Γ M post f e r q p => by
    obtain ⟨c, rfl, q⟩ := isB_of q
    cases r
    refine ⟨c, rfl, ?_⟩
    cases c with
    | true =>
      simp only [if_true] at q ⊢
      exact ⟨H0, Γ, M, post, f, e, q, p⟩
    | false =>
      simp only [Bool.false_eq_true, if_false] at q ⊢
      exact p.now f (.bl false) q
theorem de_or (ha : DE X a wa) (hb : DE X (.BoolOp .Or (b :: rest) pos) wb) : DE X (.BoolOp .Or (a :: b :: rest) pos) (wOrV wa wb) :=
  PE.weak (pe_or ha hb) fun σ H Q h => up_bind (k := fun d Γ M post => isB d fun c => if c = true then post (.bl true) M else wb Γ M post) h fun v d H1 H0 Γ M post f e r q p => by
    obtain ⟨c, rfl, q⟩ := isB_of q
    cases r
    refine ⟨c, rfl, ?_⟩
    cases c with
    | true =>
      simp only [if_true] at q ⊢
      exact p.now f (.bl true) q
    | false =>
      simp only [Bool.false_eq_true, if_false] at q ⊢
      exact ⟨H0, Γ, M, post, f, e, q, p⟩
theorem de_not (ha : DE X a wa) : DE X (.UnaryOp .Not a pos) (wNotV wa) :=
  PE.weak (pe_not ha) fun σ H Q h => up_bind (k := fun d _ M post => isB d fun c => post (.bl (!c)) M) h fun v d H1 H0 Γ M post f e r q p => by
    obtain ⟨c, rfl, q⟩ := isB_of q
    cases r
    exact ⟨c, rfl, p.now f (.bl _) q⟩
def wIf (t : WT) (wa wb : WE) : WE := fun Γ M post => t Γ M fun c M1 => if c = true then wa Γ M1 post else wb Γ M1 post
theorem de_if (hc : DT X c ta) (ha : DE X a wa) (hb : DE X b wb) : DE X (.IfExp c a b pos) (wIf ta wa wb) :=
  PE.weak (pe_ifExp hc ha hb) fun σ H Q h => by
    obtain ⟨H0, Γ, M, post, f, e, hw, p⟩ := h
    refine ⟨H0, Γ, M, _, f, e, hw, fun c H' H0' M' q f' s => ?_⟩
    cases c with
    | true =>
      simp only [if_true] at q ⊢
      exact ⟨H0', Γ, M', post, f', e.mono s, q, p.mono s⟩
    | false =>
      simp only [Bool.false_eq_true, if_false] at q ⊢
      exact ⟨H0', Γ, M', post, f', e.mono s, q, p.mono s⟩
/-- a < b < c -/
def wChain (g g' : G2) (wa wb wc : WE) : WE := fun Γ M post => wa Γ M fun x M1 => wb Γ M1 fun y M2 => g M2 x y fun z M3 => isB z fun k => if k = true then wc Γ M3 fun u M4 => g' M4 y u post else post (.bl false) M3
theorem up_chain {g g' : G2} {σ : L2.St} {H : Hp} {Q : VK} (h : up X.K (wChain g g' wa wb wc) σ H Q) : tChain (rU2 X.K g) (rU2 X.K g') (up X.K wa) (up X.K wb) (up X.K wc) σ H Q :=
  up_bind (k := fun x Γ M post => wb Γ M fun y M2 => g M2 x y fun z M3 => isB z fun k => if k = true then wc Γ M3 fun u M4 => g' M4 y u post else post (.bl false) M3) h fun v d H1 H0 Γ M post f e r q p =>
    ⟨H0, Γ, M, _, f, e, q, fun u d2 H2 H02 M2 q2 f2 s2 r2 => ⟨H02, M2, d, d2, _, f2, r.mono s2, r2, q2, fun z dz H3 H03 M3 q3 f3 s3 r3 => by
      obtain ⟨k, rfl, q4⟩ := isB_of q3
      cases r3
      refine ⟨k, rfl, ?_⟩
      cases k with
      | true =>
        simp only [if_true] at q4 ⊢
        exact ⟨H03, Γ, M3, _, f3, (e.mono s2).mono s3, q4, fun u5 d5 H5 H05 M5 q5 f5 s5 r5 => ⟨H05, M5, d2, d5, post, f5, (r2.mono s3).mono s5, r5, q5, ((p.mono s2).mono s3).mono s5⟩⟩
      | false =>
        simp only [Bool.false_eq_true, if_false] at q4 ⊢
        exact ((p.mono s2).mono s3).now f3 (.bl false) q4⟩⟩
theorem de_chain {op op' : CmpOp} {g g' : G2} (ho : OpR X (compareOp op) (rU2 X.K g)) (ho' : OpR X (compareOp op') (rU2 X.K g')) (ha : DE X a wa) (hb : DE X b wb) (hc : DE X c wc)
    (hm : lastMarks [op, op'] [b, c] = false := by with_unfolding_all rfl) : DE X (.Compare a [op, op'] [b, c] pos) (wChain g g' wa wb wc) :=
  PE.weak (pe_chain ho ho' ha hb hc hm) fun _ _ _ h => up_chain h
theorem dt_chain {op op' : CmpOp} {g g' : G2} (ho : OpR X (compareOp op) (rU2 X.K g)) (ho' : OpR X (compareOp op') (rU2 X.K g')) (ha : DE X a wa) (hb : DE X b wb) (hc : DE X c wc)
    (hm : lastMarks [op, op'] [b, c] = false := by with_unfolding_all rfl) : DT X (.Compare a [op, op'] [b, c] pos) (wTst (wChain g g' wa wb wc)) :=
  PT.weak (pt_chain ho ho' ha hb hc hm) fun _ _ _ h => up_chain (upT_tst h)
end
end FD

namespace FD
open PySem PySem.Spec PyProof.Rows L2
section
variable {X : Cx} {a b c e : Expr} {wa wb wc we : WE} {pos : Pos} {es : List Expr} {w : WA}
/-! ### arguments, displays -/
def aNil : WA := fun _ M post => post [] M
def aCons (w : WE) (r : WA) : WA := fun Γ M post => w Γ M fun d M1 => r Γ M1 fun ds M2 => post (d :: ds) M2
theorem da_nil : DA X [] aNil := PA.weak pa_nil fun σ H Q h => by
  obtain ⟨H0, Γ, M, post, f, e, hw, p⟩ := h
  exact p [] [] H H0 M hw f (F.le.refl _) .nil
theorem da_cons (he : DE X e we) (hr : DA X es w) (hs : starEach (e :: es) X.env = (false, eval e X.env) :: starEach es X.env := by rfl) : DA X (e :: es) (aCons we w) :=
  PA.weak (pa_cons he hr hs) fun σ H Q h => by
    obtain ⟨H0, Γ, M, post, f, e, hw, p⟩ := h
    exact ⟨H0, Γ, M, _, f, e, hw, fun v d H' H0' M' q f' s r => ⟨H0', Γ, M', _, f', e.mono s, q, fun vs ds H2 H02 M2 q2 f2 s2 r2 => p _ _ H2 H02 M2 q2 f2 (s.trans s2) (.cons (r.mono s2) r2)⟩⟩
/-- all arguments known -/
theorem upA_bind {k : List D → WE} {σ : L2.St} {H : Hp} {Q : VK} {R : List V → Hp → Prop} (h : up X.K (fun Γ M post => w Γ M fun d M1 => k d Γ M1 post) σ H Q)
    (i : ∀ (vs : List V) (ds : List D) (H1 : Hp) (H0 : F) (Γ : Env) (M : Mem) (post : WK), Fr X.K H1 H0 M → RpE X.K H0 σ Γ → RpAll X.K H0 vs ds → k ds Γ M post → PostV X.K H0 post Q → R vs H1) : upA X.K w σ H R := by
  obtain ⟨H0, Γ, M, post, f, e, hw, p⟩ := h
  exact ⟨H0, Γ, M, fun d M1 => k d Γ M1 post, f, e, hw, fun v d H' H0' M' q f' s r => i v d H' H0' Γ M' post f' (e.mono s) r q (p.mono s)⟩
def fitL {α : Type} (l : List α) : Prop := l.length ≤ 16777216
theorem fit_line {α : Type} {l : List α} (h : fitL l) : l.length ≤ sizeLine := by rw [sizeLine_eq]; exact h
def wTup (w : WA) : WE := fun Γ M post => w Γ M fun ds M1 => fitL ds ∧ post (.tup ds) M1
def wLst (w : WA) : WE := fun Γ M post => w Γ M fun ds M1 => fitL ds ∧ post (.lst ds) M1
/-- a list that will be changed -/
def wNew (w : WA) : WE := fun Γ M post => w Γ M fun ds M1 => fitL ds ∧ ∀ p, M1 p = none → post (.ptr p) (M1.upd p (.lst ds))
theorem de_tup {x1} (h : DA X es w) : DE X (.Tuple es x1 pos) (wTup w) :=
  PE.weak (pe_tup h) fun σ H Q h => upA_bind (k := fun ds _ M post => fitL ds ∧ post (.tup ds) M) h fun vs ds H1 H0 Γ M post f e r q p => by
    refine ⟨by rw [r.length]; exact fit_line q.1, fun a ha => ?_⟩
    have s0 : F.le H0 (H0.put a (.ice (.tup vs))) := F.le_put (f.fresh ha).1
    exact p _ _ _ _ M q.2 (f.ice ha) s0 (.tup (F.ice_eq F.put_same) (r.mono s0) (fit_line q.1))
theorem de_lst (h : DA X es w) : DE X (.List es pos) (wLst w) :=
  PE.weak (pe_lst h) fun σ H Q h => upA_bind (k := fun ds _ M post => fitL ds ∧ post (.lst ds) M) h fun vs ds H1 H0 Γ M post f e r q p => by
    refine ⟨by rw [r.length]; exact fit_line q.1, fun a ha => ?_⟩
    have s0 : F.le H0 (H0.put a (.ice (.lst vs))) := F.le_put (f.fresh ha).1
    exact p _ _ _ _ M q.2 (f.ice ha) s0 (.lst (F.ice_eq F.put_same) (r.mono s0) (fit_line q.1))
theorem de_new (h : DA X es w) : DE X (.List es pos) (wNew w) :=
  PE.weak (pe_lst h) fun σ H Q h => upA_bind (k := fun ds _ M post => fitL ds ∧ ∀ p, M p = none → post (.ptr p) (M.upd p (.lst ds))) h fun vs ds H1 H0 Γ M post f e r q p => by
    refine ⟨by rw [r.length]; exact fit_line q.1, fun a ha => ?_⟩
    exact p _ _ _ _ _ (q.2 a (f.fresh ha).2) (f.new ha (.lst r (fit_line q.1))) (F.le.refl _) (.ptr a)

/-! ### subscripts, slices, calls of builtins, methods of builtins -/
theorem de_ix {g : G2} (hr : IxR X (rU2 X.K g)) (ha : DE X a wa) (hb : DE X b wb) (hs : PlainIx b := by exact fun _ _ => rfl) : DE X (.Subscript a b pos) (wOp g wa wb) :=
  PE.weak (pe_ix hr ha hb hs) fun _ _ _ h => up_op h
abbrev WO := Env → Mem → (Option Int → Mem → Prop) → Prop
def upO (K : PySem.W.Frag) (w : WO) : TO := fun σ H Q => ∃ (H0 : F) (Γ : Env) (M : Mem) (post : Option Int → Mem → Prop), Fr K H H0 M ∧ RpE K H0 σ Γ ∧ w Γ M post ∧ ∀ (o : Option Int) (H' : Hp) (H0' : F) (M' : Mem), post o M' → Fr K H' H0' M' → F.le H0 H0' → Q o H'
abbrev DO (X : Cx) (e : Option Expr) (w : WO) : Prop := PO X e (upO X.K w)
def isI (d : D) (k : Int → Prop) : Prop := match d with
  | .int i => k i
  | _ => False
theorem isI_of {d : D} {k : Int → Prop} (h : isI d k) : ∃ b, d = .int b ∧ k b := by
  cases d with
  | int b => exact ⟨b, rfl, h⟩
  | _ => exact h.elim
def oNone : WO := fun _ M post => post none M
def oSome (w : WE) : WO := fun Γ M post => w Γ M fun d M1 => isI d fun i => post (some i) M1
theorem do_none : DO X none oNone := ⟨fun pins s σ H Q I h => by
  obtain ⟨H0, Γ, M, post, f, e, hw, p⟩ := h
  exact po_none.run pins s σ H Q I (p none H H0 M hw f (F.le.refl _))⟩
theorem do_some (h : DE X e we) : DO X (some e) (oSome we) := ⟨fun pins s σ H Q I q => by
  refine (po_some h).run pins s σ H Q I ?_
  obtain ⟨H0, Γ, M, post, f, e, hw, p⟩ := q
  refine ⟨H0, Γ, M, _, f, e, hw, fun v d H' H0' M' q f' s r => ?_⟩
  obtain ⟨i, rfl, q⟩ := isI_of q
  cases r
  exact ⟨i, rfl, p (some i) H' H0' M' q f' s⟩⟩
abbrev GS := Mem → D → Option Int → Option Int → WK → Prop
def rUS (K : PySem.W.Frag) (g : GS) : V → Option Int → Option Int → Hp → VK → Prop := fun x lo hi H Q => ∃ (H0 : F) (M : Mem) (d : D) (post : WK), Fr K H H0 M ∧ Rp K H0 x d ∧ g M d lo hi post ∧ PostV K H0 post Q
def wSl (g : GS) (w : WE) (wl wh : WO) : WE := fun Γ M post => w Γ M fun d M1 => wl Γ M1 fun lo M2 => wh Γ M2 fun hi M3 => g M3 d lo hi post
theorem de_slice {g : GS} {lo hi : Option Expr} {p2 : Pos} {wl wh : WO} (hr : SlR X (rUS X.K g)) (he : DE X e we) (hl : DO X lo wl) (hh : DO X hi wh) : DE X (.Subscript e (.Slice lo hi none p2) pos) (wSl g we wl wh) :=
  PE.weak (pe_slice hr he hl hh) fun σ H Q h => up_bind (k := fun d Γ M post => wl Γ M fun lo M2 => wh Γ M2 fun hi M3 => g M3 d lo hi post) h fun v d H1 H0 Γ M post f e r q p =>
    ⟨H0, Γ, M, _, f, e, q, fun lo H2 H02 M2 q2 f2 s2 => ⟨H02, Γ, M2, _, f2, e.mono s2, q2, fun hi H3 H03 M3 q3 f3 s3 => ⟨H03, M3, d, post, f3, (r.mono s2).mono s3, q3, (p.mono s2).mono s3⟩⟩⟩
def wB (g : GA) (w : WA) : WE := fun Γ M post => w Γ M fun ds M1 => g M1 ds post
theorem up_b {g : GA} {σ : L2.St} {H : Hp} {Q : VK} (h : up X.K (wB g w) σ H Q) : tCB (rUA X.K g) (upA X.K w) σ H Q :=
  upA_bind (k := fun ds _ M post => g M ds post) h fun vs ds H1 H0 Γ M post f e r q p => ⟨H0, M, ds, post, f, r, q, p⟩
theorem de_b {x : Str} {id : String} {p : Pos} {g : GA} (hc : CallR X (.builtin id) (rUA X.K g)) (hm : X.mg x = none) (hv : bootBuiltins x = some (.builtin id)) (ha : DA X (e :: es) w) (hg : Gl X x := by rfl) (hn : x ≠ "__name__" := by decide)
    (hdb : (x == ("__debug__" : Str)) = false := by decide) (he : starEach (e :: es) X.env = (false, eval e X.env) :: starEach es X.env := by rfl) (hpl : (backTo pos (starEach es X.env)).any (·.1) = false := by rfl) : DE X (.Call (.Name x p) (e :: es) [] pos) (wB g w) :=
  PE.weak (pe_callB hc hg hm hv ha hn hdb he hpl) fun _ _ _ h => up_b h
theorem de_ty {x : Str} {T : String} {p : Pos} {g : GA} (hc : CallR X (.type T) (rUA X.K g)) (hm : X.mg x = none) (hv : bootBuiltins x = some (.type T)) (ha : DA X (e :: es) w) (hg : Gl X x := by rfl) (hn : x ≠ "__name__" := by decide)
    (hdb : (x == ("__debug__" : Str)) = false := by decide) (he : starEach (e :: es) X.env = (false, eval e X.env) :: starEach es X.env := by rfl) (hpl : (backTo pos (starEach es X.env)).any (·.1) = false := by rfl) : DE X (.Call (.Name x p) (e :: es) [] pos) (wB g w) :=
  PE.weak (pe_callTy hc hg hm hv ha hn hdb he hpl) fun _ _ _ h => up_b h

/-! ### statements -/
variable {st : Stmt} {sts : List Stmt} {ws us : WS} {wt : WT}
def sNext : WS := fun E Γ M => E.nx Γ M
def sSeq (t u : WS) : WS := fun E Γ M => t { E with nx := u E } Γ M
theorem ds_nil : DSs X [] sNext := PSs.weak pss_nil fun E σ H h => by
  obtain ⟨H0, Γ, M, post, f, e, hw, p⟩ := h
  exact p.nx σ Γ H H0 M hw f (F.le.refl _) e
theorem ds_cons (h1 : DS X st ws) (h2 : DSs X sts us) : DSs X (st :: sts) (sSeq ws us) :=
  PSs.weak (pss_cons h1 h2) fun E σ H h => by
    obtain ⟨H0, Γ, M, post, f, e, hw, p⟩ := h
    exact ⟨H0, Γ, M, _, f, e, hw, ⟨fun σ' Γ' H' H0' M' q f' s e' => ⟨H0', Γ', M', post, f', e', q, p.mono s⟩, p.rt, p.bk, p.ct⟩⟩
theorem ds_one (h1 : DS X st ws) : DSs X [st] ws := pss_one h1
theorem ds_pass : DS X (.Pass pos) sNext := PS.weak ps_pass fun E σ H h => by
  obtain ⟨H0, Γ, M, post, f, e, hw, p⟩ := h
  exact p.nx σ Γ H H0 M hw f (F.le.refl _) e
def sDrop (w : WE) : WS := fun E Γ M => w Γ M fun _ M1 => E.nx Γ M1
theorem ds_expr (he : DE X e we) (hs : swapsWith e none pos.line X.env = pure false := by rfl) : DS X (.Expr e pos) (sDrop we) :=
  PS.weak (ps_expr he hs) fun E σ H h => by
    obtain ⟨H0, Γ, M, post, f, e, hw, p⟩ := h
    exact ⟨H0, Γ, M, _, f, e, hw, fun v d H' H0' M' q f' s r => p.nx σ Γ H' H0' M' q f' s (e.mono s)⟩
def sRet (w : WE) : WS := fun E Γ M => w Γ M E.rt
theorem ds_ret (he : DE X e we) : DS X (.Return (some e) pos) (sRet we) :=
  PS.weak (ps_ret he) fun E σ H h => by
    obtain ⟨H0, Γ, M, post, f, e, hw, p⟩ := h
    exact ⟨H0, Γ, M, _, f, e, hw, p.rt⟩
def sIf (t : WT) (u v : WS) : WS := fun E Γ M => t Γ M fun b M1 => if b = true then u E Γ M1 else v E Γ M1
theorem ds_if {c : Expr} {p q : List Stmt} {u v : WS} (hc : DT X c wt) (hp : DSs X p u) (hq : DSs X q v) : DS X (.If c p q pos) (sIf wt u v) :=
  PS.weak (ps_if hc hp hq) fun E σ H h => by
    obtain ⟨H0, Γ, M, post, f, e, hw, p⟩ := h
    refine ⟨H0, Γ, M, _, f, e, hw, fun b H' H0' M' q f' s => ?_⟩
    cases b with
    | true =>
      simp only [if_true] at q ⊢
      exact ⟨H0', Γ, M', post, f', e.mono s, q, p.mono s⟩
    | false =>
      simp only [Bool.false_eq_true, if_false] at q ⊢
      exact ⟨H0', Γ, M', post, f', e.mono s, q, p.mono s⟩
/-- a statement that the proof never comes to -/
def sNever : WS := fun _ _ _ => False
theorem ds_never : DS X st sNever := PS.weak ps_never fun E σ H h => by
  obtain ⟨H0, Γ, M, post, f, e, hw, p⟩ := h
  exact hw
/-! ### targets -/
abbrev WG := D → Env → Mem → (Env → Mem → Prop) → Prop
abbrev WGs := List D → Env → Mem → (Env → Mem → Prop) → Prop
def upG (K : PySem.W.Frag) (w : WG) : TG := fun v σ H Q => ∃ (H0 : F) (Γ : Env) (M : Mem) (d : D) (post : Env → Mem → Prop), Fr K H H0 M ∧ RpE K H0 σ Γ ∧ Rp K H0 v d ∧ w d Γ M post ∧ PostE K H0 post Q
def upGs (K : PySem.W.Frag) (w : WGs) : TGs := fun vs σ H Q => ∃ (H0 : F) (Γ : Env) (M : Mem) (ds : List D) (post : Env → Mem → Prop), Fr K H H0 M ∧ RpE K H0 σ Γ ∧ RpAll K H0 vs ds ∧ w ds Γ M post ∧ PostE K H0 post Q
abbrev DG (X : Cx) (e : Expr) (w : WG) : Prop := PG X e (upG X.K w)
abbrev DGs (X : Cx) (es : List Expr) (w : WGs) : Prop := PGs X es (upGs X.K w)
theorem PG.weak {t t' : TG} (h : PG X e t) (i : ∀ v σ H Q, t' v σ H Q → t v σ H Q) : PG X e t' := ⟨fun pins s σ H v u Q I r q => h.run pins s σ H v u Q I r (i v σ H Q q)⟩
theorem PGs.weak {t t' : TGs} (h : PGs X es t) (i : ∀ v σ H Q, t' v σ H Q → t v σ H Q) : PGs X es t' := ⟨fun pins s σ H v u Q I r q => h.run pins s σ H v u Q I r (i v σ H Q q)⟩
def gSet (i : Nat) : WG := fun d Γ M post => post (Γ.set i (some d)) M
theorem dg_name {i : Nat} {x : Str} (hN : X.N.Nodup) (hi : X.N[i]? = some x := by rfl) (hx : Loc X.env.scope x := by first | exact Or.inl rfl | exact Or.inr rfl)
    (hf : X.fn x = true ∨ X.env.scope.names.lookup x = some .local := by first | exact .inl rfl | exact .inr rfl | assumption) : DG X (.Name x pos) (gSet i) :=
  PG.weak (pg_name hN hi hx hf) fun v σ H Q h => by
    obtain ⟨H0, Γ, M, d, post, f, e, r, hw, p⟩ := h
    exact p (σ.set i (some v)) (Γ.set i (some d)) H H0 M hw f (F.le.refl _) (e.set i r)
def gsNil : WGs := fun ds Γ M post => ds = [] ∧ post Γ M
def gsCons (t : WG) (u : WGs) : WGs := fun ds Γ M post => match ds with
  | d :: r => t d Γ M fun Γ' M' => u r Γ' M' post
  | [] => False
theorem dgs_nil : DGs X [] gsNil := PGs.weak pgs_nil fun v σ H Q h => by
  obtain ⟨H0, Γ, M, d, post, f, e, r, ⟨rfl, hw⟩, p⟩ := h
  cases r
  exact ⟨rfl, p σ Γ H H0 M hw f (F.le.refl _) e⟩
theorem dgs_cons {t : WG} {u : WGs} (h1 : DG X e t) (h2 : DGs X es u) (hs : (assignEach (e :: es) X.env).map (·.2) = assign e X.env :: (assignEach es X.env).map (·.2) := by rfl) : DGs X (e :: es) (gsCons t u) :=
  PGs.weak (pgs_cons h1 h2 hs) fun v σ H Q h => by
    obtain ⟨H0, Γ, M, ds, post, f, e, r, hw, p⟩ := h
    cases r with
    | nil => exact hw.elim
    | cons r1 r2 => exact ⟨_, _, rfl, H0, Γ, M, _, _, f, e, r1, hw, fun σ' Γ' H' H0' M' q f' s e' => ⟨H0', Γ', M', _, post, f', e', r2.mono s, q, p.mono s⟩⟩
/-- what a tuple is made of -/
def isT (d : D) (k : List D → Prop) : Prop := got (tupOf d) k
theorem isT_of {d : D} {k : List D → Prop} (h : isT d k) : ∃ b, tupOf d = some b ∧ k b := got_of h
def gTup (n : Nat) (u : WGs) : WG := fun d Γ M post => isT d fun l => l.length = n ∧ u l Γ M post
def sAsg (w : WE) (g : WG) : WS := fun E Γ M => w Γ M fun d M1 => g d Γ M1 E.nx
theorem ds_asg {tg : Expr} {g : WG} (he : DE X e we) (hg : DG X tg g) (hs : swapsWithSole [tg] e pos.line X.env = pure false := by rfl) (hw : swappedStores [tg] e X.env = pure none := by rfl)
    (h1 : (assignEach [tg] X.env).map (·.2) = [assign tg X.env] := by rfl) : DS X (.Assign [tg] e pos) (sAsg we g) :=
  PS.weak (ps_asg he hg hs hw h1) fun E σ H h => by
    obtain ⟨H0, Γ, M, post, f, e, hw, p⟩ := h
    exact ⟨H0, Γ, M, _, f, e, hw, fun v d H' H0' M' q f' s r => ⟨H0', Γ, M', d, _, f', e.mono s, r, q, p.nx.mono s⟩⟩
theorem ds_set {i : Nat} {x : Str} {p2 : Pos} (hN : X.N.Nodup) (he : DE X e we) (hi : X.N[i]? = some x := by rfl) (hx : Loc X.env.scope x := by first | exact Or.inl rfl | exact Or.inr rfl)
    (hf : X.fn x = true ∨ X.env.scope.names.lookup x = some .local := by first | exact .inl rfl | exact .inr rfl | assumption) (hs : swapsWith e (some (.Name x p2)) pos.line X.env = pure false := by rfl) : DS X (.Assign [.Name x p2] e pos) (sAsg we (gSet i)) :=
  PS.weak (ps_set hN hi hx he hs hf) fun E σ H h => by
    obtain ⟨H0, Γ, M, post, f, e, hw, p⟩ := h
    exact ⟨H0, Γ, M, _, f, e, hw, fun v d H' H0' M' q f' s r => p.nx (σ.set i (some v)) (Γ.set i (some d)) H' H0' M' q f' s ((e.mono s).set i r)⟩
theorem dg_tup {k n : Nat} {u : WGs} (hc : X.calm = true) (h : DGs X es u) (hn : (assignEach es X.env).length = n := by rfl) (hst : (assignEach es X.env).findIdx? (·.1) = none := by rfl) : DG X (.Tuple es k pos) (gTup n u) :=
  PG.weak (pg_tup hc h hn hst) fun v σ H Q h => by
    obtain ⟨H0, Γ, M, d, post, f, e, r, hw, p⟩ := h
    obtain ⟨l, et, hl, hw⟩ := isT_of hw
    obtain ⟨a, xs, rfl, hs, ha, hz⟩ := r.tupl et
    exact ⟨_, _, rfl, seqT_mono f.sub hs, by rw [ha.length]; exact hl, H0, Γ, M, _, _, f, e, ha, hw, p⟩
/-- a, b = x, y with plain local names -/
def sPar (i j : Nat) (w : WA) : WS := fun E Γ M => w Γ M fun ds M1 => match ds with
  | [x, y] => E.nx ((Γ.set i (some x)).set j (some y)) M1
  | _ => False
theorem ds_par {i j : Nat} {x y : Str} {px py pt : Pos} {kt k2 pt2} (hc : X.calm = true) (hN : X.N.Nodup) (ha : DA X [a, b] w) (hij : i ≠ j := by decide) (hi : X.N[i]? = some x := by rfl) (hj : X.N[j]? = some y := by rfl)
    (hx : X.env.scope.names.lookup x = some .local := by rfl) (hy : X.env.scope.names.lookup y = some .local := by rfl)
    (hw : swappedStores [.Tuple [.Name x px, .Name y py] kt pt] (.Tuple [a, b] k2 pt2) X.env = pure (some [x, y]) := by rfl)
    (hs : swapsWithSole [.Tuple [.Name x px, .Name y py] kt pt] (.Tuple [a, b] k2 pt2) pos.line X.env = pure false := by rfl) :
    DS X (.Assign [.Tuple [.Name x px, .Name y py] kt pt] (.Tuple [a, b] k2 pt2) pos) (sPar i j w) :=
  PS.weak (ps_par hc hN hi hj hij hx hy ha hw hs) fun E σ H h => by
    obtain ⟨H0, Γ, M, post, f, e, hw, p⟩ := h
    refine ⟨H0, Γ, M, _, f, e, hw, fun vs ds H' H0' M' q f' s r => ?_⟩
    match ds, r, q with
    | [x, y], .cons r1 (.cons r2 .nil), q => exact ⟨_, _, rfl, p.nx _ _ H' H0' M' q f' s (((e.mono s).set i r1).set j r2)⟩
def sPar3 (i j l : Nat) (w : WA) : WS := fun E Γ M => w Γ M fun ds M1 => match ds with
  | [x, y, z] => E.nx (((Γ.set i (some x)).set j (some y)).set l (some z)) M1
  | _ => False
theorem ds_par3 {i j l : Nat} {x y z : Str} {px py pz pt : Pos} {kt k2 pt2} (hc : X.calm = true) (hN : X.N.Nodup) (ha : DA X [a, b, c] w) (hij : i ≠ j := by decide) (hil : i ≠ l := by decide) (hjl : j ≠ l := by decide)
    (hi : X.N[i]? = some x := by rfl) (hj : X.N[j]? = some y := by rfl) (hl : X.N[l]? = some z := by rfl)
    (hx : X.env.scope.names.lookup x = some .local := by rfl) (hy : X.env.scope.names.lookup y = some .local := by rfl) (hz : X.env.scope.names.lookup z = some .local := by rfl)
    (hw : swappedStores [.Tuple [.Name x px, .Name y py, .Name z pz] kt pt] (.Tuple [a, b, c] k2 pt2) X.env = pure (some [x, y, z]) := by rfl)
    (hs : swapsWithSole [.Tuple [.Name x px, .Name y py, .Name z pz] kt pt] (.Tuple [a, b, c] k2 pt2) pos.line X.env = pure false := by rfl) :
    DS X (.Assign [.Tuple [.Name x px, .Name y py, .Name z pz] kt pt] (.Tuple [a, b, c] k2 pt2) pos) (sPar3 i j l w) :=
  PS.weak (ps_par3 hc hN hi hj hl hij hil hjl hx hy hz ha hw hs) fun E σ H h => by
    obtain ⟨H0, Γ, M, post, f, e, hw, p⟩ := h
    refine ⟨H0, Γ, M, _, f, e, hw, fun vs ds H' H0' M' q f' s r => ?_⟩
    match ds, r, q with
    | [x, y, z], .cons r1 (.cons r2 (.cons r3 .nil)), q => exact ⟨_, _, _, rfl, p.nx _ _ H' H0' M' q f' s ((((e.mono s).set i r1).set j r2).set l r3)⟩
end
end FD

namespace FD
open PySem PySem.Spec PyProof.Rows L2
/-! ### what is walked -/
structure DWalk (K : PySem.W.Frag) (J : It) (items : List D) (G : Mem → Prop) (H0 : F) : Prop where
  ex : ∃ (Gv : Hp → Prop) (Y : Nat → Hp → V → Hp → Prop), Walk J items.length Gv Y ∧ (∀ H' H0' M', Fr K H' H0' M' → Same H0.ice H0'.ice → G M' → Gv H') ∧
    ∀ i H x H' H0' M' d, items[i]? = some d → Fr K H H0' M' → Same H0.ice H0'.ice → G M' → Y i H x H' → ∃ H0'', Fr K H' H0'' M' ∧ F.le H0' H0'' ∧ Rp K H0'' x d
  fit : items.length ≤ sizeLine
abbrev WI := Env → Mem → (List D → (Mem → Prop) → Mem → Prop) → Prop
def upI (K : PySem.W.Frag) (w : WI) : TI := fun σ H R => ∃ (H0 : F) (Γ : Env) (M : Mem) (post : List D → (Mem → Prop) → Mem → Prop), Fr K H H0 M ∧ RpE K H0 σ Γ ∧ w Γ M post ∧
  ∀ items G J H' H0' M', post items G M' → Fr K H' H0' M' → F.le H0 H0' → DWalk K J items G H0' → R J H'
abbrev DI (X : Cx) (tg e : Expr) (w : WI) : Prop := PI X tg e (upI X.K w)
def noG : Mem → Prop := fun _ => True
section
variable {X : Cx} {a b c e tg : Expr} {wa wb wc we : WE} {pos : Pos} {es : List Expr} {w : WA}
theorem PI.weak {t t' : TI} (h : PI X tg e t) (i : ∀ σ H R, t' σ H R → t σ H R) : PI X tg e t' := ⟨fun pins s σ H R I q => h.run pins s σ H R I (i σ H R q)⟩
theorem walkD_list {K : PySem.W.Frag} {p : Addr} {xs : List V} {ds : List D} {H0 : F} {G : Mem → Prop} (hs : ∀ H' H0' M', Fr K H' H0' M' → Same H0.ice H0'.ice → G M' → SqL K H' p xs) (ha : RpAll K H0 xs ds) (hz : ds.length ≤ sizeLine) : DWalk K (Itl K p) ds G H0 := by
  refine ⟨⟨fun H => SqL K H p xs, YAt xs, ?_, hs, fun i H x H' H0' M' d hd f s _ y => ?_⟩, hz⟩
  · have q := walk_list (K := K) (a := p) (xs := xs)
    rw [ha.length] at q
    exact q
  · obtain ⟨rfl, hx⟩ := y
    obtain ⟨d', e1, r⟩ := ha.getV hx
    rw [hd] at e1; cases e1
    exact ⟨H0', f, F.le.refl _, r.mono' s⟩
theorem walkD_tup {K : PySem.W.Frag} {p : Addr} {xs : List V} {ds : List D} {H0 : F} (hs : SqT K H0.ice p xs) (ha : RpAll K H0 xs ds) (hz : ds.length ≤ sizeLine) : DWalk K (Itt K p) ds noG H0 := by
  refine ⟨⟨fun H => SqT K H p xs, YAt xs, ?_, fun H' H0' M' f s _ => seqT_mono (s.trans f.sub) hs, fun i H x H' H0' M' d hd f s _ y => ?_⟩, hz⟩
  · have q := walk_tup (K := K) (a := p) (xs := xs)
    rw [ha.length] at q
    exact q
  · obtain ⟨rfl, hx⟩ := y
    obtain ⟨d', e1, r⟩ := ha.getV hx
    rw [hd] at e1; cases e1
    exact ⟨H0', f, F.le.refl _, r.mono' s⟩
theorem walkD_cell {K : PySem.W.Frag} {p : Addr} {ds : List D} {H0 : F} (hz : ds.length ≤ sizeLine) : DWalk K (Itl K p) ds (fun M => M p = some (.lst ds)) H0 := by
  refine ⟨⟨fun H => ∃ xs, H p = some (.lst xs) ∧ xs.length = ds.length, fun i H x H' => H' = H ∧ ∀ xs, SqL K H p xs → xs[i]? = some x, ⟨fun i H hi hg => ?_, fun H hg => ?_, fun i H x H' hi hg y => y⟩, fun H' H0' M' f s g => ?_, fun i H x H' H0' M' d hd f s g y => ?_⟩, hz⟩
  · obtain ⟨xs, h, hl⟩ := hg
    exact ⟨xs, xs[i], .of h, by simp [hl, hi]⟩
  · obtain ⟨xs, h, hl⟩ := hg
    exact ⟨xs, .of h, by omega⟩
  · obtain ⟨_, o, ho, ro⟩ := f.mem p _ g
    cases ro with
    | @lst xs _ ha hz => exact ⟨xs, ho, ha.length⟩
  · obtain ⟨rfl, hx⟩ := y
    obtain ⟨_, o, ho, ro⟩ := f.mem p _ g
    cases ro with
    | @lst xs _ ha hz =>
      obtain ⟨d', e1, r⟩ := ha.getV (hx xs (.of ho))
      rw [hd] at e1; cases e1
      exact ⟨H0', f, F.le.refl _, r⟩
/-- a list is walked -/
def asL (M : Mem) (d : D) (k : List D → (Mem → Prop) → Prop) : Prop := match d with
  | .lst l => k l noG
  | .scr l => k l noG
  | .ptr p => match M p with
    | some (.lst l) => k l fun M' => M' p = some (.lst l)
    | _ => False
  | _ => False
def iLst (w : WE) : WI := fun Γ M post => w Γ M fun d M1 => asL M1 d fun l G => post l G M1
theorem di_list (he : DE X e we) : DI X tg e (iLst we) :=
  PI.weak (pi_list he) fun σ H R h => by
    obtain ⟨H0, Γ, M, post, f, en, hw, p⟩ := h
    refine ⟨H0, Γ, M, _, f, en, hw, fun v d H' H0' M' q f' s r => ?_⟩
    cases r with
    | @lst a xs ds hl ha hz => exact ⟨a, rfl, ⟨xs, .of (f'.sub _ _ hl)⟩, p ds noG _ H' H0' M' q f' s (walkD_list (fun H2 H02 M2 f2 s2 _ => .of (f2.sub _ _ (s2 _ _ hl))) ha hz)⟩
    | @scr a xs ds hl ha hz => exact ⟨a, rfl, ⟨xs, f'.sub.seq hl⟩, p ds noG _ H' H0' M' q f' s (walkD_list (fun H2 H02 M2 f2 s2 _ => f2.sub.seq (s2.seq hl)) ha hz)⟩
    | ptr a =>
      cases hm : M' a with
      | none => simp only [asL, hm] at q
      | some mo =>
        cases mo with
        | lst l =>
          simp only [asL, hm] at q
          obtain ⟨_, o, ho, ro⟩ := f'.mem a _ hm
          cases ro with
          | @lst xs _ ha hz =>
            exact ⟨a, rfl, ⟨xs, .of ho⟩, p l _ _ H' H0' M' q f' s (walkD_cell hz)⟩
        | _ => simp only [asL, hm] at q
    | _ => exact q.elim
def iTup (w : WE) : WI := fun Γ M post => w Γ M fun d M1 => isT d fun l => post l noG M1
theorem di_tup (he : DE X e we) : DI X tg e (iTup we) :=
  PI.weak (pi_tup he) fun σ H R h => by
    obtain ⟨H0, Γ, M, post, f, en, hw, p⟩ := h
    refine ⟨H0, Γ, M, _, f, en, hw, fun v d H' H0' M' q f' s r => ?_⟩
    obtain ⟨l, et, q⟩ := isT_of q
    obtain ⟨a, xs, rfl, hl, ha, hz⟩ := r.tupl et
    exact ⟨a, rfl, ⟨xs, seqT_mono f'.sub hl⟩, p l noG _ H' H0' M' q f' s (walkD_tup hl ha hz)⟩
/-- the signs of a text -/
def signs (s : Str) : List D := s.cps.toList.map fun c => .str ⟨#[c]⟩
def isS (d : D) (k : Str → Prop) : Prop := match d with
  | .str s => k s
  | _ => False
theorem isS_of {d : D} {k : Str → Prop} (h : isS d k) : ∃ b, d = .str b ∧ k b := by
  cases d with
  | str b => exact ⟨b, rfl, h⟩
  | _ => exact h.elim
def iStrD (w : WE) : WI := fun Γ M post => w Γ M fun d M1 => isS d fun z => post (signs z) noG M1
theorem di_str (he : DE X e we) : DI X tg e (iStrD we) :=
  PI.weak (pi_str he) fun σ H R h => by
    obtain ⟨H0, Γ, M, post, f, en, hw, p⟩ := h
    refine ⟨H0, Γ, M, _, f, en, hw, fun v d H' H0' M' q f' s r => ?_⟩
    obtain ⟨z, rfl, q⟩ := isS_of q
    cases r with
    | str _ hz =>
      have hl : (signs z).length = z.cps.size := by simp [signs]
      refine ⟨z, rfl, p _ noG _ H' H0' M' q f' s ⟨⟨fun _ => True, fun i H v H' => H' = H ∧ ∃ c, z.cps[i]? = some c ∧ v = .str ⟨#[c]⟩, ?_, fun _ _ _ _ _ _ => trivial, fun i H x H' H0' M' d hd f s _ y => ?_⟩, by rw [hl]; exact sOk_len hz⟩⟩
      · rw [hl]; exact walk_str
      · obtain ⟨rfl, c, hc, rfl⟩ := y
        have e1 : (signs z)[i]? = some (.str ⟨#[c]⟩) := by simp [signs, hc]
        rw [hd] at e1; cases e1
        exact ⟨H0', f, F.le.refl _, .str _ (sOk_sign hz (by rw [Array.mem_toList_iff]; exact Array.mem_of_getElem? hc))⟩
/-- range(n), range(m, n) -/
def rng (lo : Int) (n : Nat) : List D := (List.range n).map fun (i : Nat) => .int (lo + (i : Int))
def iRng (w : WA) : WI := fun Γ M post => w Γ M fun ds M1 => match ds with
  | [.int j] => j ≤ 16777216 ∧ -16777216 ≤ j ∧ post (rng 0 j.toNat) noG M1
  | _ => False
def iRng2 (w : WA) : WI := fun Γ M post => w Γ M fun ds M1 => match ds with
  | [.int i, .int j] => (j ≤ 16777216 ∧ -16777216 ≤ j ∧ i ≤ 16777216 ∧ 0 ≤ i) ∧ post (rng i (j - i).toNat) noG M1
  | _ => False
theorem walkD_rng {K : PySem.W.Frag} {lo : Int} {n : Nat} {H0 : F} (hz : n ≤ sizeLine) : DWalk K (Itr lo n) (rng lo n) noG H0 := by
  have hl : (rng lo n).length = n := by simp [rng]
  refine ⟨⟨fun _ => True, YFn fun i => .int (lo + i), by rw [hl]; exact walk_range, fun _ _ _ _ _ _ => trivial, fun i H x H' H0' M' d hd f s _ y => ?_⟩, by rw [hl]; exact hz⟩
  obtain ⟨rfl, rfl⟩ := y
  have hi : i < n := by
    have := (List.getElem?_eq_some_iff.mp hd).1
    rw [hl] at this; exact this
  have e1 : (rng lo n)[i]? = some (.int (lo + i)) := by simp [rng, hi]
  rw [hd] at e1; cases e1
  exact ⟨H0', f, F.le.refl _, .int _⟩
theorem di_range {p : Pos} (hm : X.mg "range" = none) (ha : DA X [a] w) (hg : Gl X "range" := by rfl) (hs : starEach [a] X.env = [(false, eval a X.env)] := by rfl) : DI X tg (.Call (.Name "range" p) [a] [] pos) (iRng w) :=
  PI.weak (pi_range1 hg hm ha hs) fun σ H R h => by
    obtain ⟨H0, Γ, M, post, f, en, hw, p⟩ := h
    refine ⟨H0, Γ, M, _, f, en, hw, fun vs ds H' H0' M' q f' s r => ?_⟩
    match ds, r, q with
    | [.int j], .cons (.int _) .nil, q => exact ⟨j, rfl, by omega, by omega, p _ noG _ H' H0' M' q.2.2 f' s (walkD_rng (by rw [sizeLine_eq]; omega))⟩
theorem di_range2 {p : Pos} (hm : X.mg "range" = none) (ha : DA X [a, b] w) (hg : Gl X "range" := by rfl) (hs : starEach [a, b] X.env = [(false, eval a X.env), (false, eval b X.env)] := by rfl) (hs2 : starEach [b] X.env = [(false, eval b X.env)] := by rfl) :
    DI X tg (.Call (.Name "range" p) [a, b] [] pos) (iRng2 w) :=
  PI.weak (pi_range2 hg hm ha hs hs2) fun σ H R h => by
    obtain ⟨H0, Γ, M, post, f, en, hw, p⟩ := h
    refine ⟨H0, Γ, M, _, f, en, hw, fun vs ds H' H0' M' q f' s r => ?_⟩
    match ds, r, q with
    | [.int i, .int j], .cons (.int _) (.cons (.int _) .nil), q => exact ⟨i, j, rfl, ⟨by omega, by omega, by omega, by omega⟩, p _ noG _ H' H0' M' q.2 f' s (walkD_rng (by rw [sizeLine_eq]; omega))⟩

/-! ### for -/
def sFor (wi : WI) (g : WG) (tb : WS) : WS := fun E Γ M => wi Γ M fun items G M1 => ∃ Pv : Nat → Env → Mem → Prop, Pv 0 Γ M1 ∧ (∀ i Γ' M', Pv i Γ' M' → G M') ∧
  (∀ i d Γ' M', items[i]? = some d → Pv i Γ' M' → g d Γ' M' fun Γ2 M2 => tb { E with nx := Pv (i + 1), ct := Pv (i + 1), bk := E.nx } Γ2 M2) ∧ ∀ Γ' M', Pv items.length Γ' M' → E.nx Γ' M'
theorem ds_for {iter : Expr} {body : List Stmt} {wi : WI} {g : WG} {tb : WS} (hp : PassesOwn (model X.prog X.w) X.A X.env X.xe) (hc : X.calm = true) (hi : DI X tg iter wi) (hg : DG X tg g) (hb : DSs X body tb)
    (hs : ∀ x, foldedSetIterable iter X.env x = pure x := by intro _; rfl) : DS X (.For tg iter body [] pos) (sFor wi g tb) :=
  PS.weak (ps_for hp hc hi hg hb hs) fun E σ H h => by
    obtain ⟨H0, Γ, M, post, f, en, hw, p⟩ := h
    refine ⟨H0, Γ, M, _, f, en, hw, fun items G J H1 H01 M1 q f1 s1 dw => ?_⟩
    obtain ⟨Pv, h0, hG, hstep, hend⟩ := q
    obtain ⟨⟨Gv, Y, wk, gv, yl⟩, fit⟩ := dw
    refine for_it wk (fun i σ' H' => ∃ H0' Γ' M', Fr X.K H' H0' M' ∧ F.le H01 H0' ∧ RpE X.K H0' σ' Γ' ∧ Pv i Γ' M') ⟨H01, Γ, M1, f1, F.le.refl _, en.mono s1, h0⟩ ?_ ?_ ?_
    · rintro i σ' H' _ ⟨H0', Γ', M', f', s', e', pv⟩
      exact gv H' H0' M' f' s'.ice (hG i Γ' M' pv)
    · rintro i x σ' H' H'' hi ⟨H0', Γ', M', f', s', e', pv⟩ y
      have hd : items[i]? = some items[i] := List.getElem?_eq_getElem hi
      obtain ⟨H0'', f'', s'', r⟩ := yl i H' x H'' H0' M' _ hd f' s'.ice (hG i Γ' M' pv) y
      have t1 : F.le H0 H0'' := (s1.trans s').trans s''
      refine ⟨H0'', Γ', M', _, _, f'', e'.mono s'', r, hstep i _ Γ' M' hd pv, fun σ2 Γ2 H2 H02 M2 q2 f2 s2 e2 => ⟨H02, Γ2, M2, _, f2, e2, q2, ?_⟩⟩
      have t2 := (s'.trans s'').trans s2
      exact ⟨fun σ3 Γ3 H3 H03 M3 q3 f3 s3 e3 => ⟨H03, Γ3, M3, f3, t2.trans s3, e3, q3⟩, p.rt.mono (t1.trans s2), p.nx.mono (t1.trans s2), fun σ3 Γ3 H3 H03 M3 q3 f3 s3 e3 => ⟨H03, Γ3, M3, f3, t2.trans s3, e3, q3⟩⟩
    · rintro σ' H' ⟨H0', Γ', M', f', s', e', pv⟩
      exact p.nx σ' Γ' H' H0' M' (hend Γ' M' pv) f' (s1.trans s') e'

/-! ### list comprehensions: the target a name, or a tuple of names -/
theorem wipe1 {σ : L2.St} {i : Nat} {v : Option V} : wipe ((wipe σ [i]).set i v) [i] = wipe σ [i] := by
  show ((σ.set i none).set i v).set i none = σ.set i none
  rw [List.set_set, List.set_set]
theorem RpE.wiped {K : PySem.W.Frag} {H : F} {σ : L2.St} {Γ : Env} {v : V} {d : D} (e : RpE K H σ Γ) (i : Nat) (r : Rp K H v d) : RpE K H ((wipe σ [i]).set i (some v)) (Γ.set i (some d)) := by
  have z := (e.unset i).set i r
  rw [List.set_set] at z
  show RpE K H ((σ.set i none).set i (some v)) _
  rw [List.set_set]
  exact List.set_set (l := Γ) .. ▸ z
end
end FD

set_option maxHeartbeats 400000
namespace FD
open PySem PySem.Spec PyProof.Rows L2
section
variable {X : Cx} {elt iter tg e : Expr} {ifs : List Expr} {scope : Scope} {pos : Pos} {wi : WI} {tt : WT} {te : WE}
abbrev GD := D → Env → (Env → Prop) → Prop
/-- how the item goes to the slots -/
structure Tgt (K : PySem.W.Frag) (g : TG) (vs : List Nat) (gd : GD) : Prop where
  run : ∀ (v : V) (d : D) (σ : L2.St) (H : Hp) (H0 : F) (M : Mem) (Γ : Env) (post : Env → Prop) (Q : L2.St → Hp → Prop), Fr K H H0 M → RpE K H0 σ Γ → Rp K H0 v d → gd d Γ post →
    (∀ σ2 Γ2, wipe σ2 vs = wipe σ vs → RpE K H0 σ2 Γ2 → post Γ2 → Q σ2 H) → g v (wipe σ vs) H Q
def t1 (i : Nat) : GD := fun d Γ post => post (Γ.set i (some d))
theorem tgt1 {K : PySem.W.Frag} {i : Nat} : Tgt K (gName i) [i] (t1 i) :=
  ⟨fun v d σ H H0 M Γ post Q f e r w q => q _ _ wipe1 (e.wiped i r) w⟩
def two (l : List D) (k : D → D → Prop) : Prop := match l with
  | [x, y] => k x y
  | _ => False
theorem two_of {l : List D} {k : D → D → Prop} (h : two l k) : ∃ x y, l = [x, y] ∧ k x y := by
  unfold two at h
  split at h
  · exact ⟨_, _, rfl, h⟩
  · exact h.elim
def t2 (i j : Nat) : GD := fun d Γ post => isT d fun l => two l fun x y => post ((Γ.set i (some x)).set j (some y))
theorem wipe2 {σ : L2.St} {i j : Nat} (hij : i ≠ j) (a b : Option V) : wipe (((wipe σ [i, j]).set i a).set j b) [i, j] = wipe σ [i, j] := by
  show ((((((σ.set j none).set i none).set i a).set j b).set j none).set i none) = (σ.set j none).set i none
  rw [List.set_set, List.set_set, List.set_comm _ _ (Ne.symm hij), List.set_set]
  rw [List.set_comm _ _ hij, List.set_set]
theorem tgt2 {K : PySem.W.Frag} {i j : Nat} (hij : i ≠ j) : Tgt K (L2.gTup K 2 (gCons (gName i) (gCons (gName j) gNil))) [i, j] (t2 i j) := by
  refine ⟨fun v d σ H H0 M Γ post Q f e r w q => ?_⟩
  obtain ⟨l, et, w⟩ := isT_of w
  obtain ⟨x, y, rfl, w⟩ := two_of w
  obtain ⟨a, xs, rfl, hs, ha, hz⟩ := r.tupl et
  cases ha with
  | @cons vx _ _ _ r1 ha2 =>
    cases ha2 with
    | @cons vy _ _ _ r2 ha3 =>
      cases ha3
      refine ⟨a, [vx, vy], rfl, seqT_mono f.sub hs, rfl, vx, [vy], rfl, vy, [], rfl, rfl, q _ _ (wipe2 hij _ _) ?_ w⟩
      have z := (((e.unset j).unset i).set i r1).set j r2
      have e1 : (((Γ.set j none).set i none).set i (some x)).set j (some y) = (Γ.set i (some x)).set j (some y) := by
        rw [List.set_set, List.set_comm _ _ (Ne.symm hij), List.set_set]
      rw [e1] at z
      exact z
def wLc (wi : WI) (gd : GD) (tt : WT) (te : WE) : WE := fun Γ M post => wi Γ M fun items G M1 => ∃ Pv : Nat → List D → Mem → Prop, Pv 0 [] M1 ∧ (∀ i acc M', Pv i acc M' → G M') ∧
  (∀ i d acc M', items[i]? = some d → Pv i acc M' → gd d Γ fun Γ2 => tt Γ2 M' fun b M3 => if b = true then te Γ2 M3 fun y M4 => Pv (i + 1) (acc ++ [y]) M4 else Pv (i + 1) acc M3) ∧
  ∀ acc M', Pv items.length acc M' → post (.lst acc) M'
def tYesD : WT := fun _ M post => post true M
theorem up_lc {g : TG} {gd : GD} {vs : List Nat} (tg : Tgt X.K g vs gd) {σ : L2.St} {H : Hp} {Q : VK} (h : up X.K (wLc wi gd tt te) σ H Q) : tLc (upI X.K wi) g (upT X.K tt) (up X.K te) vs σ H Q := by
  obtain ⟨H0, Γ, M, post, f, en, hw, p⟩ := h
  refine ⟨H0, Γ, M, _, f, en, hw, fun items G J H1 H01 M1 q f1 s1 dw D hD => ?_⟩
  obtain ⟨Pv, h0, hG, hstep, hend⟩ := q
  obtain ⟨⟨Gv, Y, wk, gv, yl⟩, fit⟩ := dw
  have hD0 := (f1.fresh hD).1
  refine lc_it wk (fun i H' => ∃ H0' M' acc xs, Fr X.K H' H0' M' ∧ F.le H01 H0' ∧ H0' D = some (.res (.lst xs)) ∧ RpAll X.K H0' xs acc ∧ acc.length ≤ i ∧ Pv i acc M')
    ⟨H01.put D (.res (.lst [])), M1, [], [], f1.hold hD, F.le_put hD0, F.put_same, .nil, Nat.le_refl _, h0⟩ ?_ ?_ ?_
  · rintro i H' _ ⟨H0', M', acc, xs, f', s', hr, ra, hl, pv⟩
    exact gv H' H0' M' f' s'.ice (hG i acc M' pv)
  · rintro i x H' H'' hi ⟨H0', M', acc, xs, f', s', hr, ra, hl, pv⟩ y
    have hd : items[i]? = some items[i] := List.getElem?_eq_getElem hi
    obtain ⟨H0'', f'', s'', r⟩ := yl i H' x H'' H0' M' _ hd f' s'.ice (hG i acc M' pv) y
    refine tg.run x _ σ H'' H0'' M' Γ _ _ f'' ((en.mono s1).mono (s'.trans s'')) r (hstep i _ acc M' hd pv) fun σ2 Γ2 hw2 e2 q2 => ⟨hw2, H0'', Γ2, M', _, f'', e2, q2, fun b H3 H03 M3 q3 f3 s3 => ?_⟩
    have hr3 : H03 D = some (.res (.lst xs)) := s3 _ _ (s'' _ _ hr)
    have ra3 := (ra.mono s'').mono s3
    cases b with
    | false =>
      simp only [Bool.false_eq_true, if_false] at q3 ⊢
      exact ⟨H03, M3, acc, xs, f3, (s'.trans s'').trans s3, hr3, ra3, by omega, q3⟩
    | true =>
      simp only [if_true] at q3 ⊢
      refine ⟨H03, Γ2, M3, _, f3, e2.mono s3, q3, fun v d H4 H04 M4 q4 f4 s4 r4 => ?_⟩
      have hr4 : H04 D = some (.res (.lst xs)) := s4 _ _ hr3
      have ra4 := ra3.mono s4
      refine ⟨xs, f4.res _ _ hr4, ?_, ?_⟩
      · rw [ra4.length]; omega
      · have ic := put_res_ice (o' := .lst (xs ++ [v])) hr4
        refine ⟨H04.put D (.res (.lst (xs ++ [v]))), M4, acc ++ [d], xs ++ [v], f4.rehold hr4, ?_, F.put_same, ?_, ?_, q4⟩
        · intro b o eb
          have t := (((s'.trans s'').trans s3).trans s4) b o eb
          by_cases hb : b = D
          · subst hb; rw [hD0] at eb; cases eb
          · rw [F.put_ne hb]; exact t
        · exact (ra4.mono' ic).append (.cons (r4.mono' ic) .nil)
        · rw [List.length_append]; simp; exact hl
  · rintro H' ⟨H0', M', acc, xs, f', s', hr, ra, hl, pv⟩
    have ic := put_thaw_ice (o' := .lst xs) hr
    refine p _ _ H' (H0'.put D (.ice (.lst xs))) M' (hend acc M' pv) (f'.settle hr) (s1.trans ?_) (.lst (F.ice_eq F.put_same) (ra.mono' ic) (by omega))
    intro b o eb
    by_cases hb : b = D
    · subst hb; rw [hD0] at eb; cases eb
    · rw [F.put_ne hb]; exact s' b o eb
/-- the ifs -/
abbrev DTs (X : Cx) (ifs : List Expr) (w : WT) : Prop := PTs X ifs (upT X.K w)
theorem dts_nil : DTs X [] tYesD := ⟨fun pins s σ H Q I h => by
  obtain ⟨H0, Γ, M, post, f, e, hw, p⟩ := h
  exact pts_nil.run pins s σ H Q I (p true H H0 M hw f (F.le.refl _))⟩
theorem dts_one {c : Expr} {w : WT} (h : DT X c w) : DTs X [c] w := pts_one h
theorem de_lc {own : List (Str × Nat)} {g : TG} {gd : GD} (hc : X.calm = true) (hN : X.N.Nodup) (hi : DI X tg iter wi) (ok : BlkOk X.N X.env.scope scope own) (tgt : Tgt X.K g (own.map (·.2)) gd)
    (hg : ∀ (s : Shared) (H : Hp) (C : Addr) (cl : List (Str × Addr)) (fp : List Addr), PG (X.blk s H scope (compEnvC scope cl C X.env) fp) tg g) (ht : ∀ (s : Shared) (H : Hp) (C : Addr) (cl : List (Str × Addr)) (fp : List Addr), DTs (X.blk s H scope (compEnvC scope cl C X.env) fp) ifs tt)
    (he : ∀ (s : Shared) (H : Hp) (C : Addr) (cl : List (Str × Addr)) (fp : List Addr), DE (X.blk s H scope (compEnvC scope cl C X.env) fp) elt te) (hs : ∀ x, foldedSetIterable iter X.env x = pure x := by intro _; rfl) :
    DE X (.ListComp elt [⟨tg, iter, ifs, 0⟩] scope pos) (wLc wi gd tt te) :=
  PE.weak (pe_lc hc hN hi ok hg ht he hs) fun _ _ _ h => up_lc tgt h
theorem ds_setLc {i : Nat} {y : Str} {py spos : Pos} {own : List (Str × Nat)} {g : TG} {gd : GD} (hc : X.calm = true) (hN : X.N.Nodup) (hi : DI X tg iter wi) (ok : BlkOk X.N X.env.scope scope own) (tgt : Tgt X.K g (own.map (·.2)) gd)
    (hg : ∀ (s : Shared) (H : Hp) (C : Addr) (cl : List (Str × Addr)) (fp : List Addr), PG (X.blk s H scope (compEnvC scope cl C X.env) fp) tg g) (ht : ∀ (s : Shared) (H : Hp) (C : Addr) (cl : List (Str × Addr)) (fp : List Addr), DTs (X.blk s H scope (compEnvC scope cl C X.env) fp) ifs tt)
    (he : ∀ (s : Shared) (H : Hp) (C : Addr) (cl : List (Str × Addr)) (fp : List Addr), DE (X.blk s H scope (compEnvC scope cl C X.env) fp) elt te)
    (hsw : swapsWith (.ListComp elt [⟨tg, iter, ifs, 0⟩] scope pos) (some (.Name y py)) spos.line X.env = pure true) (hy : X.N[i]? = some y := by rfl) (hyl : X.env.scope.names.lookup y = some .local := by rfl) (hs : ∀ x, foldedSetIterable iter X.env x = pure x := by intro _; rfl) :
    DS X (.Assign [.Name y py] (.ListComp elt [⟨tg, iter, ifs, 0⟩] scope pos) spos) (sAsg (wLc wi gd tt te) (gSet i)) :=
  PS.weak (ps_setLc hc hN hy hyl hsw hi ok hg ht he hs) fun E σ H h => by
    obtain ⟨H0, Γ, M, post, f, e, hw, p⟩ := h
    exact up_lc tgt ⟨H0, Γ, M, _, f, e, hw, fun v d H' H0' M' q f' s r => p.nx (σ.set i (some v)) (Γ.set i (some d)) H' H0' M' q f' s ((e.mono s).set i r)⟩
end
end FD

namespace FD
open PySem PySem.Spec PyProof.Rows L2
/-! ### defs: promises over data -/
abbrev DSp := List D → Mem → WK → Prop
def toSp (K : PySem.W.Frag) (dsp : DSp) (vs : List V) (H : Hp) (Q : VK) : Prop := ∃ (H0 : F) (M : Mem) (ds : List D) (post : WK), Fr K H H0 M ∧ RpAll K H0 vs ds ∧ dsp ds M post ∧ PostV K H0 post Q
/-- the def at f keeps the promise where nobody further up is within a repr -/
structure FnG (P : Program) (w : World) (K : PySem.W.Frag) (mg : Str → Option Value) (base : Heap) (k : Nat) (f : Addr) (fd : FuncData) (ps : List Str) (dsp : DSp) : Prop where
  len : ∀ ds M post, dsp ds M post → ds.length = ps.length
  go : ∀ (A : Around) (outer : List PySem.Env) (s : Shared) (H : Hp) (args : Args) (us : List Value) (vs : List V) (Q : VK), A.guards = some [] → Room k A → Env0 P w K mg base A outer s H → BindsTo s fd args (ps.zip us) → Vals vs us →
    toSp K dsp vs H Q → codeAny (model P w) A (.call (.ref f) args) (CR CX0 outer P w H s Q E0) s
theorem toSp.len {K : PySem.W.Frag} {dsp : DSp} {n : Nat} (l : ∀ ds M post, dsp ds M post → ds.length = n) {vs : List V} {H : Hp} {Q : VK} (h : toSp K dsp vs H Q) : vs.length = n := by
  obtain ⟨H0, M, ds, post, f, r, q, p⟩ := h
  rw [r.length]; exact l ds M post q
/-- the context of a body -/
abbrev bx (P : Program) (w : World) (K : PySem.W.Frag) (mg : Str → Option Value) (base : Heap) (N : List Str) (qual : Str) (sc : Scope) (f : Addr) (cdv : Value) (A : Around) (outer : List PySem.Env) (s : Shared) (H : Hp) : Cx :=
  (cxOf CX0 P w K mg base N qual sc f cdv A outer s H E0).nox
def startD : List Str → List D → Env
  | _ :: N, d :: ds => some d :: startD N ds
  | _ :: N, [] => none :: startD N []
  | [], ds => ds.map some
theorem start_cons {x : Str} {N : List Str} {v : V} {vs : List V} : L2.start (x :: N) (v :: vs) = some v :: L2.start N vs := by
  unfold L2.start
  simp
theorem start_nil {x : Str} {N : List Str} : L2.start (x :: N) [] = none :: L2.start N [] := by
  unfold L2.start
  simp [List.replicate_succ]
theorem RpE.cons {K : PySem.W.Frag} {H : F} {σ : L2.St} {Γ : Env} {v : V} {d : D} (e : RpE K H σ Γ) (r : Rp K H v d) : RpE K H (some v :: σ) (some d :: Γ) := by
  refine ⟨by simp [e.len], fun i d' h => ?_⟩
  cases i with
  | zero => simp at h; subst h; exact ⟨v, rfl, r⟩
  | succ i => exact e.at_ i d' (by simpa using h)
theorem RpE.skip {K : PySem.W.Frag} {H : F} {σ : L2.St} {Γ : Env} (e : RpE K H σ Γ) : RpE K H (none :: σ) (none :: Γ) := by
  refine ⟨by simp [e.len], fun i d' h => ?_⟩
  cases i with
  | zero => simp at h
  | succ i => exact e.at_ i d' (by simpa using h)
theorem startD_rp {K : PySem.W.Frag} {H : F} : ∀ {N : List Str} {vs : List V} {ds : List D}, RpAll K H vs ds → RpE K H (L2.start N vs) (startD N ds)
  | [], _, _, .nil => ⟨rfl, fun i d h => by simp [startD] at h⟩
  | [], _, _, .cons r t => by
    have ih := startD_rp (N := []) t
    have e1 : ∀ (v : V) (vs : List V), L2.start [] (v :: vs) = some v :: L2.start [] vs := fun v vs => by simp [L2.start]
    rw [e1]
    exact ih.cons r
  | _ :: N, _, _, .nil => by
    rw [start_nil]
    exact (startD_rp (N := N) .nil).skip
  | _ :: N, _, _, .cons r t => by
    rw [start_cons]
    exact (startD_rp (N := N) t).cons r
section
variable {P : Program} {w : World} {K : PySem.W.Frag} {mg : Str → Option Value} {base : Heap}
theorem g_of {k : Nat} {f : Addr} {name qual : Str} {params : Arguments} {body : List Stmt} {scope : Scope} {dV kV doc pm cdv ct oc : Value} {an od : Option Addr} {osl : Array (Option Value)} {N ps : List Str} {dsp : DSp}
    (at_ : K.lookup f = some ⟨oc, od, .func (PySem.W.fnOf name qual params body scope dV kV doc pm an cdv ct), osl⟩) (cd : PySem.W.codeIn K cdv qual = true) (S : FnScope N ps scope) (l : ∀ ds M post, dsp ds M post → ds.length = ps.length)
    (hb : ∀ (A : Around) (outer : List PySem.Env) (s : Shared) (H : Hp), (A.deeper (envOfC qual scope s.heap.objs.size f cdv)).guards = some [] → Room k (A.deeper (envOfC qual scope s.heap.objs.size f cdv)) →
      ∃ ws, DSs (bx P w K mg base N qual scope f cdv A outer s H) body ws ∧ ∀ ds M post, dsp ds M post → ws { nx := fun _ M' => post .non M', rt := post } (startD N ds) M) :
    FnG P w K mg base (k + 1) f (PySem.W.fnOf name qual params body scope dV kV doc pm an cdv ct) ps dsp := by
  refine ⟨l, fun A outer s H args us vs Q ag room e0 bind rel sp => ?_⟩
  have ln := sp.len l
  have kin : K.In s.heap := e0.mod.kin.keeps fun b o e => (e0.bs b o e).1
  have kinds : ∀ y ∈ ps.zip us, scope.names.lookup y.1 = some .local ∨ (scope.names.lookup y.1 = some .cell ∧ ((cellsFrom (s.heap.objs.size + 1) scope.names []).lookup y.1).isSome = true) := by
    intro y hy
    have hm : y.1 ∈ ps := (List.of_mem_zip (show (y.1, y.2) ∈ ps.zip us from hy)).1
    exact (S.par y.1 hm).imp id fun q => ⟨q, PySem.W.cellsFrom_some _ _ _ (.inl q)⟩
  obtain ⟨ws, hd, hw⟩ := hb A outer s H ag (room.deeper _)
  obtain ⟨H0, M, ds, post, fr, rp, hq, hp⟩ := sp
  refine codeAny_call_function room.depth (kin _ _ at_) rfl S.co S.gen rfl (PySem.W.codeRec_of kin cd) (bind _ _ _ _ (wpAny_newFunctionEnv_cells S.kind kinds fun env he s1 x => ?_))
  subst he
  have lim : s.heap.NoLimit := e0.mod.nolimit.keeps fun b o e => (e0.bs b o e).1
  have I0 := inv_start (CX := CX0) (E := E0) S room.hd e0 ln rel x
  have run := PSs.run (PSs.nox hd) [] s1 (start N vs) H { nx := fun _ H' => Q .non H', rt := Q } I0 ⟨H0, startD N ds, M, _, fr, startD_rp rp, hw ds M post hq,
    ⟨fun σ Γ H' H0' M' q f' s' e' => hp .non .non H' H0' M' q f' s' .non, fun v d H' H0' M' q f' s' r' => hp v d H' H0' M' q f' s' r', fun _ _ _ _ _ q => q.elim, fun _ _ _ _ _ q => q.elim⟩⟩
  refine ⟨lim.keeps x.toInCall.keep, codeAny_func (wpAny_mono run (fun fl s' hs => ?_) fun e s' hs => hs)⟩
  match fl, hs with
  | .ret u, ⟨v, σ', H', J, rv, q⟩ => exact ⟨v, H', J.os, J.bare, J.base, J.hok, rv, q⟩
  | .next, ⟨σ', H', J, q⟩ => exact ⟨.non, H', J.os, J.bare, J.base, J.hok, rfl, q⟩
  | .brk, ⟨_, _, _, q⟩ => exact q.elim
  | .cont, ⟨_, _, _, q⟩ => exact q.elim
end
/-! ### calls -/
section
variable {X : Cx} {k : Nat} {f C : Addr} {fd : FuncData} {ps : List Str} {dsp : DSp} {x m : Str} {p pos apos : Pos} {e o : Expr} {es : List Expr} {wo : WE} {w : WA}
theorem run_g {pins : List (Addr × Obj)} {σ : L2.St} {H : Hp} {s : Shared} {Q : VK} {us ds : List Value} {vs dvs : List V} (G : FnG X.prog X.w X.K X.mg X.base k f fd ps dsp) (room : Room k X.A) (gd : X.A.guards = some []) (bd : Binds X.K fd ps ds) (dv : Vals dvs ds)
    (I : Inv X pins σ H s) (r : Vals vs us) (h : toSp X.K dsp (vs ++ dvs) H Q) : wpAny (model X.prog X.w) X.A (call (.ref f) us) (EP X pins σ Q) X.xe s := by
  have r' := r.append dv
  have ll : (us ++ ds).length = ps.length := by rw [← r'.length]; exact h.len G.len
  refine wpAny_call (codeAny_mono (G.go X.A X.stack s H ⟨us, []⟩ (us ++ ds) (vs ++ dvs) Q gd room I.env0 (bd s us I.kIn ll) r' h) fun res s' hq => ?_)
  match res, hq with
  | .ok (.ret u), hq => exact I.after hq
  | .ok .next, hq => exact hq.elim
  | .ok .brk, hq => exact hq.elim
  | .ok .cont, hq => exact hq.elim
  | .error e, hq => exact hq.elim
/-- a def of the module, ready to be called -/
structure Pub (P : Program) (w : World) (K : PySem.W.Frag) (mg : Str → Option Value) (base : Heap) (k : Nat) (x : Str) (ps : List Str) (dsp : DSp) : Prop where
  ex : ∃ (f : Addr) (fd : FuncData), mg x = some (.ref f) ∧ PySem.W.keepIn K (.ref f) = true ∧ Binds K fd ps [] ∧ FnG P w K mg base k f fd ps dsp
def wCall (dsp : DSp) (w : WA) : WE := fun Γ M post => w Γ M fun ds M1 => dsp ds M1 post
theorem up_call {σ : L2.St} {H : Hp} {Q : VK} (h : up X.K (wCall dsp w) σ H Q) : upA X.K w σ H fun vs H1 => toSp X.K dsp vs H1 Q :=
  upA_bind (k := fun ds _ M post => dsp ds M post) h fun vs ds H1 H0 Γ M post f e r q p => ⟨H0, M, ds, post, f, r, q, p⟩
theorem de_call (G : Pub X.prog X.w X.K X.mg X.base k x ps dsp) (room : Room k X.A) (gd : X.A.guards = some []) (ha : DA X (e :: es) w) (hg : Gl X x := by rfl) (hdb : (x == ("__debug__" : Str)) = false := by decide)
    (he : starEach (e :: es) X.env = (false, eval e X.env) :: starEach es X.env := by rfl) (hpl : (backTo pos (starEach es X.env)).any (·.1) = false := by rfl) : DE X (.Call (.Name x p) (e :: es) [] pos) (wCall dsp w) := by
  obtain ⟨f, fd, hm, hk, hb, G⟩ := G.ex
  refine ⟨fun pins s σ H Q I h => wpAny_Call_Name_kw (ld_glob I hg hm (PySem.W.callWith_K (h₀ := X.base) I.ok.mod.kin hk (thn (ha.run pos pins s σ H _ I (up_call h)) fun us s1 ⟨vs, H1, I1, r, q⟩ => ⟨I1.kIn, ?_⟩) he hpl) hdb)⟩
  exact run_g (dvs := []) G room gd hb .nil I1 r (by rw [List.append_nil]; exact q)
theorem de_call0 (G : Pub X.prog X.w X.K X.mg X.base k x ps dsp) (room : Room k X.A) (gd : X.A.guards = some []) (hg : Gl X x := by rfl) (hdb : (x == ("__debug__" : Str)) = false := by decide) : DE X (.Call (.Name x p) [] [] pos) (wCall dsp aNil) := by
  obtain ⟨f, fd, hm, hk, hb, G⟩ := G.ex
  refine ⟨fun pins s σ H Q I h => wpAny_Call_Name_kw (ld_glob I hg hm (PySem.W.callWith_K0 I.kIn hk (run_g (us := []) (vs := []) (dvs := []) G room gd hb .nil I .nil ?_)) hdb)⟩
  obtain ⟨H0, Γ, M, post, f, e, hw, p⟩ := h
  exact ⟨H0, M, [], post, f, .nil, hw, p⟩
end
section
variable {P : Program} {w : World} {K : PySem.W.Frag} {mg : Str → Option Value} {base : Heap}
/-- a def of the text, by its body -/
theorem pub_of {k : Nat} {x : Str} {st : Stmt} {N ps : List Str} {dsp : DSp} (h : ∃ fd, FunD K x x (defArgs st) (defBody st) (defScope st) [] [] (He.ga K x) fd) (g : mg x = some (.ref (He.ga K x))) (S : FnScope N ps (defScope st))
    (bd : ∀ (kV doc pm : Value) (an : Option Addr) (cdv ct : Value) (us : List Value), us.length = ps.length → bindArgs (PySem.W.fnOf x x (defArgs st) (defBody st) (defScope st) .none kV doc pm an cdv ct) ⟨us, []⟩ = pure (ps.zip us))
    (l : ∀ ds M post, dsp ds M post → ds.length = ps.length)
    (hb : ∀ (f : Addr) (cdv : Value) (A : Around) (outer : List PySem.Env) (s : Shared) (H : Hp), (A.deeper (envOfC x (defScope st) s.heap.objs.size f cdv)).guards = some [] → Room k (A.deeper (envOfC x (defScope st) s.heap.objs.size f cdv)) →
      ∃ ws, DSs (bx P w K mg base N x (defScope st) f cdv A outer s H) (defBody st) ws ∧ ∀ ds M post, dsp ds M post → ws { nx := fun _ M' => post .non M', rt := post } (startD N ds) M) :
    Pub P w K mg base (k + 1) x ps dsp := by
  obtain ⟨fd, D⟩ := h
  have b := D.bindsN bd
  obtain ⟨oc, od, dV, kV, doc, pm, an, cdv, ct, osl, rfl, lk, hcd, _, _⟩ := D.ex
  exact ⟨_, _, g, D.kp, b, g_of lk hcd S l fun A outer s H => hb _ cdv A outer s H⟩
theorem Pub.mono {j k : Nat} {x : Str} {ps : List Str} {dsp : DSp} (G : Pub P w K mg base j x ps dsp) (h : j ≤ k) : Pub P w K mg base k x ps dsp := by
  obtain ⟨f, fd, a, b, c, G⟩ := G.ex
  exact ⟨f, fd, a, b, c, G.len, fun A outer s H args us vs Q g r => G.go A outer s H args us vs Q g (r.mono h)⟩
end
end FD

set_option maxHeartbeats 1000000
namespace FD
open PySem PySem.Spec PyProof.Rows L2
theorem line_of {n : Nat} (h : n ≤ 16777216) : n ≤ sizeLine := by rw [sizeLine_eq]; exact h
theorem line_to {n : Nat} (h : n ≤ sizeLine) : n ≤ 16777216 := by rw [sizeLine_eq] at h; exact h
theorem got_ite {α : Type} {c : Prop} [Decidable c] {z : α} {k : α → Prop} (h : got (if c then some z else none) k) : c ∧ k z := by
  by_cases hc : c
  · rw [if_pos hc] at h; exact ⟨hc, h⟩
  · rw [if_neg hc] at h; exact h.elim
/-! ### + - * // % ** and comparisons of numbers -/
def addD : D → D → Option D
  | .int i, .int j => some (.int (i + j))
  | .str a, .str b => if a.length + b.length ≤ 16777216 then some (.str (a ++ b)) else none
  | .lst a, .lst b => if a.length + b.length ≤ 16777216 then some (.lst (a ++ b)) else none
  | x, y => match tupOf x, tupOf y with
    | some a, some b => if a.length + b.length ≤ 16777216 then some (if a = [] then y else if b = [] then x else .tup (a ++ b)) else none
    | _, _ => none
def iop (f : Int → Int → Option D) : D → D → Option D
  | .int i, .int j => f i j
  | _, _ => none
def subD : D → D → Option D := iop fun i j => some (.int (i - j))
def mulD : D → D → Option D := iop fun i j => if i.natAbs < 18446744073709551616 ∨ j.natAbs < 18446744073709551616 then some (.int (i * j)) else none
def modD : D → D → Option D := iop fun i j => if 0 < j then some (.int (i % j)) else none
def fdivD : D → D → Option D := iop fun i j => if 0 < j ∧ j < 1073741824 then some (.int (i / j)) else none
def powD : D → D → Option D := iop fun i j => if 0 ≤ j ∧ j ≤ 1000000 ∧ i.natAbs < 18446744073709551616 then some (.int (i ^ j.toNat)) else none
def ltD : D → D → Option D := iop fun i j => some (.bl (decide (i < j)))
def leD : D → D → Option D := iop fun i j => some (.bl (decide (i ≤ j)))
def gtD : D → D → Option D := iop fun i j => some (.bl (decide (j < i)))
def geD : D → D → Option D := iop fun i j => some (.bl (decide (j ≤ i)))
theorem iop_of {f : Int → Int → Option D} {d e : D} {k : D → Prop} (h : got (iop f d e) k) : ∃ i j, d = .int i ∧ e = .int j ∧ got (f i j) k := by
  cases d with
  | int i =>
    cases e with
    | int j => exact ⟨i, j, rfl, rfl, h⟩
    | _ => exact h.elim
  | _ => cases e <;> exact h.elim
section
variable {X : Cx}
theorem mul_small {i j : Int} (h : i.natAbs < 18446744073709551616 ∨ j.natAbs < 18446744073709551616) : CMul i j := by
  rcases h with h | h
  · exact .inl ⟨by omega, by omega⟩
  · exact .inr ⟨by omega, by omega⟩
theorem iopR {op : Value → Value → Sem Value} {f : Int → Int → Option D} {C : Int → Int → Prop} {g : Int → Int → V} (h : OpR X op (rI C g)) (i : ∀ i j z, f i j = some z → C i j ∧ ∀ H, Rp X.K H (g i j) z) : OpR X op (rU2 X.K (p2 (iop f))) :=
  OpR.imp h fun x y H Q q => by
    obtain ⟨H0, M, d, e, post, fr, rx, ry, w, p⟩ := q
    obtain ⟨a, b, rfl, rfl, w⟩ := iop_of w
    obtain ⟨z, e1, w⟩ := got_of w
    cases rx; cases ry
    obtain ⟨c, r⟩ := i a b z e1
    exact ⟨a, b, rfl, rfl, c, p.now fr (r H0) w⟩
theorem iopR0 {op : Value → Value → Sem Value} {f : Int → Int → Option D} {g : Int → Int → V} (h : OpR X op (rI0 g)) (i : ∀ i j z, f i j = some z → ∀ H, Rp X.K H (g i j) z) : OpR X op (rU2 X.K (p2 (iop f))) :=
  OpR.imp h fun x y H Q q => by
    obtain ⟨H0, M, d, e, post, fr, rx, ry, w, p⟩ := q
    obtain ⟨a, b, rfl, rfl, w⟩ := iop_of w
    obtain ⟨z, e1, w⟩ := got_of w
    cases rx; cases ry
    exact ⟨a, b, rfl, rfl, p.now fr (i a b z e1 H0) w⟩
theorem ite_some {α : Type} {c : Prop} [Decidable c] {z y : α} (h : (if c then some z else none) = some y) : c ∧ z = y := by
  by_cases hc : c
  · rw [if_pos hc] at h; exact ⟨hc, Option.some.inj h⟩
  · rw [if_neg hc] at h; cases h
theorem o_sub : OpR X (binaryOp .Sub) (rU2 X.K (p2 subD)) := iopR0 op_sub fun i j z e H => by cases e; exact .int _
theorem o_mul : OpR X (binaryOp .Mult) (rU2 X.K (p2 mulD)) := iopR op_mul fun i j z e => by
  obtain ⟨c, rfl⟩ := ite_some e
  exact ⟨mul_small c, fun _ => .int _⟩
theorem o_mod : OpR X (binaryOp .Mod) (rU2 X.K (p2 modD)) := iopR op_mod fun i j z e => by
  obtain ⟨c, rfl⟩ := ite_some e
  exact ⟨c, fun _ => .int _⟩
theorem o_fdiv : OpR X (binaryOp .FloorDiv) (rU2 X.K (p2 fdivD)) := iopR op_fdiv fun i j z e => by
  obtain ⟨c, rfl⟩ := ite_some e
  exact ⟨c, fun _ => .int _⟩
theorem o_pow : OpR X (binaryOp .Pow) (rU2 X.K (p2 powD)) := iopR op_pow fun i j z e => by
  obtain ⟨c, rfl⟩ := ite_some e
  exact ⟨⟨c.1, c.2.1, by have := c.2.2; omega⟩, fun _ => .int _⟩
theorem o_lt : OpR X (compareOp .Lt) (rU2 X.K (p2 ltD)) := iopR0 op_lt fun i j z e H => by cases e; exact .bl _
theorem o_le : OpR X (compareOp .LtE) (rU2 X.K (p2 leD)) := iopR0 op_le fun i j z e H => by cases e; exact .bl _
theorem o_gt : OpR X (compareOp .Gt) (rU2 X.K (p2 gtD)) := iopR0 op_gt fun i j z e H => by cases e; exact .bl _
theorem o_ge : OpR X (compareOp .GtE) (rU2 X.K (p2 geD)) := iopR0 op_ge fun i j z e H => by cases e; exact .bl _
def negD : D → Option D
  | .int i => some (.int (-i))
  | _ => none
theorem o_neg : UnR X (unaryOp .USub) (rU1 X.K (p1 negD)) := UnR.imp un_neg fun x H Q q => by
  obtain ⟨H0, M, d, post, fr, rx, w, p⟩ := q
  cases d with
  | int i => cases rx; exact ⟨i, rfl, p.now fr (.int _) w⟩
  | _ => exact w.elim
theorem addD_tup {x y : D} {a b : List D} (hx : tupOf x = some a) (hy : tupOf y = some b) : addD x y = if a.length + b.length ≤ 16777216 then some (if a = [] then y else if b = [] then x else .tup (a ++ b)) else none := by
  cases x with
  | tup l => cases hx; cases y <;> cases hy <;> rfl
  | ftp l => cases hx; cases y <;> cases hy <;> rfl
  | ktp l => cases hx; cases y <;> cases hy <;> rfl
  | _ => cases hx
theorem add_cases {x y z : D} (h : addD x y = some z) : (∃ i j, x = .int i ∧ y = .int j) ∨ (∃ a b, x = .str a ∧ y = .str b) ∨ (∃ a b, x = .lst a ∧ y = .lst b) ∨ ∃ a b, tupOf x = some a ∧ tupOf y = some b := by
  unfold addD at h
  split at h
  · exact .inl ⟨_, _, rfl, rfl⟩
  · exact .inr (.inl ⟨_, _, rfl, rfl⟩)
  · exact .inr (.inr (.inl ⟨_, _, rfl, rfl⟩))
  · split at h
    · rename_i a b e1 e2
      exact .inr (.inr (.inr ⟨a, b, e1, e2⟩))
    · cases h
theorem o_add : OpR X (binaryOp .Add) (rU2 X.K (p2 addD)) := OpR.imp (op_add.or (op_add_str.or (op_catA.or op_cat))) fun x y H Q q => by
  obtain ⟨H0, M, d, e, post, fr, rx, ry, w, p⟩ := q
  obtain ⟨z, hz, w⟩ := got_of w
  rcases add_cases hz with ⟨i, j, rfl, rfl⟩ | ⟨a, b, rfl, rfl⟩ | ⟨a, b, rfl, rfl⟩ | ⟨ta, tb, hx, hy⟩
  · cases rx; cases ry; cases hz
    exact .inl ⟨i, j, rfl, rfl, p.now fr (.int _) w⟩
  · cases rx with
    | str _ ha =>
      cases ry with
      | str _ hb =>
        obtain ⟨c, rfl⟩ := ite_some hz
        exact .inr (.inl ⟨a, b, rfl, rfl, line_of c, p.now fr (.str _ (sOk_append ha hb c)) w⟩)
  · cases rx with
    | @lst pa xs _ h ha hza =>
      cases ry with
      | @lst pb ys _ h' hb hzb =>
        obtain ⟨c, rfl⟩ := ite_some hz
        refine .inr (.inr (.inr ⟨pa, pb, xs, ys, rfl, rfl, fr.sub _ _ h, fr.sub _ _ h', by rw [ha.length, hb.length]; exact line_of c, fun q hq => ?_⟩))
        have s0 : F.le H0 (H0.put q (.ice (.lst (xs ++ ys)))) := F.le_put (fr.fresh hq).1
        exact p _ _ _ _ M w (fr.ice hq) s0 (.lst (F.ice_eq F.put_same) ((ha.append hb).mono s0) (by rw [List.length_append]; exact line_of c))
  · rw [addD_tup hx hy] at hz
    obtain ⟨c, rfl⟩ := ite_some hz
    obtain ⟨pa, xs, rfl, h, ha, hza⟩ := rx.tupl hx
    obtain ⟨pb, ys, rfl, h', hb, hzb⟩ := ry.tupl hy
    refine .inr (.inr (.inl ⟨pa, pb, xs, ys, rfl, rfl, seqT_mono fr.sub h, seqT_mono fr.sub h', by rw [ha.length, hb.length]; exact line_of c, fun e => ?_, fun n e => ?_, fun n n' q hq => ?_⟩))
    · subst e; cases ha
      rw [if_pos rfl] at w
      exact p.now fr ry w
    · subst e; cases hb
      have n2 : ta ≠ [] := fun z => by subst z; cases ha; exact n rfl
      rw [if_neg n2, if_pos rfl] at w
      exact p.now fr rx w
    · have n2 : ta ≠ [] := fun z => by subst z; cases ha; exact n rfl
      have n3 : tb ≠ [] := fun z => by subst z; cases hb; exact n' rfl
      rw [if_neg n2, if_neg n3] at w
      have s0 : F.le H0 (H0.put q (.ice (.tup (xs ++ ys)))) := F.le_put (fr.fresh hq).1
      exact p _ _ _ _ M w (fr.ice hq) s0 (.tup (F.ice_eq F.put_same) ((ha.append hb).mono s0) (by rw [List.length_append]; exact line_of c))
/-! ### is None -/
def isNon : D → Bool
  | .non => true
  | _ => false
def isND (d e : D) : Option D := match e with
  | .non => some (.bl (isNon d))
  | _ => none
def notND (d e : D) : Option D := match e with
  | .non => some (.bl (!isNon d))
  | _ => none
theorem isNon_rp {K : PySem.W.Frag} {H : F} {v : V} {d : D} (r : Rp K H v d) : decide (v = .non) = isNon d := by
  cases r <;> simp [isNon]
theorem o_isN : OpR X (compareOp .Is) (rU2 X.K (p2 isND)) := OpR.imp op_isN fun x y H Q q => by
  obtain ⟨H0, M, d, e, post, fr, rx, ry, w, p⟩ := q
  cases ry with
  | non => exact ⟨rfl, by rw [isNon_rp rx]; exact p.now fr (.bl _) w⟩
  | _ => exact w.elim
theorem o_notN : OpR X (compareOp .IsNot) (rU2 X.K (p2 notND)) := OpR.imp op_notN fun x y H Q q => by
  obtain ⟨H0, M, d, e, post, fr, rx, ry, w, p⟩ := q
  cases ry with
  | non => exact ⟨rfl, by rw [isNon_rp rx]; exact p.now fr (.bl _) w⟩
  | _ => exact w.elim
/-! ### == and != of data -/
mutual
def D.dp : D → Nat
  | .non => 0
  | .bl _ => 0
  | .int _ => 0
  | .str _ => 0
  | .tup l => dpAll l + 1
  | .ftp l => dpAll l + 1
  | .ktp l => dpAll l + 1
  | .lst l => dpAll l + 1
  | .scr l => dpAll l + 1
  | .ptr _ => 1000
  | .obj _ _ => 1000
  | .dcK _ => 1000
  | .dcT _ => 1000
def dpAll : List D → Nat
  | [] => 0
  | x :: l => max x.dp (dpAll l)
end
mutual
def D.py : D → PyData
  | .non => .none
  | .bl b => .bool b
  | .int i => .int i
  | .str s => .str s
  | .tup l => .tuple (pyAll l)
  | .ftp l => .tuple (pyAll l)
  | .ktp l => .tuple (pyAll l)
  | .lst l => .list (pyAll l)
  | .scr l => .list (pyAll l)
  | .ptr _ => .none
  | .obj _ _ => .none
  | .dcK _ => .none
  | .dcT _ => .none
def pyAll : List D → List PyData
  | [] => []
  | x :: l => x.py :: pyAll l
end
def rsv (M : Mem) (d : D) : D := match d with
  | .ptr a => match M a with
    | some (.lst l) => .lst l
    | _ => d
  | _ => d
def eqd (d e : D) : Bool := PyData.eqv d.py e.py
mutual
theorem Rp.data {K : PySem.W.Frag} {H : Hp} {H0 : F} (s : Same H0.ice H) : ∀ {v : V} {d : D}, Rp K H0 v d → d.dp ≤ 64 → Dp K H v d.py
  | _, _, .non, _ => .non
  | _, _, .bl b, _ => .bl b
  | _, _, .int i, _ => .int i
  | _, _, .str x _, _ => .str x
  | _, .tup l, .tup h ha _, z => .tup (.of (s _ _ h)) (RpAll.data s ha (by unfold D.dp at z; omega))
  | _, .ftp l, .ftp h _ ha _, z => .tup (.inl (.inr ⟨_, s _ _ h⟩)) (RpAll.data s ha (by unfold D.dp at z; omega))
  | _, .ktp l, .ktp h ha _, z => .tup (seqT_mono s h) (RpAll.data s ha (by unfold D.dp at z; omega))
  | _, .lst l, .lst h ha _, z => .lst (.of (s _ _ h)) (RpAll.data s ha (by unfold D.dp at z; omega))
  | _, .scr l, .scr h ha _, z => .lst (s.seq h) (RpAll.data s ha (by unfold D.dp at z; omega))
  | _, .ptr a, .ptr _, z => by unfold D.dp at z; omega
  | _, .obj _ _, .obj _ _ _, z => by unfold D.dp at z; omega
  | _, .dcK _, .dcK _ _ _, z => by unfold D.dp at z; omega
  | _, .dcT _, .dcT _ _ _, z => by unfold D.dp at z; omega
theorem RpAll.data {K : PySem.W.Frag} {H : Hp} {H0 : F} (s : Same H0.ice H) : ∀ {vs : List V} {ds : List D}, RpAll K H0 vs ds → dpAll ds ≤ 64 → DpAll K H vs (pyAll ds)
  | _, _, .nil, _ => .nil
  | _, d :: ds, .cons h t, z => .cons (Rp.data s h (by unfold dpAll at z; omega)) (RpAll.data s t (by unfold dpAll at z; omega))
end
mutual
theorem Rp.shape {K : PySem.W.Frag} {H0 : F} : ∀ {v : V} {d : D}, Rp K H0 v d → d.dp ≤ 64 → d.py.depth = d.dp ∧ d.py.canLay0 = true
  | _, _, .non, _ => ⟨by simp [D.py, D.dp, PyData.depth], by simp [D.py, PyData.canLay0]⟩
  | _, _, .bl _, _ => ⟨by simp [D.py, D.dp, PyData.depth], by simp [D.py, PyData.canLay0]⟩
  | _, _, .int _, _ => ⟨by simp [D.py, D.dp, PyData.depth], by simp [D.py, PyData.canLay0]⟩
  | _, _, .str _ h, _ => ⟨by simp [D.py, D.dp, PyData.depth], by simp [D.py, PyData.canLay0, sOk_real h]⟩
  | _, .tup l, .tup _ ha _, h => by
    have q := RpAll.shape ha (by unfold D.dp at h; omega)
    exact ⟨by simp [D.py, D.dp, PyData.depth, q.1], by simp [D.py, PyData.canLay0, q.2]⟩
  | _, .ftp l, .ftp _ _ ha _, h => by
    have q := RpAll.shape ha (by unfold D.dp at h; omega)
    exact ⟨by simp [D.py, D.dp, PyData.depth, q.1], by simp [D.py, PyData.canLay0, q.2]⟩
  | _, .ktp l, .ktp _ ha _, h => by
    have q := RpAll.shape ha (by unfold D.dp at h; omega)
    exact ⟨by simp [D.py, D.dp, PyData.depth, q.1], by simp [D.py, PyData.canLay0, q.2]⟩
  | _, .lst l, .lst _ ha _, h => by
    have q := RpAll.shape ha (by unfold D.dp at h; omega)
    exact ⟨by simp [D.py, D.dp, PyData.depth, q.1], by simp [D.py, PyData.canLay0, q.2]⟩
  | _, .scr l, .scr _ ha _, h => by
    have q := RpAll.shape ha (by unfold D.dp at h; omega)
    exact ⟨by simp [D.py, D.dp, PyData.depth, q.1], by simp [D.py, PyData.canLay0, q.2]⟩
  | _, .ptr _, .ptr _, h => by unfold D.dp at h; omega
  | _, .obj _ _, .obj _ _ _, h => by unfold D.dp at h; omega
  | _, .dcK _, .dcK _ _ _, h => by unfold D.dp at h; omega
  | _, .dcT _, .dcT _ _ _, h => by unfold D.dp at h; omega
theorem RpAll.shape {K : PySem.W.Frag} {H0 : F} : ∀ {vs : List V} {l : List D}, RpAll K H0 vs l → dpAll l ≤ 64 → PyData.depthAll (pyAll l) = dpAll l ∧ PyData.canLayAll0 (pyAll l) = true
  | _, _, .nil, _ => ⟨by simp [pyAll, dpAll, PyData.depthAll], by simp [pyAll, PyData.canLayAll0]⟩
  | _, d :: l, .cons r t, h => by
    have q := Rp.shape r (by unfold dpAll at h; omega)
    have q2 := RpAll.shape t (by unfold dpAll at h; omega)
    exact ⟨by simp [pyAll, dpAll, PyData.depthAll, q.1, q2.1], by simp [pyAll, PyData.canLayAll0, q.2, q2.2]⟩
end
theorem shaped_of {d : D} (h : d.dp ≤ 64) (q : d.py.depth = d.dp ∧ d.py.canLay0 = true) : SeqAt.shaped d.py = true := by
  unfold SeqAt.shaped
  rw [q.1, q.2]
  simp [h]
theorem rsv_data {K : PySem.W.Frag} {H : Hp} {H0 : F} {M : Mem} {v : V} {d : D} (f : Fr K H H0 M) (r : Rp K H0 v d) (z : (rsv M d).dp ≤ 64) : Dp K H v (rsv M d).py ∧ SeqAt.shaped (rsv M d).py = true := by
  have other : rsv M d = d → Dp K H v (rsv M d).py ∧ SeqAt.shaped (rsv M d).py = true := fun e => by
    rw [e] at z ⊢
    exact ⟨Rp.data f.sub r z, shaped_of z (Rp.shape r z)⟩
  cases d with
  | ptr a =>
    cases r
    unfold rsv at z ⊢
    simp only at z ⊢
    cases e : M a with
    | none => rw [e] at z; simp only [D.dp] at z; omega
    | some mo =>
      rw [e] at z
      cases mo with
      | lst l =>
        simp only at z ⊢
        obtain ⟨_, o, ho, ro⟩ := f.mem a _ e
        cases ro with
        | lst ha hz =>
          have hl : dpAll l ≤ 64 := by unfold D.dp at z; omega
          have q := RpAll.shape ha hl
          exact ⟨.lst (.of ho) (RpAll.data f.sub ha hl), shaped_of z ⟨by simp [D.py, D.dp, PyData.depth, q.1], by simp [D.py, PyData.canLay0, q.2]⟩⟩
      | _ => simp only [D.dp] at z; omega
  | _ => exact other rfl
def gEq : G2 := fun M d e post => (rsv M d).dp ≤ 64 ∧ (rsv M e).dp ≤ 64 ∧ post (.bl (eqd (rsv M d) (rsv M e))) M
def gNe : G2 := fun M d e post => (rsv M d).dp ≤ 64 ∧ (rsv M e).dp ≤ 64 ∧ post (.bl (!eqd (rsv M d) (rsv M e))) M
theorem o_eq {k : Nat} (hr : Room k X.A) : OpR X (compareOp .Eq) (rU2 X.K gEq) := OpR.imp (op_eqD hr.units) fun x y H Q q => by
  obtain ⟨H0, M, d, e, post, fr, rx, ry, ⟨z1, z2, w⟩, p⟩ := q
  exact ⟨_, _, (rsv_data fr rx z1).1, (rsv_data fr ry z2).1, (rsv_data fr rx z1).2, (rsv_data fr ry z2).2, p.now fr (.bl _) w⟩
theorem o_ne {k : Nat} (hr : Room k X.A) : OpR X (compareOp .NotEq) (rU2 X.K gNe) := OpR.imp (op_neD hr.units) fun x y H Q q => by
  obtain ⟨H0, M, d, e, post, fr, rx, ry, ⟨z1, z2, w⟩, p⟩ := q
  exact ⟨_, _, (rsv_data fr rx z1).1, (rsv_data fr ry z2).1, (rsv_data fr rx z1).2, (rsv_data fr ry z2).2, p.now fr (.bl _) w⟩
end
end FD

namespace FD
open PySem PySem.Spec PyProof.Rows L2
/-- the items of a list or a tuple -/
def seqOf (M : Mem) : D → Option (List D)
  | .lst l => some l
  | .scr l => some l
  | .ptr a => match M a with
    | some (.lst l) => some l
    | _ => none
  | d => tupOf d
theorem seqOf_lt {K : PySem.W.Frag} {H : Hp} {H0 : F} {M : Mem} {v : V} {d : D} {l : List D} (f : Fr K H H0 M) (r : Rp K H0 v d) (e : seqOf M d = some l) :
    ∃ a xs, v = .ref a ∧ ((SqL K H a xs ∧ tupOf d = none) ∨ (SqT K H a xs ∧ tupOf d = some l)) ∧ RpAll K H0 xs l ∧ l.length ≤ sizeLine := by
  have tt : tupOf d = some l → ∃ a xs, v = .ref a ∧ ((SqL K H a xs ∧ tupOf d = none) ∨ (SqT K H a xs ∧ tupOf d = some l)) ∧ RpAll K H0 xs l ∧ l.length ≤ sizeLine := fun e => by
    obtain ⟨a, xs, e1, h, ha, hz⟩ := r.tupl e
    exact ⟨a, xs, e1, .inr ⟨seqT_mono f.sub h, e⟩, ha, hz⟩
  cases d with
  | lst k => cases e; cases r with | lst h ha hz => exact ⟨_, _, rfl, .inl ⟨.of (f.sub _ _ h), rfl⟩, ha, hz⟩
  | scr k => cases e; cases r with | scr h ha hz => exact ⟨_, _, rfl, .inl ⟨f.sub.seq h, rfl⟩, ha, hz⟩
  | ptr a =>
    cases r
    have e : (match M a with
      | some (.lst l) => some l
      | _ => none) = some l := e
    cases q : M a with
    | none => rw [q] at e; cases e
    | some mo =>
      rw [q] at e
      cases mo with
      | lst k =>
        cases e
        obtain ⟨_, o, ho, ro⟩ := f.mem a _ q
        cases ro with
        | lst ha hz => exact ⟨_, _, rfl, .inl ⟨.of ho, rfl⟩, ha, hz⟩
      | _ => cases e
  | tup k => exact tt e
  | ftp k => exact tt e
  | ktp k => exact tt e
  | _ => cases e
theorem seqOf_sq {K : PySem.W.Frag} {H : Hp} {H0 : F} {M : Mem} {v : V} {d : D} {l : List D} (f : Fr K H H0 M) (r : Rp K H0 v d) (e : seqOf M d = some l) :
    ∃ a xs, v = .ref a ∧ (SqL K H a xs ∨ SqT K H a xs) ∧ RpAll K H0 xs l ∧ l.length ≤ sizeLine := by
  obtain ⟨a, xs, h1, h2, h3, h4⟩ := seqOf_lt f r e
  exact ⟨a, xs, h1, h2.imp (·.1) (·.1), h3, h4⟩
section
variable {X : Cx}
/-! ### in -/
def flatD : D → Bool
  | .non => true
  | .bl _ => true
  | .int _ => true
  | .str _ => true
  | _ => false
theorem flat_rp {K : PySem.W.Frag} {H : F} {v : V} {d : D} (r : Rp K H v d) (h : flatD d = true) : flatV v = true := by
  cases r <;> first | rfl | cases h
theorem flat_all {K : PySem.W.Frag} {H : F} : ∀ {vs : List V} {ds : List D}, RpAll K H vs ds → ds.all flatD = true → vs.all flatV = true
  | _, _, .nil, _ => rfl
  | _, _, .cons r t, h => by
    rw [List.all_cons, Bool.and_eq_true] at h
    rw [List.all_cons, flat_rp r h.1, flat_all t h.2] <;> rfl
theorem eqV_rp {K : PySem.W.Frag} {H : F} {v u : V} {d e : D} (r : Rp K H v d) (q : Rp K H u e) (h : flatD d = true) (h' : flatD e = true) : eqV v u = eqd d e := by
  cases r <;> cases h <;> cases q <;> cases h' <;> simp [eqV, eqd, D.py, PyData.eqv]
theorem inV_rp {K : PySem.W.Frag} {H : F} {u : V} {e : D} (q : Rp K H u e) (h' : flatD e = true) : ∀ {vs : List V} {ds : List D}, RpAll K H vs ds → ds.all flatD = true → inV u vs = ds.any fun d => eqd d e
  | _, _, .nil, _ => rfl
  | _, _, .cons r t, h => by
    rw [List.all_cons, Bool.and_eq_true] at h
    have ih := inV_rp q h' t h.2
    unfold inV at ih ⊢
    rw [List.any_cons, List.any_cons, ih, eqV_rp r q h.1 h']
def inL (l : List D) (x : D) : Bool := l.any fun d => eqd d x
/-- one sign -/
def isC (d : D) (k : Nat → Prop) : Prop := match d with
  | .str s => match s.cps.toList with
    | [c] => k c
    | _ => False
  | _ => False
theorem isC_of {d : D} {k : Nat → Prop} (h : isC d k) : ∃ c, d = .str ⟨#[c]⟩ ∧ k c := by
  unfold isC at h
  split at h
  · rename_i s
    split at h
    · rename_i c e
      refine ⟨c, ?_, h⟩
      obtain ⟨a⟩ := s
      have e2 : a = #[c] := by
        apply Array.toList_inj.mp
        exact e
      rw [e2]
    · exact h.elim
  · exact h.elim
def gIn : G2 := fun M x y post => match y with
  | .str z => isC x fun c => post (.bl (decide (c ∈ z.cps.toList))) M
  | _ => got (seqOf M y) fun l => flatD x = true ∧ l.all flatD = true ∧ post (.bl (inL l x)) M
def gNin : G2 := fun M x y post => match y with
  | .str z => isC x fun c => post (.bl (!decide (c ∈ z.cps.toList))) M
  | _ => got (seqOf M y) fun l => flatD x = true ∧ l.all flatD = true ∧ post (.bl (!inL l x)) M
theorem o_in : OpR X (compareOp .In) (rU2 X.K gIn) := OpR.imp (op_in_sign.or op_in_seq) fun x y H Q q => by
  obtain ⟨H0, M, d, e, post, fr, rx, ry, w, p⟩ := q
  by_cases hs : ∃ z, e = .str z
  · obtain ⟨z, rfl⟩ := hs
    obtain ⟨c, rfl, w⟩ := isC_of w
    cases rx; cases ry
    exact .inl ⟨c, z, rfl, rfl, p.now fr (.bl _) w⟩
  · have w : got (seqOf M e) fun l => flatD d = true ∧ l.all flatD = true ∧ post (.bl (inL l d)) M := by
      cases e <;> first | exact w | exact absurd ⟨_, rfl⟩ hs
    obtain ⟨l, hl, h1, h2, w⟩ := got_of w
    obtain ⟨a, xs, rfl, sq, ra, _⟩ := seqOf_sq fr ry hl
    refine .inr ⟨a, xs, rfl, sq, flat_rp rx h1, flat_all ra h2, ?_⟩
    simp only [Bool.false_eq_true, if_false]
    rw [inV_rp rx h1 ra h2]
    exact p.now fr (.bl _) w
theorem o_nin : OpR X (compareOp .NotIn) (rU2 X.K gNin) := OpR.imp (op_notIn_sign.or op_notIn_seq) fun x y H Q q => by
  obtain ⟨H0, M, d, e, post, fr, rx, ry, w, p⟩ := q
  by_cases hs : ∃ z, e = .str z
  · obtain ⟨z, rfl⟩ := hs
    obtain ⟨c, rfl, w⟩ := isC_of w
    cases rx; cases ry
    exact .inl ⟨c, z, rfl, rfl, p.now fr (.bl _) w⟩
  · have w : got (seqOf M e) fun l => flatD d = true ∧ l.all flatD = true ∧ post (.bl (!inL l d)) M := by
      cases e <;> first | exact w | exact absurd ⟨_, rfl⟩ hs
    obtain ⟨l, hl, h1, h2, w⟩ := got_of w
    obtain ⟨a, xs, rfl, sq, ra, _⟩ := seqOf_sq fr ry hl
    refine .inr ⟨a, xs, rfl, sq, flat_rp rx h1, flat_all ra h2, ?_⟩
    simp only [if_true]
    rw [inV_rp rx h1 ra h2]
    exact p.now fr (.bl _) w
/-! ### subscripts -/
def gIx : G2 := fun M x y post => isI y fun i => match x with
  | .str s => got (atI s.cps.toList i) fun c => post (.str ⟨#[c]⟩) M
  | _ => got (seqOf M x) fun l => got (atI l i) fun d => post d M
theorem atI_mem {α : Type} {l : List α} {i : Int} {x : α} (h : atI l i = some x) : x ∈ l := by
  obtain ⟨j, _, h2, _⟩ := atI_get h
  exact List.mem_of_getElem? h2
theorem atI_rp {K : PySem.W.Frag} {H : F} {vs : List V} {ds : List D} {i : Int} {d : D} (r : RpAll K H vs ds) (h : atI ds i = some d) : ∃ v, atI vs i = some v ∧ Rp K H v d := by
  unfold atI at h ⊢
  rw [r.length]
  cases e : ixN ds.length i with
  | none => rw [e] at h; cases h
  | some j =>
    rw [e] at h
    exact r.get h
theorem o_ix : IxR X (rU2 X.K gIx) := IxR.imp ix_seq fun x y H Q q => by
  obtain ⟨H0, M, d, e, post, fr, rx, ry, w, p⟩ := q
  obtain ⟨i, rfl, w⟩ := isI_of w
  cases ry
  by_cases hs : ∃ z, d = .str z
  · obtain ⟨z, rfl⟩ := hs
    obtain ⟨c, hc, w⟩ := got_of w
    cases rx with
    | str _ hz => exact .inr (.inr ⟨z, i, c, rfl, rfl, sOk_len hz, hc, p.now fr (.str _ (sOk_sign hz (atI_mem hc))) w⟩)
  · have w : got (seqOf M d) fun l => got (atI l i) fun d => post d M := by
      cases d <;> first | exact w | exact absurd ⟨_, rfl⟩ hs
    obtain ⟨l, hl, w⟩ := got_of w
    obtain ⟨z, hi, w⟩ := got_of w
    obtain ⟨a, xs, rfl, sq, ra, _⟩ := seqOf_sq fr rx hl
    obtain ⟨v, hv, rv⟩ := atI_rp ra hi
    rcases sq with sq | sq
    · exact .inl ⟨a, xs, i, v, rfl, rfl, sq, hv, p.now fr rv w⟩
    · exact .inr (.inl ⟨a, xs, i, v, rfl, rfl, sq, hv, p.now fr rv w⟩)
/-! ### slices -/
def cutL {α : Type} (l : List α) (lo hi : Option Int) : List α := (l.drop (HT.sIx l.length 0 lo)).take (HT.sIx l.length l.length hi - HT.sIx l.length 0 lo)
theorem cut_rp {K : PySem.W.Frag} {H : F} {vs : List V} {ds : List D} (r : RpAll K H vs ds) (lo hi : Option Int) : RpAll K H (cutV vs lo hi) (cutL ds lo hi) := by
  unfold cutV cutL
  rw [r.length]
  exact (r.drop _).take _
theorem cutL_len {α : Type} (l : List α) (lo hi : Option Int) : (cutL l lo hi).length ≤ l.length := by
  unfold cutL
  rw [List.length_take, List.length_drop]
  omega
theorem sOk_cut {z : Str} (h : sOk z = true) (lo hi : Option Int) : sOk (cutS z lo hi) = true := by
  refine sOk_of (Nat.le_trans (cutS_length z lo hi) (line_to (sOk_len h))) fun c hc => sOk_mem h ?_
  have q : c ∈ ((z.cps.toList.drop (HT.sIx z.length 0 lo)).take (HT.sIx z.length z.length hi - HT.sIx z.length 0 lo)) := by
    have e : (cutS z lo hi).cps.toList = (z.cps.toList.drop (HT.sIx z.length 0 lo)).take (HT.sIx z.length z.length hi - HT.sIx z.length 0 lo) := rfl
    rw [← e]; exact hc
  exact List.mem_of_mem_drop (List.mem_of_mem_take q)
def wholeB {α : Type} (l : List α) (lo hi : Option Int) : Bool := decide (HT.sIx l.length 0 lo = 0 ∧ HT.sIx l.length l.length hi = l.length)
def gSlice : GS := fun M d lo hi post => match d with
  | .str s => post (.str (cutS s lo hi)) M
  | _ => match tupOf d with
    | some l => post (if wholeB l lo hi = true then d else .tup (cutL l lo hi)) M
    | none => got (seqOf M d) fun l => post (.lst (cutL l lo hi)) M
theorem o_slice : SlR X (rUS X.K gSlice) := SlR.imp (sl_str.or (sl_tupA.or sl_list)) fun x lo hi H Q q => by
  obtain ⟨H0, M, d, post, fr, rx, w, p⟩ := q
  by_cases hs : ∃ z, d = .str z
  · obtain ⟨z, rfl⟩ := hs
    cases rx with
    | str _ hz => exact .inl ⟨z, rfl, sOk_len hz, p.now fr (.str _ (sOk_cut hz lo hi)) w⟩
  · have w : (match tupOf d with
        | some l => post (if wholeB l lo hi = true then d else .tup (cutL l lo hi)) M
        | none => got (seqOf M d) fun l => post (.lst (cutL l lo hi)) M) := by
      cases d <;> first | exact w | exact absurd ⟨_, rfl⟩ hs
    cases ht : tupOf d with
    | some l =>
      rw [ht] at w
      have w : post (if wholeB l lo hi = true then d else .tup (cutL l lo hi)) M := w
      obtain ⟨a, xs, rfl, h, ha, hz⟩ := rx.tupl ht
      refine .inr (.inl ⟨a, xs, rfl, seqT_mono fr.sub h, fun e => ?_, fun e q hq => ?_⟩)
      · rw [ha.length] at e
        have e2 : wholeB l lo hi = true := decide_eq_true e
        rw [if_pos e2] at w
        exact p.now fr rx w
      · rw [ha.length] at e
        have e2 : ¬ wholeB l lo hi = true := fun z => e (of_decide_eq_true z)
        rw [if_neg e2] at w
        have s0 : F.le H0 (H0.put q (.ice (.tup (cutV xs lo hi)))) := F.le_put (fr.fresh hq).1
        exact p _ _ _ _ M w (fr.ice hq) s0 (.tup (F.ice_eq F.put_same) ((cut_rp ha lo hi).mono s0) (Nat.le_trans (cutL_len l lo hi) hz))
    | none =>
      rw [ht] at w
      obtain ⟨l, hl, w⟩ := got_of w
      obtain ⟨a, xs, rfl, sq, ha, hz⟩ := seqOf_lt fr rx hl
      have sq : SqL X.K H a xs := sq.elim (·.1) fun t => by rw [ht] at t; cases t.2
      refine .inr (.inr ⟨a, xs, rfl, sq, fun q hq => ?_⟩)
      have s0 : F.le H0 (H0.put q (.ice (.lst (cutV xs lo hi)))) := F.le_put (fr.fresh hq).1
      exact p _ _ _ _ M w (fr.ice hq) s0 (.lst (F.ice_eq F.put_same) ((cut_rp ha lo hi).mono s0) (Nat.le_trans (cutL_len l lo hi) hz))
end
end FD

namespace FD
open PySem PySem.Spec PyProof.Rows L2
section
variable {X : Cx} {a b c e o : Expr} {wa wb wc we wo : WE} {pos apos : Pos} {es : List Expr} {w : WA}
/-! ### builtins -/
def one (ds : List D) (k : D → Prop) : Prop := match ds with
  | [d] => k d
  | _ => False
theorem one_of {ds : List D} {k : D → Prop} (h : one ds k) : ∃ d, ds = [d] ∧ k d := by
  unfold one at h
  split at h
  · exact ⟨_, rfl, h⟩
  · exact h.elim
def lenD (M : Mem) : D → Option Int
  | .str s => some s.length
  | d => (seqOf M d).map fun l => (l.length : Int)
def gLen : GA := fun M ds post => one ds fun d => got (lenD M d) fun n => post (.int n) M
theorem c_len : CallR X (.builtin "len") (rUA X.K gLen) := CallR.imp call_len fun xs H Q q => by
  obtain ⟨H0, M, ds, post, fr, ra, w, p⟩ := q
  obtain ⟨d, rfl, w⟩ := one_of w
  obtain ⟨n, hn, w⟩ := got_of w
  cases ra with
  | @cons v _ _ _ r t =>
    cases t
    by_cases hs : ∃ z, d = .str z
    · obtain ⟨z, rfl⟩ := hs
      cases r with
      | str _ hz => cases hn; exact ⟨_, z.length, rfl, ⟨sOk_len hz, rfl⟩, p.now fr (.int _) w⟩
    · have hn : (seqOf M d).map (fun l => (l.length : Int)) = some n := by
        cases d <;> first | exact hn | exact absurd ⟨_, rfl⟩ hs
      obtain ⟨l, hl, rfl⟩ := Option.map_eq_some_iff.mp hn
      obtain ⟨a, xs, rfl, sq, ra, _⟩ := seqOf_sq fr r hl
      exact ⟨_, l.length, rfl, sq.imp (fun h => ⟨xs, h, ra.length.symm⟩) (fun h => ⟨xs, h, ra.length.symm⟩), p.now fr (.int _) w⟩
def gInt : GA := fun M ds post => one ds fun d => match d with
  | .int i => post (.int i) M
  | .bl b => post (.int (if b then 1 else 0)) M
  | _ => False
theorem c_int : CallR X (.type "int") (rUA X.K gInt) := CallR.imp call_int1 fun xs H Q q => by
  obtain ⟨H0, M, ds, post, fr, ra, w, p⟩ := q
  obtain ⟨d, rfl, w⟩ := one_of w
  cases ra with
  | @cons v _ _ _ r t =>
    cases t
    cases r with
    | int i => exact .inl ⟨i, rfl, p.now fr (.int _) w⟩
    | bl b => exact .inr ⟨b, rfl, p.now fr (.int _) w⟩
    | _ => exact w.elim
def gAbs : GA := fun M ds post => one ds fun d => isI d fun i => post (.int (if i < 0 then -i else i)) M
theorem c_abs : CallR X (.builtin "abs") (rUA X.K gAbs) := CallR.imp call_abs fun xs H Q q => by
  obtain ⟨H0, M, ds, post, fr, ra, w, p⟩ := q
  obtain ⟨d, rfl, w⟩ := one_of w
  obtain ⟨i, rfl, w⟩ := isI_of w
  cases ra with
  | cons r t => cases t; cases r; exact ⟨i, rfl, p.now fr (.int _) w⟩
def gMax : GA := fun M ds post => two ds fun x y => isI x fun i => isI y fun j => post (.int (if j > i then j else i)) M
def gMin : GA := fun M ds post => two ds fun x y => isI x fun i => isI y fun j => post (.int (if j < i then j else i)) M
theorem c_max (hc : X.calm = true) : CallR X (.builtin "max") (rUA X.K gMax) := CallR.imp (call_max2 hc) fun xs H Q q => by
  obtain ⟨H0, M, ds, post, fr, ra, w, p⟩ := q
  obtain ⟨x, y, rfl, w⟩ := two_of w
  obtain ⟨i, rfl, w⟩ := isI_of w
  obtain ⟨j, rfl, w⟩ := isI_of w
  cases ra with
  | cons r t => cases t with | cons r2 t2 => cases t2; cases r; cases r2; exact ⟨i, j, rfl, p.now fr (.int _) w⟩
theorem c_min (hc : X.calm = true) : CallR X (.builtin "min") (rUA X.K gMin) := CallR.imp (call_min2 hc) fun xs H Q q => by
  obtain ⟨H0, M, ds, post, fr, ra, w, p⟩ := q
  obtain ⟨x, y, rfl, w⟩ := two_of w
  obtain ⟨i, rfl, w⟩ := isI_of w
  obtain ⟨j, rfl, w⟩ := isI_of w
  cases ra with
  | cons r t => cases t with | cons r2 t2 => cases t2; cases r; cases r2; exact ⟨i, j, rfl, p.now fr (.int _) w⟩
def gDivmod : GA := fun M ds post => two ds fun x y => isI x fun i => isI y fun j => (0 < j ∧ j < 1073741824) ∧ post (.tup [.int (i / j), .int (i % j)]) M
theorem c_divmod : CallR X (.builtin "divmod") (rUA X.K gDivmod) := CallR.imp call_divmod fun xs H Q q => by
  obtain ⟨H0, M, ds, post, fr, ra, w, p⟩ := q
  obtain ⟨x, y, rfl, w⟩ := two_of w
  obtain ⟨i, rfl, w⟩ := isI_of w
  obtain ⟨j, rfl, cd, w⟩ := isI_of w
  cases ra with
  | cons r t =>
    cases t with
    | cons r2 t2 =>
      cases t2; cases r; cases r2
      refine ⟨i, j, rfl, cd, fun q hq => ?_⟩
      have s0 : F.le H0 (H0.put q (.ice (.tup [.int (i / j), .int (i % j)]))) := F.le_put (fr.fresh hq).1
      exact p _ _ _ _ M w (fr.ice hq) s0 (.tup (F.ice_eq F.put_same) (.cons (.int _) (.cons (.int _) .nil)) (by show 2 ≤ sizeLine; decide))
/-- all(l), any(l), l a list of bools -/
def bools : List D → Option (List Bool)
  | [] => some []
  | .bl b :: l => (bools l).map (b :: ·)
  | _ :: _ => none
theorem bools_rp {K : PySem.W.Frag} {H : F} : ∀ {vs : List V} {ds : List D} {bs : List Bool}, RpAll K H vs ds → bools ds = some bs → vs = bs.map V.bl
  | _, _, _, .nil, e => by cases e; rfl
  | _, _, bs, .cons (d := d) r t, e => by
    cases d with
    | bl b =>
      cases r
      obtain ⟨bs', h1, h2⟩ := Option.map_eq_some_iff.mp (show (bools _).map (b :: ·) = some bs from e)
      subst h2
      rw [bools_rp t h1]
      rfl
    | _ => cases e
theorem bools_map : ∀ bs : List Bool, bools (bs.map D.bl) = some bs
  | [] => rfl
  | b :: l => by show (bools (l.map D.bl)).map (b :: ·) = _; rw [bools_map l]; rfl
def lstOf (M : Mem) (d : D) : Option (List D) := match tupOf d with
  | some _ => none
  | none => seqOf M d
theorem lstOf_sq {K : PySem.W.Frag} {H : Hp} {H0 : F} {M : Mem} {v : V} {d : D} {l : List D} (f : Fr K H H0 M) (r : Rp K H0 v d) (e : lstOf M d = some l) : ∃ a xs, v = .ref a ∧ SqL K H a xs ∧ RpAll K H0 xs l ∧ l.length ≤ sizeLine := by
  unfold lstOf at e
  cases ht : tupOf d with
  | some t => rw [ht] at e; cases e
  | none =>
    rw [ht] at e
    obtain ⟨a, xs, h1, h2, h3, h4⟩ := seqOf_lt f r e
    exact ⟨a, xs, h1, h2.elim (fun t => t.1) (fun t => by rw [ht] at t; cases t.2), h3, h4⟩
def gAll : GA := fun M ds post => one ds fun d => got (lstOf M d) fun l => got (bools l) fun bs => post (.bl (bs.all id)) M
def gAny : GA := fun M ds post => one ds fun d => got (lstOf M d) fun l => got (bools l) fun bs => post (.bl (bs.any id)) M
theorem c_all (hc : X.calm = true) : CallR X (.builtin "all") (rUA X.K gAll) := CallR.imp (cr_all hc) fun xs H Q q => by
  obtain ⟨H0, M, ds, post, fr, ra, w, p⟩ := q
  obtain ⟨d, rfl, w⟩ := one_of w
  obtain ⟨l, hl, w⟩ := got_of w
  obtain ⟨bs, hb, w⟩ := got_of w
  cases ra with
  | cons r t =>
    cases t
    obtain ⟨a, xs, rfl, sq, ra, _⟩ := lstOf_sq fr r hl
    exact ⟨a, bs, rfl, by rw [← bools_rp ra hb]; exact sq, p.now fr (.bl _) w⟩
theorem c_any (hc : X.calm = true) : CallR X (.builtin "any") (rUA X.K gAny) := CallR.imp (cr_any hc) fun xs H Q q => by
  obtain ⟨H0, M, ds, post, fr, ra, w, p⟩ := q
  obtain ⟨d, rfl, w⟩ := one_of w
  obtain ⟨l, hl, w⟩ := got_of w
  obtain ⟨bs, hb, w⟩ := got_of w
  cases ra with
  | cons r t =>
    cases t
    obtain ⟨a, xs, rfl, sq, ra, _⟩ := lstOf_sq fr r hl
    exact ⟨a, bs, rfl, by rw [← bools_rp ra hb]; exact sq, p.now fr (.bl _) w⟩
/-- tuple(l): a firm one -/
theorem tuple_firm : CallR X (.type "tuple") (fun xs H Q => ∃ p ys, xs = [.ref p] ∧ SqL X.K H p ys ∧ ∀ l ob, H l = none → ob.dict = none → Q (.ref l) (upd H l (.frz ob (.tup ys)))) := by
  intro pins s σ H xs us Q I r h
  obtain ⟨p, ys, rfl, hq, q⟩ := h
  obtain ⟨u, rfl, rx⟩ := vals1 r
  cases rx
  obtain ⟨its, r', pl, hz⟩ := I.list hq
  have hl := r'.length
  refine call_tuple_list pl.isList (fun h' kp => ?_) (by rw [List.size_toArray, ← hl]; exact hz)
  have J := I.kept (h' := h') (t' := s.toks) kp
  have fresh : H h'.objs.size = none := J.hok.fresh (Nat.le_refl _)
  have J2 : Inv X pins σ (upd H h'.objs.size (.frz { cls := .type "tuple", data := .seq its.toArray } (.tup ys))) { s with heap := h'.push { cls := .type "tuple", data := .seq its.toArray } } :=
    J.laid (t' := s.toks) (fun b o e => Heap.get?_push_of_some _ e) (Nat.le_refl _) (show ObjOk X.prog X.w _ _ _ (.frz _ (.tup ys)) from ⟨Heap.get?_push_size _ rfl, hz, its, r', IsTup.new _ _⟩)
  exact ⟨.ref h'.objs.size, _, J2, rfl, q _ _ fresh rfl⟩
def gTuple : GA := fun M ds post => one ds fun d => match tupOf d with
  | some _ => post d M
  | none => got (seqOf M d) fun l => post (.ftp l) M
theorem c_tuple : CallR X (.type "tuple") (rUA X.K gTuple) := CallR.imp (tuple_firm.or call_tupleT) fun xs H Q q => by
  obtain ⟨H0, M, ds, post, fr, ra, w, p⟩ := q
  obtain ⟨d, rfl, w⟩ := one_of w
  have w : (match tupOf d with
    | some _ => post d M
    | none => got (seqOf M d) fun l => post (.ftp l) M) := w
  cases ra with
  | cons r t =>
    cases t
    cases ht : tupOf d with
    | some l =>
      rw [ht] at w
      obtain ⟨a, xs, rfl, h, ha, hz⟩ := r.tupl ht
      exact .inr ⟨a, xs, rfl, seqT_mono fr.sub h, p.now fr r w⟩
    | none =>
      rw [ht] at w
      obtain ⟨l, hl, w⟩ := got_of w
      obtain ⟨a, xs, rfl, sq, ra, hz⟩ := seqOf_lt fr r hl
      have sq : SqL X.K H a xs := sq.elim (·.1) fun t => by rw [ht] at t; cases t.2
      refine .inl ⟨a, xs, rfl, sq, fun q ob hq hd => ?_⟩
      have s0 : F.le H0 (H0.put q (.ice (.frz ob (.tup xs)))) := F.le_put (fr.fresh hq).1
      exact p _ _ _ _ M w (fr.ice hq) s0 (.ftp (F.ice_eq F.put_same) hd (ra.mono s0) hz)
/-- list(x) -/
def gList : GA := fun M ds post => one ds fun d => got (seqOf M d) fun l => post (.lst l) M
theorem c_list : CallR X (.type "list") (rUA X.K gList) := CallR.imp call_list_of fun xs H Q q => by
  obtain ⟨H0, M, ds, post, fr, ra, w, p⟩ := q
  obtain ⟨d, rfl, w⟩ := one_of w
  obtain ⟨l, hl, w⟩ := got_of w
  cases ra with
  | cons r t =>
    cases t
    obtain ⟨a, xs, rfl, sq, ra, hz⟩ := seqOf_sq fr r hl
    refine ⟨a, xs, rfl, sq, fun q hq => ?_⟩
    have s0 : F.le H0 (H0.put q (.ice (.lst xs))) := F.le_put (fr.fresh hq).1
    exact p _ _ _ _ M w (fr.ice hq) s0 (.lst (F.ice_eq F.put_same) (ra.mono s0) hz)
/-! ### isinstance with a builtin type -/
def tyN (M : Mem) : D → Option String
  | .non => some "NoneType"
  | .bl _ => some "bool"
  | .int _ => some "int"
  | .str _ => some "str"
  | .tup _ => some "tuple"
  | .ftp _ => some "tuple"
  | .ktp _ => none
  | .lst _ => some "list"
  | .scr _ => none
  | .ptr a => match M a with
    | some (.lst _) => some "list"
    | some (.dK _) => some "dict"
    | some (.dT _) => some "dict"
    | _ => none
  | .obj _ _ => none
  | .dcK _ => some "dict"
  | .dcT _ => some "dict"
theorem tyN_ty {K : PySem.W.Frag} {H : Hp} {H0 : F} {M : Mem} {v : V} {d : D} {t : String} (f : Fr K H H0 M) (r : Rp K H0 v d) (e : tyN M d = some t) : TyX K H v (.type t) := by
  cases r with
  | non => cases e; exact .base .non
  | bl b => cases e; exact .base (.bl b)
  | int i => cases e; exact .base (.int i)
  | str s h => cases e; exact .base (.str s)
  | tup h ha hz => cases e; exact .base (.tup (f.sub _ _ h))
  | ftp h hd ha hz => cases e; exact .fTuple (f.sub _ _ h)
  | ktp h ha hz => cases e
  | lst h ha hz => cases e; exact .base (.lst (f.sub _ _ h))
  | scr h ha hz => cases e
  | obj h hk ha => cases e
  | dcK h hk ha => cases e; exact .base (.dK (f.sub _ _ h))
  | dcT h hk ha => cases e; exact .base (.dT (f.sub _ _ h))
  | ptr a =>
    have e : (match M a with
      | some (.lst _) => some "list"
      | some (.dK _) => some "dict"
      | some (.dT _) => some "dict"
      | _ => none) = some t := e
    cases q : M a with
    | none => rw [q] at e; cases e
    | some mo =>
      rw [q] at e
      obtain ⟨_, ob, ho, ro⟩ := f.mem a _ q
      cases ro with
      | lst _ _ => cases e; exact .base (.lst ho)
      | dK _ => cases e; exact .base (.dK ho)
      | dT _ => cases e; exact .base (.dT ho)
      | ins _ => cases e
def isiT (T t : String) : Bool := (t == T) || (t == "bool" && T == "int")
def wIsi (T : String) (w : WE) : WE := fun Γ M post => w Γ M fun d M1 => got (tyN M1 d) fun t => post (.bl (isiT T t)) M1
/-- the types that may be asked for -/
def askT (T : String) : Bool := ["NoneType", "bool", "int", "str", "tuple", "list", "dict"].all fun t => kitB t T == some (isiT T t)
theorem tyN_mem {M : Mem} {d : D} {t : String} (e : tyN M d = some t) : t ∈ ["NoneType", "bool", "int", "str", "tuple", "list", "dict"] := by
  cases d with
  | ptr a =>
    have e : (match M a with
      | some (.lst _) => some "list"
      | some (.dK _) => some "dict"
      | some (.dT _) => some "dict"
      | _ => none) = some t := e
    split at e <;> first | (cases e; decide) | cases e
  | _ => first | (cases e; decide) | cases e
theorem de_isi {T : String} {x : Str} {p p2 : Pos} (he : DE X e we) (hm : X.mg "isinstance" = none) (hmT : X.mg x = none) (hT : bootBuiltins x = some (.type T)) (hk : askT T = true := by decide +kernel) (hg : Gl X "isinstance" := by rfl) (hgT : Gl X x := by rfl) (hn : x ≠ "__name__" := by decide)
    (hdb : (x == ("__debug__" : Str)) = false := by decide) (hs : starEach [e, .Name x p2] X.env = (false, eval e X.env) :: starEach [.Name x p2] X.env := by rfl) (hpl : (backTo pos (starEach [.Name x p2] X.env)).any (·.1) = false := by rfl)
    (hs2 : starEach [.Name x p2] X.env = (false, eval (.Name x p2) X.env) :: starEach [] X.env := by rfl) :
    DE X (.Call (.Name "isinstance" p) [e, .Name x p2] [] pos) (wIsi T we) :=
  PE.weak (pe_callB call_isi hg hm (by decide +kernel) (pa_cons he (pa_cons (pe_bltn (v := .ty T) hgT hmT hT rfl hn hdb) pa_nil hs2) hs) (by decide) (by decide) hs hpl) fun σ H Q h =>
    up_bind (k := fun d Γ M post => got (tyN M d) fun t => post (.bl (isiT T t)) M) h fun v d H1 H0 Γ M post f e r q p => by
      obtain ⟨t, ht, q⟩ := got_of q
      have hk2 : kitB t T = some (isiT T t) := by
        have := List.all_eq_true.mp hk t (tyN_mem ht)
        exact eq_of_beq this
      exact ⟨v, .ty T, .type t, .type T, isiT T t, rfl, .ty T, tyN_ty f r ht, kit_ty hk2, p.now f (.bl _) q⟩
end
end FD

namespace FD
open PySem PySem.Spec PyProof.Rows L2
section
variable {X : Cx} {a b c e o : Expr} {wa wb wc we wo : WE} {pos apos cpos : Pos} {es : List Expr} {w : WA}
/-! ### methods of lists and texts -/
def wM (ok : Mem → D → Prop) (g : GM) (wo : WE) (w : WA) : WE := fun Γ M post => wo Γ M fun d M1 => ok M1 d ∧ w Γ M1 fun ds M2 => g M2 d ds post
def okL (M : Mem) (d : D) : Prop := ∃ l, lstOf M d = some l
def okS (_ : Mem) (d : D) : Prop := ∃ s, d = .str s
theorem okL_ty {K : PySem.W.Frag} {H : Hp} {H0 : F} {M : Mem} {v : V} {d : D} (f : Fr K H H0 M) (r : Rp K H0 v d) (h : okL M d) : tyV K "list" v H := by
  obtain ⟨l, h⟩ := h
  obtain ⟨a, xs, rfl, sq, _, _⟩ := lstOf_sq f r h
  exact .inl ⟨rfl, xs, sq⟩
theorem okS_ty {K : PySem.W.Frag} {H : Hp} {H0 : F} {M : Mem} {v : V} {d : D} (f : Fr K H H0 M) (r : Rp K H0 v d) (h : okS M d) : tyV K "str" v H := by
  obtain ⟨s, rfl⟩ := h
  cases r; exact rfl
theorem up_m {T : String} {ok : Mem → D → Prop} {g : GM} (hok : ∀ {H : Hp} {H0 : F} {M : Mem} {v : V} {d : D}, Fr X.K H H0 M → Rp X.K H0 v d → ok M d → tyV X.K T v H) {σ : L2.St} {H : Hp} {Q : VK} (h : up X.K (wM ok g wo w) σ H Q) : tBM X.K T (rUM X.K g) (up X.K wo) (upA X.K w) σ H Q :=
  up_bind (k := fun d Γ M post => ok M d ∧ w Γ M fun ds M2 => g M2 d ds post) h fun v d H1 H0 Γ M post f e r q p =>
    ⟨hok f r q.1, H0, Γ, M, _, f, e, q.2, fun vs ds H2 H02 M2 q2 f2 s2 r2 => ⟨H02, M2, d, ds, post, f2, r.mono s2, r2, q2, p.mono s2⟩⟩
theorem de_ml {name : Str} {id : String} {g : GM} (slot : Slot "list" name id) (hty : typeOf (.builtin id) = pure (.type "method_descriptor")) (hm : MtR X id (rUM X.K g)) (ho : DE X o wo) (ha : DA X (e :: es) w)
    (hbase : attributeBase o name X.env (eval o X.env) = eval o X.env := by rfl)
    (hfew : ((backTo cpos (starEach (e :: es) X.env)).all (fun x => !x.1) && (backToKw cpos (keywordEach [] X.env)).all (fun x => x.1.isSome)
      && decide ((e :: es).length + ([] : List Keyword).length + (if ([] : List Keyword).isEmpty then 0 else 1) < 30)) = true := by rfl)
    (hline : (apos.endLine == cpos.line) = true := by rfl) (hs : starEach (e :: es) X.env = (false, eval e X.env) :: starEach es X.env := by rfl) (hplain : (backTo cpos (starEach es X.env)).any (·.1) = false := by rfl) :
    DE X (.Call (.Attribute o name apos) (e :: es) [] cpos) (wM okL g wo w) :=
  PE.weak (pe_bm PySem.F.plainAttrs_list slot hty hm ho ha hbase hfew hline hs hplain) fun _ _ _ h => up_m okL_ty h
theorem de_ms {name : Str} {id : String} {g : GM} (slot : Slot "str" name id) (hty : typeOf (.builtin id) = pure (.type "method_descriptor")) (hm : MtR X id (rUM X.K g)) (ho : DE X o wo) (ha : DA X (e :: es) w)
    (hbase : attributeBase o name X.env (eval o X.env) = eval o X.env := by rfl)
    (hfew : ((backTo cpos (starEach (e :: es) X.env)).all (fun x => !x.1) && (backToKw cpos (keywordEach [] X.env)).all (fun x => x.1.isSome)
      && decide ((e :: es).length + ([] : List Keyword).length + (if ([] : List Keyword).isEmpty then 0 else 1) < 30)) = true := by rfl)
    (hline : (apos.endLine == cpos.line) = true := by rfl) (hs : starEach (e :: es) X.env = (false, eval e X.env) :: starEach es X.env := by rfl) (hplain : (backTo cpos (starEach es X.env)).any (·.1) = false := by rfl) :
    DE X (.Call (.Attribute o name apos) (e :: es) [] cpos) (wM okS g wo w) :=
  PE.weak (pe_bm PySem.F.plainAttrs_str slot hty hm ho ha hbase hfew hline hs hplain) fun _ _ _ h => up_m okS_ty h
/-- a list of the store -/
def cell (M : Mem) (d : D) (k : Addr → List D → Prop) : Prop := match d with
  | .ptr a => match M a with
    | some (.lst l) => k a l
    | _ => False
  | _ => False
theorem cell_of {M : Mem} {d : D} {k : Addr → List D → Prop} (h : cell M d k) : ∃ a l, d = .ptr a ∧ M a = some (.lst l) ∧ k a l := by
  cases d with
  | ptr a =>
    have h : (match M a with
      | some (.lst l) => k a l
      | _ => False) := h
    cases q : M a with
    | none => rw [q] at h; exact h.elim
    | some mo =>
      rw [q] at h
      cases mo with
      | lst l => exact ⟨a, l, rfl, q, h⟩
      | _ => exact h.elim
  | _ => exact h.elim
def gAppend : GM := fun M d ds post => one ds fun y => cell M d fun a l => l.length < 16777216 ∧ post .non (M.upd a (.lst (l ++ [y])))
theorem m_append : MtR X "list.append" (rUM X.K gAppend) := MtR.imp mt_append fun x xs H Q q => by
  obtain ⟨H0, M, d, ds, post, fr, rx, ra, w, p⟩ := q
  obtain ⟨y, rfl, w⟩ := one_of w
  obtain ⟨a, l, rfl, hm, hl, w⟩ := cell_of w
  obtain ⟨_, ob, ho, ro⟩ := fr.mem a _ hm
  cases rx
  cases ra with
  | @cons v _ _ _ rv t =>
    cases t
    cases ro with
    | @lst ys _ h hz =>
      refine ⟨a, ys, v, rfl, rfl, ho, by rw [h.length, sizeLine_eq]; exact hl, ?_⟩
      exact p _ _ _ H0 _ w (fr.put hm (.lst (h.append (.cons rv .nil)) (by rw [List.length_append]; exact line_of (by simp; omega)))) (F.le.refl _) .non
def gPop : GM := fun M d ds post => one ds fun y => isI y fun i => cell M d fun a l => got (ixN l.length i) fun k => got (l[k]?) fun z => post z (M.upd a (.lst (l.eraseIdx k)))
theorem m_pop : MtR X "list.pop" (rUM X.K gPop) := MtR.imp mt_popAt fun x xs H Q q => by
  obtain ⟨H0, M, d, ds, post, fr, rx, ra, w, p⟩ := q
  obtain ⟨y, rfl, w⟩ := one_of w
  obtain ⟨i, rfl, w⟩ := isI_of w
  obtain ⟨a, l, rfl, hm, w⟩ := cell_of w
  obtain ⟨k, hk, w⟩ := got_of w
  obtain ⟨z, hz, w⟩ := got_of w
  obtain ⟨_, ob, ho, ro⟩ := fr.mem a _ hm
  cases rx
  cases ra with
  | cons rv t =>
    cases t; cases rv
    cases ro with
    | @lst ys _ h hl =>
      obtain ⟨v, hv, r⟩ := h.get hz
      obtain ⟨q1, q2, q3, q4⟩ := ixN_seq hk
      have := line_to hl
      refine ⟨a, ys, i, k, v, rfl, rfl, ho, by omega, by omega, by rw [h.length]; exact q1, hv, ?_⟩
      exact p _ _ _ H0 _ w (fr.put hm (.lst (h.erase k) (Nat.le_trans (len_erase l k) hl))) (F.le.refl _) r
/-- the texts that a list is made of -/
def txs : List D → Option (List Str)
  | [] => some []
  | .str s :: l => (txs l).map (s :: ·)
  | _ :: _ => none
theorem txs_map : ∀ ss : List Str, txs (ss.map D.str) = some ss
  | [] => rfl
  | s :: l => by show (txs (l.map D.str)).map (s :: ·) = _; rw [txs_map l]; rfl
theorem txs_rp {K : PySem.W.Frag} {H : F} : ∀ {vs : List V} {ds : List D} {ss : List Str}, RpAll K H vs ds → txs ds = some ss → vs = ss.map V.str ∧ ∀ s ∈ ss, sOk s = true
  | _, _, _, .nil, e => by cases e; exact ⟨rfl, fun s h => by cases h⟩
  | _, _, ss, .cons (d := d) r t, e => by
    cases d with
    | str s =>
      cases r with
      | str _ h =>
        obtain ⟨ss', h1, h2⟩ := Option.map_eq_some_iff.mp (show (txs _).map (s :: ·) = some ss from e)
        subst h2
        obtain ⟨q1, q2⟩ := txs_rp t h1
        rw [q1]
        exact ⟨rfl, fun z hz => by
          rcases List.mem_cons.mp hz with rfl | hz
          · exact h
          · exact q2 z hz⟩
    | _ => cases e
/-- t.index(x) of a list of texts; where t is a tuple: a firm one -/
def gIndex : GM := fun M d ds post => one ds fun y => isS y fun z => got (lstOf M d) fun l => got (txs l) fun ss => got (ss.findIdx? (· == z)) fun j => post (.int (j : Nat)) M
theorem m_index : MtR X "list.index" (rUM X.K gIndex) := MtR.imp mt_index fun x xs H Q q => by
  obtain ⟨H0, M, d, ds, post, fr, rx, ra, w, p⟩ := q
  obtain ⟨y, rfl, w⟩ := one_of w
  obtain ⟨z, rfl, w⟩ := isS_of w
  obtain ⟨l, hl, w⟩ := got_of w
  obtain ⟨ss, hs, w⟩ := got_of w
  obtain ⟨j, hj, w⟩ := got_of w
  obtain ⟨a, ys, rfl, sq, h, hz⟩ := lstOf_sq fr rx hl
  obtain ⟨rfl, _⟩ := txs_rp h hs
  cases ra with
  | cons rv t =>
    cases t; cases rv
    obtain ⟨hlt, h1, h2⟩ := List.findIdx?_eq_some_iff_getElem.mp hj
    refine ⟨a, ss.map V.str, .str z, j, .str ss[j], rfl, rfl, sq, rfl, flat_strs ss, by simp [hlt], h1, fun m z' hm e => ?_, p.now fr (.int _) w⟩
    have hm2 : m < ss.length := by omega
    rw [List.getElem?_map, List.getElem?_eq_getElem hm2] at e
    cases e
    have := h2 m hm
    show (ss[m] == z) = false
    simpa using this
def gIndexT : GM := fun M d ds post => one ds fun y => isS y fun z => match d with
  | .ftp l => got (txs l) fun ss => got (ss.findIdx? (· == z)) fun j => post (.int (j : Nat)) M
  | _ => False
def wIxT (wo : WE) (w : WA) : WE := fun Γ M post => wo Γ M fun d M1 => (∃ l, d = .ftp l) ∧ w Γ M1 fun ds M2 => gIndexT M2 d ds post
theorem de_ixT (ho : DE X o wo) (ha : DA X [e] w)
    (hbase : attributeBase o "index" X.env (eval o X.env) = eval o X.env := by rfl)
    (hfew : ((backTo cpos (starEach [e] X.env)).all (fun x => !x.1) && (backToKw cpos (keywordEach [] X.env)).all (fun x => x.1.isSome)
      && decide ([e].length + ([] : List Keyword).length + (if ([] : List Keyword).isEmpty then 0 else 1) < 30)) = true := by rfl)
    (hline : (apos.endLine == cpos.line) = true := by rfl) (hs : starEach [e] X.env = (false, eval e X.env) :: starEach [] X.env := by rfl) :
    DE X (.Call (.Attribute o "index" apos) [e] [] cpos) (wIxT wo w) := by
  refine ⟨fun pins s σ H Q I h => wpAny_Call_method_late hbase hfew hline rfl (thn (ho.run pins s σ H _ I (up_bind (X := X) (R := fun v H1 => ∃ (H0 : F) (M : Mem) (l : List D) (Γ : Env) (post : WK), Fr X.K H1 H0 M ∧ RpE X.K H0 σ Γ ∧ Rp X.K H0 v (.ftp l) ∧ (w Γ M fun ds M2 => gIndexT M2 (.ftp l) ds post) ∧ PostV X.K H0 post Q)
    (k := fun d Γ M post => (∃ l, d = .ftp l) ∧ w Γ M fun ds M2 => gIndexT M2 d ds post) h ?_)) fun v s1 ⟨x, H1, I1, r1, H0, M, l, Γ, post, f, en, r, q, p⟩ => ?_)⟩
  · rintro v d H1 H0 Γ M post f e r ⟨⟨l, rfl⟩, q⟩ p
    exact ⟨H0, M, l, Γ, post, f, e, r, q, p⟩
  · cases r with
    | @ftp pa ob xs _ hp hd hx hz =>
      cases r1
      have hfz := f.sub _ _ hp
      obtain ⟨hget, hlen, its, rv, ot⟩ := I1.hok pa _ hfz
      have typ : s1.TypeIs (.ref pa) "tuple" := by
        obtain ⟨o2, e2, c2, _⟩ := ot
        exact ⟨o2, e2, c2⟩
      refine ⟨"tuple", _, PySem.F.plainAttrs_tuple, PySem.F.slot_tuple_index, PySem.F.type_tuple_index, typ, fun a ea => ?_, ?_⟩
      · cases ea; exact ⟨ob, hget, hd⟩
      · have hA := ha.run cpos pins s1 σ H1 (fun vs H2 => ∃ (z : Str) (ss : List Str) (j : Nat), vs = [.str z] ∧ SqT X.K H2 pa (ss.map V.str) ∧ ss[j]? = some z ∧ (∀ m, m < j → ss[m]? ≠ some z) ∧ Q (.int (j : Nat)) H2) I1 ⟨H0, Γ, M, _, f, en, q, fun vs ds H2 H02 M2 q2 f2 s2 r2 => ?_⟩
        · rw [hs] at hA ⊢
          refine Calls.callWith_builtin rfl (Calls.evalArgs_plain (thn hA fun us s2 ⟨vs, H2, I2, r2, z, ss, j, e1, sq, h1, h2, q2⟩ => ?_))
          exact mt_tup_index pins s2 σ H2 (.ref pa) vs (.ref pa) us Q I2 rfl r2 ⟨pa, ss, z, j, rfl, e1, sq, h1, h2, q2⟩
        · obtain ⟨y, rfl, q2⟩ := one_of q2
          obtain ⟨z, rfl, q2⟩ := isS_of q2
          obtain ⟨ss, hss, q2⟩ := got_of q2
          obtain ⟨j, hj, q2⟩ := got_of q2
          obtain ⟨rfl, _⟩ := txs_rp hx hss
          cases r2 with
          | cons rv t =>
            cases t; cases rv
            obtain ⟨hlt, h1, h2⟩ := List.findIdx?_eq_some_iff_getElem.mp hj
            refine ⟨z, ss, j, rfl, .inl (.inr ⟨ob, f2.sub _ _ (s2.ice _ _ hp)⟩), ?_, fun m hm e => ?_, (p.mono s2).now f2 (.int _) q2⟩
            · rw [List.getElem?_eq_getElem hlt]; exact congrArg some (eq_of_beq h1)
            · have hm2 : m < ss.length := by omega
              rw [List.getElem?_eq_getElem hm2] at e
              have := h2 m hm
              simp only [Option.some.injEq] at e
              simp [e] at this
/-- sep.join(l) -/
def gJoin : GM := fun M d ds post => one ds fun y => isS d fun sep => got (seqOf M y) fun l => got (txs l) fun ss => (ss.map (·.length)).sum + ss.length * sep.length ≤ 16777216 ∧ post (.str (Str.join sep ss)) M
end
end FD

namespace FD
open PySem PySem.Spec PyProof.Rows L2
/-! ### own objects -/
def insOf (M : Mem) (C : Addr) (d : D) (k : Addr → List (Str × D) → Prop) : Prop := match d with
  | .ptr a => match M a with
    | some (.ins C' fs) => C' = C ∧ k a fs
    | _ => False
  | _ => False
theorem insOf_of {M : Mem} {C : Addr} {d : D} {k : Addr → List (Str × D) → Prop} (h : insOf M C d k) : ∃ a fs, d = .ptr a ∧ M a = some (.ins C fs) ∧ k a fs := by
  cases d with
  | ptr a =>
    have h : (match M a with
      | some (.ins C' fs) => C' = C ∧ k a fs
      | _ => False) := h
    cases q : M a with
    | none => rw [q] at h; exact h.elim
    | some mo =>
      rw [q] at h
      cases mo with
      | ins C' fs =>
        have h : C' = C ∧ k a fs := h
        exact ⟨a, fs, rfl, by rw [q, h.1], h.2⟩
      | _ => exact h.elim
  | _ => exact h.elim
theorem insOf_mk {M : Mem} {C a : Addr} {fs : List (Str × D)} {k : Addr → List (Str × D) → Prop} (h : M a = some (.ins C fs)) (q : k a fs) : insOf M C (.ptr a) k := by
  show (match M a with
      | some (.ins C' fs) => C' = C ∧ k a fs
      | _ => False)
  rw [h]
  exact ⟨rfl, q⟩
/-- the fields of an object -/
def insR (M : Mem) (C : Addr) (d : D) (k : List (Str × D) → Prop) : Prop := match d with
  | .ptr a => match M a with
    | some (.ins C' fs) => C' = C ∧ k fs
    | _ => False
  | .obj C' fs => C' = C ∧ k fs
  | _ => False
theorem insR_of {K : PySem.W.Frag} {H : Hp} {H0 : F} {M : Mem} {C : Addr} {v : V} {d : D} {k : List (Str × D) → Prop} (f : Fr K H H0 M) (r : Rp K H0 v d) (h : insR M C d k) : ∃ a dx xs fs, v = .ref a ∧ H a = some (.ins C dx xs) ∧ RpKV K H0 xs fs ∧ k fs := by
  cases d with
  | ptr a =>
    cases r
    have h : (match M a with
      | some (.ins C' fs) => C' = C ∧ k fs
      | _ => False) := h
    cases q : M a with
    | none => rw [q] at h; exact h.elim
    | some mo =>
      rw [q] at h
      cases mo with
      | ins C' fs =>
        obtain ⟨rfl, hkf⟩ := (show C' = C ∧ k fs from h)
        obtain ⟨_, ob, ho, ro⟩ := f.mem a _ q
        cases ro with
        | @ins _ dx xs _ kv => exact ⟨a, dx, xs, fs, rfl, ho, kv, hkf⟩
      | _ => exact h.elim
  | obj C' fs =>
    obtain ⟨rfl, hkf⟩ := (show C' = C ∧ k fs from h)
    cases r with
    | @obj a _ dx xs _ hi hk ha => exact ⟨a, dx, xs, fs, rfl, f.sub _ _ hi, kv_of hk ha, hkf⟩
  | _ => exact h.elim
def RelLk (K : PySem.W.Frag) (H : F) : Option V → Option D → Prop
  | some v, some d => Rp K H v d
  | none, none => True
  | _, _ => False
theorem kv_lookup {K : PySem.W.Frag} {H : F} {f : Str} : ∀ {xs : List (Str × V)} {ds : List (Str × D)}, RpKV K H xs ds → RelLk K H (xs.lookup f) (ds.lookup f)
  | _, _, .nil => trivial
  | (x, v) :: xs, (y, d) :: ds, .cons ⟨e, r⟩ t => by
    have e : x = y := e
    subst e
    have ih := kv_lookup (f := f) t
    simp only [List.lookup_cons]
    cases (f == x) with
    | true => exact r
    | false => exact ih
theorem RelLk.some_of {K : PySem.W.Frag} {H : F} {o : Option V} {d : D} (h : RelLk K H o (some d)) : ∃ v, o = some v ∧ Rp K H v d := by
  cases o with
  | none => exact h.elim
  | some v => exact ⟨v, rfl, h⟩
theorem RelLk.none_of {K : PySem.W.Frag} {H : F} {o : Option V} (h : RelLk K H o none) : o = none := by
  cases o with
  | none => rfl
  | some v => exact h.elim
def putFD (f : Str) (v : D) : List (Str × D) → List (Str × D)
  | [] => [(f, v)]
  | (g, u) :: r => if g = f then (g, v) :: r else (g, u) :: putFD f v r
theorem kv_put {K : PySem.W.Frag} {H : F} {f : Str} {v : V} {d : D} (r : Rp K H v d) : ∀ {xs : List (Str × V)} {ds : List (Str × D)}, RpKV K H xs ds → RpKV K H (putF f v xs) (putFD f d ds)
  | _, _, .nil => .cons ⟨rfl, r⟩ .nil
  | (x, u) :: xs, (y, e) :: ds, .cons ⟨e1, q⟩ t => by
    have e1 : x = y := e1
    subst e1
    unfold putF putFD
    by_cases h : x = f
    · rw [if_pos h, if_pos h]; exact .cons ⟨rfl, r⟩ t
    · rw [if_neg h, if_neg h]; exact .cons ⟨rfl, q⟩ (kv_put r t)
theorem kv_len {κ : Type} {K : PySem.W.Frag} {H : F} {xs : List (κ × V)} {ds : List (κ × D)} (r : RpKV K H xs ds) : xs.length = ds.length := Paired.length r
section
variable {X : Cx} {C : Addr} {f m x : Str} {e o value : Expr} {es : List Expr} {we wo : WE} {w : WA} {pos pos' apos p : Pos} {k : Nat} {ps : List Str} {dsp : DSp}
def wFld (C : Addr) (f : Str) (w : WE) : WE := fun Γ M post => w Γ M fun d M1 => insR M1 C d fun fs => got (fs.lookup f) fun v => post v M1
theorem de_fld (c : Cls X.K C) (n : NoAttr X.K C f) (he : DE X e we) (hb : attributeBase e f X.env (eval e X.env) = eval e X.env := by rfl) : DE X (.Attribute e f pos) (wFld C f we) :=
  PE.weak (pe_fld he hb) fun σ H Q h => up_bind (k := fun d _ M post => insR M C d fun fs => got (fs.lookup f) fun v => post v M) h fun v d H1 H0 Γ M post fr en r q p => by
    obtain ⟨a, dx, xs, fs, rfl, ho, kv, q⟩ := insR_of fr r q
    obtain ⟨z, hz, q⟩ := got_of q
    have lk := kv_lookup (f := f) kv
    rw [hz] at lk
    obtain ⟨v, hv, rv⟩ := lk.some_of
    exact ⟨a, C, _, _, v, rfl, ho, c, n, hv, p.now fr rv q⟩
def sFldD (C : Addr) (f : Str) (wo wv : WE) : WS := fun E Γ M => wv Γ M fun y M1 => wo Γ M1 fun d M2 => insOf M2 C d fun a fs => fs.length < 1000 ∧ E.nx Γ (M2.upd a (.ins C (putFD f y fs)))
theorem ds_fld (c : Cls X.K C) (n : NoAttr X.K C f) (ho : DE X o wo) (hv : DE X value we) (hs : swapsWith value (some (.Attribute o f pos')) pos.line X.env = pure false := by rfl) : DS X (.Assign [.Attribute o f pos'] value pos) (sFldD C f wo we) :=
  PS.weak (ps_fld ho hv hs) fun E σ H h => by
    obtain ⟨H0, Γ, M, post, fr, en, hw, p⟩ := h
    refine ⟨H0, Γ, M, _, fr, en, hw, fun v d H1 H01 M1 q f1 s1 r1 => ⟨H01, Γ, M1, _, f1, en.mono s1, q, fun v2 d2 H2 H02 M2 q2 f2 s2 r2 => ?_⟩⟩
    obtain ⟨a, fs, rfl, hm, hl, q2⟩ := insOf_of q2
    obtain ⟨_, ob, ho, ro⟩ := f2.mem a _ hm
    cases r2
    cases ro with
    | @ins _ dx xs _ kv =>
      refine ⟨a, C, dx, xs, rfl, ho, c, n, by rw [kv_len kv]; exact hl, ?_⟩
      exact p.nx σ Γ _ H02 _ q2 (f2.put hm (.ins (kv_put (r1.mono s2) kv))) (s1.trans s2) ((en.mono s1).mono s2)
/-- a method of a class, ready to be called -/
structure PubM (P : Program) (w : World) (K : PySem.W.Frag) (mg : Str → Option Value) (base : Heap) (k : Nat) (C : Addr) (m : Str) (ps : List Str) (dsp : DSp) : Prop where
  ex : ∃ (f : Addr) (fd : FuncData), Meth K C m f ∧ Binds K fd ps [] ∧ FnG P w K mg base k f fd ps dsp
def wMeth (C : Addr) (m : Str) (dsp : DSp) (wo : WE) (w : WA) : WE := fun Γ M post => wo Γ M fun d M1 => insR M1 C d fun fs => fs.lookup m = none ∧ w Γ M1 fun ds M2 => dsp (d :: ds) M2 post
theorem de_meth {pl : Sem Bool} (c : Cls X.K C) (G : PubM X.prog X.w X.K X.mg X.base k C m ps dsp) (room : Room k X.A) (gd : X.A.guards = some []) (ho : DE X o wo) (ha : DA X (e :: es) w)
    (hst : starEach (e :: es) X.env = (false, eval e X.env) :: starEach es X.env := by rfl) (hpl : (backTo pos (starEach es X.env)).any (·.1) = false := by rfl)
    (ht : eval (.Call (.Attribute o m apos) (e :: es) [] pos) X.env = (do
      let ov ← eval o X.env
      standAt apos.atName
      let (f, first) ← holding [ov] (getMethod ov m pl)
      callWith pos f first (backTo pos (starEach (e :: es) X.env)) (backToKw pos (keywordEach [] X.env))) := by rfl) : DE X (.Call (.Attribute o m apos) (e :: es) [] pos) (wMeth C m dsp wo w) := by
  obtain ⟨f, fd, hm, hb, G⟩ := G.ex
  refine ⟨fun pins s σ H Q I h => PySem.W.methodCall_KW (pl := pl) (thn (ho.run pins s σ H (fun v H1 => ∃ a dx xs, v = .ref a ∧ H1 a = some (.ins C dx xs) ∧ xs.lookup m = none ∧ upA X.K w σ H1 fun vs H2 => toSp X.K dsp (.ref a :: vs) H2 Q) I ?_) fun u s1 ⟨v, H1, I1, rv, a, dx, xs, ev, ea, l, q⟩ => ?_) ht⟩
  · refine up_bind (k := fun d Γ M post => insR M C d fun fs => fs.lookup m = none ∧ w Γ M fun ds M2 => dsp (d :: ds) M2 post) h fun v d H1 H0 Γ M post fr en r q p => ?_
    obtain ⟨a, dx, xs, fs, rfl, ho, kv, hl, q⟩ := insR_of fr r q
    have lk := kv_lookup (f := m) kv
    rw [hl] at lk
    exact ⟨a, dx, xs, rfl, ho, lk.none_of, H0, Γ, M, _, fr, en, q, fun vs ds H2 H02 M2 q2 f2 s2 r2 => ⟨H02, M2, d :: ds, post, f2, .cons (r.mono s2) r2, q2, p.mono s2⟩⟩
  · subst ev
    obtain rfl : u = Value.ref a := rv
    exact getmeth_ok I1 ea c hm l (PySem.W.callWith_K (first := [.ref a]) (h₀ := X.base) I.ok.mod.kin hm.kp (thn (ha.run pos pins s1 σ H1 _ I1 q) fun us s2 ⟨vs, H2, I2, r, q2⟩ => ⟨I2.kIn, run_g (us := .ref a :: us) (vs := .ref a :: vs) (dvs := []) G room gd hb .nil I2 (.cons rfl r) (by rw [List.append_nil]; exact q2)⟩) hst hpl)
theorem de_meth0 {pl : Sem Bool} (c : Cls X.K C) (G : PubM X.prog X.w X.K X.mg X.base k C m ps dsp) (room : Room k X.A) (gd : X.A.guards = some []) (ho : DE X o wo)
    (ht : eval (.Call (.Attribute o m apos) [] [] pos) X.env = (do
      let ov ← eval o X.env
      standAt apos.atName
      let (f, first) ← holding [ov] (getMethod ov m pl)
      callWith pos f first (backTo pos (starEach [] X.env)) (backToKw pos (keywordEach [] X.env))) := by rfl) : DE X (.Call (.Attribute o m apos) [] [] pos) (wMeth C m dsp wo aNil) := by
  obtain ⟨f, fd, hm, hb, G⟩ := G.ex
  refine ⟨fun pins s σ H Q I h => PySem.W.methodCall_KW (pl := pl) (thn (ho.run pins s σ H (fun v H1 => ∃ a dx xs, v = .ref a ∧ H1 a = some (.ins C dx xs) ∧ xs.lookup m = none ∧ toSp X.K dsp [.ref a] H1 Q) I ?_) fun u s1 ⟨v, H1, I1, rv, a, dx, xs, ev, ea, l, q⟩ => ?_) ht⟩
  · refine up_bind (k := fun d Γ M post => insR M C d fun fs => fs.lookup m = none ∧ dsp [d] M post) h fun v d H1 H0 Γ M post fr en r q p => ?_
    obtain ⟨a, dx, xs, fs, rfl, ho, kv, hl, q⟩ := insR_of fr r q
    have lk := kv_lookup (f := m) kv
    rw [hl] at lk
    exact ⟨a, dx, xs, rfl, ho, lk.none_of, H0, M, [d], post, fr, .cons r .nil, q, p⟩
  · subst ev
    obtain rfl : u = Value.ref a := rv
    exact getmeth_ok I1 ea c hm l (PySem.W.callWith_K0 (first := [.ref a]) I1.kIn hm.kp (run_g (us := [.ref a]) (vs := [.ref a]) (dvs := []) G room gd hb .nil I1 (.cons rfl .nil) (by rw [List.append_nil]; exact q)))
/-- a class, ready to be made; dds: what stands for the arguments that lack -/
structure PubC (P : Program) (w : World) (K : PySem.W.Frag) (mg : Str → Option Value) (base : Heap) (k : Nat) (x : Str) (C : Addr) (ps : List Str) (dds : List D) (dsp : DSp) : Prop where
  ex : ∃ (f : Addr) (fd : FuncData) (dvs : List V) (ds : List Value), mg x = some (.ref C) ∧ Mk K C f ∧ Binds K fd ps ds ∧ Vals dvs ds ∧ (∀ H0 : F, RpAll K H0 dvs dds) ∧ FnG P w K mg base k f fd ps dsp
def wMake (C : Addr) (dds : List D) (dsp : DSp) (w : WA) : WE := fun Γ M post => w Γ M fun ds M1 => ∀ a, M1 a = none → dsp (.ptr a :: (ds ++ dds)) (M1.upd a (.ins C [])) fun d M3 => d = .non ∧ post (.ptr a) M3
theorem de_make {dds : List D} (G : PubC X.prog X.w X.K X.mg X.base k x C ps dds dsp) (room : Room (k + 1) X.A) (gd : X.A.guards = some []) (ha : DA X (e :: es) w) (hg : Gl X x := by rfl) (hdb : (x == ("__debug__" : Str)) = false := by decide)
    (he : starEach (e :: es) X.env = (false, eval e X.env) :: starEach es X.env := by rfl) (hpl : (backTo pos (starEach es X.env)).any (·.1) = false := by rfl) : DE X (.Call (.Name x p) (e :: es) [] pos) (wMake C dds dsp w) := by
  obtain ⟨f, fd, dvs, ds, hm, M, hb, dv, rd, G⟩ := G.ex
  refine ⟨fun pins s σ H Q I h => wpAny_Call_Name_kw (ld_glob I hg hm (PySem.W.callWith_K (h₀ := X.base) I.ok.mod.kin M.kp (thn (ha.run pos pins s σ H _ I (upA_bind (X := X) (R := fun vs H1 => ∀ a dx, H1 a = none → H1 dx = none → dx ≠ a → toSp X.K dsp (.ref a :: (vs ++ dvs)) (upd (upd H1 dx (.own a)) a (.ins C dx [])) fun v H2 => v = .non ∧ Q (.ref a) H2)
    (k := fun ds _ M1 post => ∀ a, M1 a = none → dsp (.ptr a :: (ds ++ dds)) (M1.upd a (.ins C [])) fun d M3 => d = .non ∧ post (.ptr a) M3) h ?_)) fun us s1 ⟨vs, H1, I1, r, q⟩ => ⟨I1.kIn, ?_⟩) he hpl) hdb)⟩
  · intro vs ds H1 H0 Γ M1 post fr en ra q p a dx ha hdx hne
    have ha2 : upd H1 dx (.own a) a = none := by rw [upd_ne (Ne.symm hne)]; exact ha
    refine ⟨H0, M1.upd a (.ins C []), .ptr a :: (ds ++ dds), _, (fr.waste hdx).new ha2 (.ins .nil), .cons (.ptr a) (ra.append (rd H0)), q a (fr.fresh ha).2, fun v d H' H0' M' q' f' s' r' => ?_⟩
    obtain ⟨rfl, q'⟩ := q'
    cases r'
    exact ⟨rfl, p _ _ H' H0' M' q' f' s' (.ptr a)⟩
  · have fa : H1 (s1.heap.objs.size + 1) = none := I1.hok.fresh (Nat.le_succ _)
    have fdx : H1 s1.heap.objs.size = none := I1.hok.fresh (Nat.le_refl _)
    have sp := q (s1.heap.objs.size + 1) s1.heap.objs.size fa fdx (Nat.ne_of_lt (Nat.lt_succ_self _))
    have J := Inv.made (C := C) I1
    have r2 : Vals (V.ref (s1.heap.objs.size + 1) :: (vs ++ dvs)) (Value.ref (s1.heap.objs.size + 1) :: (us ++ ds)) := .cons rfl (r.append dv)
    have ll : (Value.ref (s1.heap.objs.size + 1) :: us ++ ds).length = ps.length := by
      have e1 := r2.length
      rw [sp.len G.len] at e1
      exact e1.symm
    refine wpAny_call (make_map (f := f) I1.kIn M.makes M.init (beq_iff_eq.mp M.fn) (codeAny_mono (G.go _ X.stack _ _ ⟨Value.ref (s1.heap.objs.size + 1) :: us, []⟩ (Value.ref (s1.heap.objs.size + 1) :: (us ++ ds)) _ _ ?_ (room.make C us []) (J.env0.make C us [])
      (hb _ (Value.ref (s1.heap.objs.size + 1) :: us) J.kIn ll) r2 sp) fun res s' hq => ?_))
    · first | exact gd | simpa [Around.under, pushGuards, Code.guards, Code.isGuard, guardIds] using gd
    · match res, hq with
      | .ok (.ret u), hq =>
        obtain ⟨v, H', J3, rv, ev, q3⟩ := J.after hq
        subst ev
        exact ⟨rv, ⟨V.ref (s1.heap.objs.size + 1), H', J3, rfl, q3⟩⟩
      | .ok .next, hq => exact hq.elim
      | .ok .brk, hq => exact hq.elim
      | .ok .cont, hq => exact hq.elim
      | .error e, hq => exact hq.elim
end
end FD

namespace FD
open PySem PySem.Spec PyProof.Rows L2
section
variable {X : Cx} {o i e c : Expr} {we wo wi : WE} {pos : Pos} {wt : WT} {tb : WS}
/-! ### l[i] = e, l in the store -/
def gSub (wo wi : WE) : WG := fun d Γ M post => wo Γ M fun x M1 => wi Γ M1 fun y M2 => isI y fun k => cell M2 x fun a l => got (ixN l.length k) fun j => post Γ (M2.upd a (.lst (l.set j d)))
theorem dg_sub (ho : DE X o wo) (hi : DE X i wi)
    (ha : ∀ v, assign (.Subscript o i pos) X.env v = (do
      let ov ← holding [v] (eval o X.env)
      let iv ← holding [v, ov] (eval i X.env)
      standAt pos
      holding [v, ov, iv] (setItem ov iv v)
      release [v, ov, iv] []) := by intro _; rfl) : DG X (.Subscript o i pos) (gSub wo wi) :=
  PG.weak (pg_sub ho hi set_list ha) fun v σ H Q h => by
    obtain ⟨H0, Γ, M, d, post, f, e, r, hw, p⟩ := h
    refine ⟨H0, Γ, M, _, f, e, hw, fun v1 d1 H1 H01 M1 q1 f1 s1 r1 => ⟨H01, Γ, M1, _, f1, e.mono s1, q1, fun v2 d2 H2 H02 M2 q2 f2 s2 r2 => ?_⟩⟩
    obtain ⟨k, rfl, q2⟩ := isI_of q2
    obtain ⟨a, l, rfl, hm, q2⟩ := cell_of q2
    obtain ⟨j, hj, q2⟩ := got_of q2
    obtain ⟨_, ob, hob, ro⟩ := f2.mem a _ hm
    cases r1; cases r2
    cases ro with
    | @lst xs _ hx hz =>
      refine ⟨a, xs, k, j, rfl, rfl, hob, by rw [hx.length]; exact hj, ?_⟩
      exact p σ Γ _ H02 _ q2 (f2.put hm (.lst (RpAll.set ((r.mono s1).mono s2) j hx) (by rw [List.length_set]; exact hz))) (s1.trans s2) ((e.mono s1).mono s2)
/-! ### freezing: a list of the store is handed back as data -/
def wIce (w : WE) : WE := fun Γ M post => w Γ M fun d M1 => cell M1 d fun a l => post (.lst l) (M1.del a)
theorem de_ice (he : DE X e we) : DE X e (wIce we) :=
  PE.weak he fun σ H Q h => up_bind (k := fun d _ M1 post => cell M1 d fun a l => post (.lst l) (M1.del a)) h fun v d H1 H0 Γ M post f en r q p => by
    obtain ⟨a, l, rfl, hm, q⟩ := cell_of q
    obtain ⟨xs, ra, hz, f2, s2⟩ := f.freeze hm
    cases r
    exact p _ _ H1 _ _ q f2 s2 (.lst (F.ice_eq F.put_same) (ra.mono s2) hz)
/-! ### while -/
def sWhile (c : WT) (tb : WS) : WS := fun E Γ M => ∃ W : Nat → Env → Mem → Prop, (∃ m, W m Γ M) ∧ ∀ m Γ M, W m Γ M →
  c Γ M fun b M1 => if b = true then tb { E with nx := fun Γ' M' => ∃ m', m' < m ∧ W m' Γ' M', ct := fun Γ' M' => ∃ m', m' < m ∧ W m' Γ' M', bk := E.nx } Γ M1 else E.nx Γ M1
theorem ds_while {body : List Stmt} (hp : PassesOwn (model X.prog X.w) X.A X.env X.xe) (hc : DT X c wt) (hb : DSs X body tb) : DS X (.While c body [] pos) (sWhile wt tb) :=
  PS.weak (ps_while hp hc hb) fun E σ H h => by
    obtain ⟨H0, Γ, M, post, f, en, ⟨W, ⟨m0, w0⟩, turn⟩, p⟩ := h
    refine ⟨fun m σ' H' => ∃ H0' Γ' M', Fr X.K H' H0' M' ∧ F.le H0 H0' ∧ RpE X.K H0' σ' Γ' ∧ W m Γ' M', ⟨m0, H0, Γ, M, f, F.le.refl _, en, w0⟩, ?_⟩
    rintro m σ1 H1 ⟨H01, Γ1, M1, f1, s1, e1, w1⟩
    refine ⟨H01, Γ1, M1, _, f1, e1, turn m Γ1 M1 w1, fun b H2 H02 M2 q f2 s2 => ?_⟩
    cases b with
    | true =>
      simp only [if_true] at q ⊢
      have again : PostE X.K H02 (fun Γ' M' => ∃ m', m' < m ∧ W m' Γ' M') (fun σ' H' => ∃ m', m' < m ∧ ∃ H0' Γ' M', Fr X.K H' H0' M' ∧ F.le H0 H0' ∧ RpE X.K H0' σ' Γ' ∧ W m' Γ' M') :=
        fun σ3 Γ3 H3 H03 M3 ⟨m', hm, w3⟩ f3 s3 e3 => ⟨m', hm, H03, Γ3, M3, f3, (s1.trans s2).trans s3, e3, w3⟩
      exact ⟨_, fun σ' H' hN => hN, H02, Γ1, M2, _, f2, e1.mono s2, q, ⟨again, p.rt.mono (s1.trans s2), p.nx.mono (s1.trans s2), again⟩⟩
    | false =>
      simp only [Bool.false_eq_true, if_false] at q ⊢
      exact p.nx σ1 Γ1 H2 H02 M2 q f2 (s1.trans s2) (e1.mono s2)
/-- truth of any value -/
def truD (M : Mem) : D → Option Bool
  | .non => some false
  | .bl b => some b
  | .int i => some (i != 0)
  | .str s => some (s.length != 0)
  | d => (seqOf M d).map fun l => !l.isEmpty
/-- a tuple that is written out: a firm one -/
theorem tup_firm {es : List Expr} {t : TA} {x1} (h : PA X es t) : PE X (.Tuple es x1 pos) (fun σ H Q => t σ H fun xs H1 => xs.length ≤ sizeLine ∧ ∀ p ob, H1 p = none → ob.dict = none → Q (.ref p) (upd H1 p (.frz ob (.tup xs)))) := by
  refine ⟨fun pins s σ H Q I hq => wpAny_Tuple_spliced (thn (h.run pos pins s σ H _ I hq) fun us s1 ⟨xs, H1, I1, r, z, q⟩ => ⟨by rw [← r.length]; exact z, ?_⟩)⟩
  refine ⟨.ref s1.heap.objs.size, upd H1 s1.heap.objs.size (.frz { cls := .type "tuple", data := .seq us.toArray } (.tup xs)), I1.laid (t' := s1.toks) (fun b u e => Heap.get?_push_of_some _ e) (Nat.le_refl _) ?_, rfl, q _ _ (I1.hok.fresh (Nat.le_refl _)) rfl⟩
  exact ⟨Heap.get?_push_size _ rfl, z, us, r, ⟨_, Heap.get?_push_size _ rfl, rfl, _, rfl⟩⟩
def wFtp (w : WA) : WE := fun Γ M post => w Γ M fun ds M1 => fitL ds ∧ post (.ftp ds) M1
theorem de_ftp {es : List Expr} {w : WA} {x1} (h : DA X es w) : DE X (.Tuple es x1 pos) (wFtp w) :=
  PE.weak (tup_firm h) fun σ H Q h => upA_bind (k := fun ds _ M post => fitL ds ∧ post (.ftp ds) M) h fun vs ds H1 H0 Γ M post f e r q p => by
    refine ⟨by rw [r.length]; exact fit_line q.1, fun a ob ha hd => ?_⟩
    have s0 : F.le H0 (H0.put a (.ice (.frz ob (.tup vs)))) := F.le_put (f.fresh ha).1
    exact p _ _ _ _ M q.2 (f.ice ha) s0 (.ftp (F.ice_eq F.put_same) hd (r.mono s0) (fit_line q.1))
end
end FD

namespace FD
open PySem PySem.Spec PyProof.Rows L2
/-! ### equations for walking -/
theorem look_zero {d : D} {Γ : Env} {k : D → Prop} : look (some d :: Γ) 0 k = k d := rfl
theorem look_succ {x : Option D} {Γ : Env} {i : Nat} {k : D → Prop} : look (x :: Γ) (i + 1) k = look Γ i k := by unfold look; rw [List.getElem?_cons_succ]
theorem got_so {α : Type} {d : α} {k : α → Prop} : got (some d) k = k d := rfl
theorem isB_bl {b : Bool} {k : Bool → Prop} : isB (.bl b) k = k b := rfl
theorem isI_int {b : Int} {k : Int → Prop} : isI (.int b) k = k b := rfl
theorem isS_str {b : Str} {k : Str → Prop} : isS (.str b) k = k b := rfl
theorem isT_tup {l : List D} {k : List D → Prop} : isT (.tup l) k = k l := rfl
theorem isT_ftp {l : List D} {k : List D → Prop} : isT (.ftp l) k = k l := rfl
theorem isT_ktp {l : List D} {k : List D → Prop} : isT (.ktp l) k = k l := rfl
theorem one_one {d : D} {k : D → Prop} : one [d] k = k d := rfl
theorem two_two {d e : D} {k : D → D → Prop} : two [d, e] k = k d e := rfl
theorem startD_cc {x : Str} {N : List Str} {d : D} {ds : List D} : startD (x :: N) (d :: ds) = some d :: startD N ds := rfl
theorem startD_cn {x : Str} {N : List Str} : startD (x :: N) [] = none :: startD N [] := rfl
theorem startD_nn : startD [] [] = [] := rfl
theorem ix_str {M : Mem} {s : Str} {i : Int} {post : WK} : gIx M (.str s) (.int i) post = got (atI s.cps.toList i) fun c => post (.str ⟨#[c]⟩) M := rfl
theorem ix_tup {M : Mem} {l : List D} {i : Int} {post : WK} : gIx M (.tup l) (.int i) post = got (atI l i) fun d => post d M := rfl
theorem ix_ftp {M : Mem} {l : List D} {i : Int} {post : WK} : gIx M (.ftp l) (.int i) post = got (atI l i) fun d => post d M := rfl
theorem ix_ktp {M : Mem} {l : List D} {i : Int} {post : WK} : gIx M (.ktp l) (.int i) post = got (atI l i) fun d => post d M := rfl
theorem ix_lst {M : Mem} {l : List D} {i : Int} {post : WK} : gIx M (.lst l) (.int i) post = got (atI l i) fun d => post d M := rfl
theorem ix_scr {M : Mem} {l : List D} {i : Int} {post : WK} : gIx M (.scr l) (.int i) post = got (atI l i) fun d => post d M := rfl
theorem atI0 {α : Type} {a : α} {l : List α} : atI (a :: l) 0 = some a := atI_nat (j := 0) rfl
theorem atI1 {α : Type} {a b : α} {l : List α} : atI (a :: b :: l) 1 = some b := atI_nat (j := 1) rfl
theorem atI2 {α : Type} {a b c : α} {l : List α} : atI (a :: b :: c :: l) 2 = some c := atI_nat (j := 2) rfl
theorem atI3 {α : Type} {a b c d : α} {l : List α} : atI (a :: b :: c :: d :: l) 3 = some d := atI_nat (j := 3) rfl
theorem eqd_str {a b : Str} : eqd (.str a) (.str b) = decide (a = b) := by
  unfold eqd; simp only [D.py, PyData.eqv]; exact Bool.beq_eq_decide_eq a b
theorem eqd_int {a b : Int} : eqd (.int a) (.int b) = decide (a = b) := by
  unfold eqd; simp only [D.py, PyData.eqv]; exact Bool.beq_eq_decide_eq a b
theorem eqd_bl {a b : Bool} : eqd (.bl a) (.bl b) = decide (a = b) := by
  unfold eqd; simp only [D.py, PyData.eqv]; exact Bool.beq_eq_decide_eq a b
theorem eq_str {M : Mem} {a b : Str} {post : WK} : gEq M (.str a) (.str b) post = post (.bl (decide (a = b))) M := by
  unfold gEq; simp only [rsv, D.dp, eqd_str]; simp
theorem ne_str {M : Mem} {a b : Str} {post : WK} : gNe M (.str a) (.str b) post = post (.bl (!decide (a = b))) M := by
  unfold gNe; simp only [rsv, D.dp, eqd_str]; simp
theorem eq_int {M : Mem} {a b : Int} {post : WK} : gEq M (.int a) (.int b) post = post (.bl (decide (a = b))) M := by
  unfold gEq; simp only [rsv, D.dp, eqd_int]; simp
theorem ne_int {M : Mem} {a b : Int} {post : WK} : gNe M (.int a) (.int b) post = post (.bl (!decide (a = b))) M := by
  unfold gNe; simp only [rsv, D.dp, eqd_int]; simp
theorem add_int {i j : Int} : addD (.int i) (.int j) = some (.int (i + j)) := rfl
theorem sub_int {i j : Int} : subD (.int i) (.int j) = some (.int (i - j)) := rfl
theorem lt_int {i j : Int} : ltD (.int i) (.int j) = some (.bl (decide (i < j))) := rfl
theorem le_int {i j : Int} : leD (.int i) (.int j) = some (.bl (decide (i ≤ j))) := rfl
theorem gt_int {i j : Int} : gtD (.int i) (.int j) = some (.bl (decide (j < i))) := rfl
theorem ge_int {i j : Int} : geD (.int i) (.int j) = some (.bl (decide (j ≤ i))) := rfl
theorem isN_non {d : D} : isND d .non = some (.bl (isNon d)) := rfl
theorem notN_non {d : D} : notND d .non = some (.bl (!isNon d)) := rfl
theorem len_str {M : Mem} {s : Str} : lenD M (.str s) = some (s.length : Int) := rfl
theorem len_tup {M : Mem} {l : List D} : lenD M (.tup l) = some (l.length : Int) := rfl
theorem len_ftp {M : Mem} {l : List D} : lenD M (.ftp l) = some (l.length : Int) := rfl
theorem len_ktp {M : Mem} {l : List D} : lenD M (.ktp l) = some (l.length : Int) := rfl
theorem len_lst {M : Mem} {l : List D} : lenD M (.lst l) = some (l.length : Int) := rfl
theorem len_scr {M : Mem} {l : List D} : lenD M (.scr l) = some (l.length : Int) := rfl
theorem seq_tup {M : Mem} {l : List D} : seqOf M (.tup l) = some l := rfl
theorem seq_ftp {M : Mem} {l : List D} : seqOf M (.ftp l) = some l := rfl
theorem seq_ktp {M : Mem} {l : List D} : seqOf M (.ktp l) = some l := rfl
theorem seq_lst {M : Mem} {l : List D} : seqOf M (.lst l) = some l := rfl
theorem seq_scr {M : Mem} {l : List D} : seqOf M (.scr l) = some l := rfl
theorem in_tup {M : Mem} {x : D} {l : List D} {post : WK} : gIn M x (.tup l) post = (flatD x = true ∧ l.all flatD = true ∧ post (.bl (inL l x)) M) := rfl
theorem in_ftp {M : Mem} {x : D} {l : List D} {post : WK} : gIn M x (.ftp l) post = (flatD x = true ∧ l.all flatD = true ∧ post (.bl (inL l x)) M) := rfl
theorem in_ktp {M : Mem} {x : D} {l : List D} {post : WK} : gIn M x (.ktp l) post = (flatD x = true ∧ l.all flatD = true ∧ post (.bl (inL l x)) M) := rfl
theorem in_lst {M : Mem} {x : D} {l : List D} {post : WK} : gIn M x (.lst l) post = (flatD x = true ∧ l.all flatD = true ∧ post (.bl (inL l x)) M) := rfl
theorem nin_tup {M : Mem} {x : D} {l : List D} {post : WK} : gNin M x (.tup l) post = (flatD x = true ∧ l.all flatD = true ∧ post (.bl (!inL l x)) M) := rfl
theorem nin_ftp {M : Mem} {x : D} {l : List D} {post : WK} : gNin M x (.ftp l) post = (flatD x = true ∧ l.all flatD = true ∧ post (.bl (!inL l x)) M) := rfl
theorem nin_ktp {M : Mem} {x : D} {l : List D} {post : WK} : gNin M x (.ktp l) post = (flatD x = true ∧ l.all flatD = true ∧ post (.bl (!inL l x)) M) := rfl
theorem nin_lst {M : Mem} {x : D} {l : List D} {post : WK} : gNin M x (.lst l) post = (flatD x = true ∧ l.all flatD = true ∧ post (.bl (!inL l x)) M) := rfl
theorem in_str {M : Mem} {x : D} {z : Str} {post : WK} : gIn M x (.str z) post = isC x fun c => post (.bl (decide (c ∈ z.cps.toList))) M := rfl
theorem nin_str {M : Mem} {x : D} {z : Str} {post : WK} : gNin M x (.str z) post = isC x fun c => post (.bl (!decide (c ∈ z.cps.toList))) M := rfl
theorem isC_one {c : Nat} {k : Nat → Prop} : isC (.str ⟨#[c]⟩) k = k c := rfl
theorem fit_le {α : Type} {l : List α} : fitL l = (l.length ≤ 16777216) := rfl
theorem asL_lst {M : Mem} {l : List D} {k : List D → (Mem → Prop) → Prop} : asL M (.lst l) k = k l noG := rfl
theorem asL_scr {M : Mem} {l : List D} {k : List D → (Mem → Prop) → Prop} : asL M (.scr l) k = k l noG := rfl
theorem if_tt {p q : Prop} : (if true = true then p else q) = p := by simp
theorem if_ff {p q : Prop} : (if false = true then p else q) = q := by simp
end FD

namespace FD
open PySem PySem.Spec PyProof.Rows L2
open AutoSeq1 (wpAny_loadPart')
/-! ### enumerate(t), t a tuple -/
theorem enum_new {v : Value} {o : Obj} {G : Heap → Prop} (B : Begins v o G) :
    Meets (Builtin.«enumerate.__new__» ⟨[.type "enumerate", v], []⟩) (fun _ R s => G s.heap ∧ R (.ok (.ret (.ref (s.heap.push o).objs.size))) { s with heap := (s.heap.push o).push { cls := .type "enumerate", data := .fields #[.none, .bool false, .ref s.heap.objs.size, rawInt 0, .none, .none] } }) :=
  .of_wp fun prog w A R s h => by
    obtain ⟨hp, g, d, tk, os⟩ := s
    obtain ⟨h1, h⟩ := h
    have hsub := sub_enumerate
    have q1 := fun A E Q (q : Q (Value.ref hp.objs.size) (⟨hp.push o, g, d, tk, os⟩ : Shared)) => B.iter prog w A E ⟨hp, g, d, tk, os⟩ Q h1 q
    wp_walk using q1
    refine wpAny_stack_any fun st => wpAny_pure ?_
    split
    · rename_i c _ _ _ _ _
      cases (c == Value.type "enumerate") <;> (wp_walk using q1; exact ⟨_, rfl, h⟩)
    · wp_walk using q1
      exact ⟨_, rfl, h⟩
theorem enum_call {prog : Program} {w : World} {A : Around} {E : Value → Shared → Prop} {s : Shared} {v : Value} {o : Obj} {G : Heap → Prop} {Q : Value → Shared → Prop} (B : Begins v o G) (h1 : G s.heap)
    (h : ∀ h', IsEnum h' (s.heap.objs.size + 1) s.heap.objs.size 0 .none → h'.get? s.heap.objs.size = some o → (∀ b u, s.heap.get? b = some u → h'.get? b = some u) → Q (.ref (s.heap.objs.size + 1)) { s with heap := h' }) :
    wpAny (model prog w) A (call (.type "enumerate") [v]) Q E s := by
  refine callType_new F.called_enumerate (by decide) (F.typeCall_enumerate_1 _) (F.newCall_enumerate_1 _) (fun obj => F.args_object_init_2 obj _) F.entry_enumerate_new (enum_new B) ⟨h1, ?_⟩
  have hz : (s.heap.push o).objs.size = s.heap.objs.size + 1 := Heap.size_push ..
  have he : IsEnum ((s.heap.push o).push { cls := .type "enumerate", data := .fields #[.none, .bool false, .ref s.heap.objs.size, rawInt 0, .none, .none] }) (s.heap.objs.size + 1) s.heap.objs.size 0 .none := by
    have q := Heap.get?_push_size (s.heap.push o) (o := { cls := .type "enumerate", data := .fields #[.none, .bool false, .ref s.heap.objs.size, rawInt 0, .none, .none] }) rfl
    rw [hz] at q
    exact q
  show _ ∧ _
  rw [hz]
  exact ⟨⟨_, he, rfl⟩, h _ he (Heap.get?_push_of_some _ (Heap.get?_push_size _ B.free)) fun b u x => Heap.get?_push_of_some _ (Heap.get?_push_of_some _ x)⟩
def IteT (K : PySem.W.Frag) (a : Addr) : It :=
  ⟨fun i H => ∃ (xs : List V) (x : V), SqT K H a xs ∧ xs[i]? = some x, fun i H v H' => ∃ T x, v = .ref T ∧ H T = none ∧ H' = upd H T (.tup [.int (i : Nat), x]) ∧ ∀ xs, SqT K H a xs → xs[i]? = some x, fun i H => ∃ xs : List V, SqT K H a xs ∧ xs.length = i⟩
theorem turn_enumT {P : Program} {w : World} {K : PySem.W.Frag} {elts : List Expr} {kk : Nat} {tpos : Pos} (a e it : Addr) :
    Turn P w K (.Tuple elts kk tpos) (IteT K a) [e, it] e (fun i h => (∃ old, IsEnum h e it ((i : Nat) : Int) old) ∧ h.IsTupleIter it a i ∧ e ≠ it ∧ a ≠ it ∧ a ≠ e) where
  mem := by simp
  obj := fun i h st b hb => by
    obtain ⟨⟨old, he⟩, ⟨o, ho, hc, hd⟩, _⟩ := st
    rcases (show b = e ∨ b = it by simpa using hb) with rfl | rfl
    · exact ⟨_, he, fun v q => nomatch q⟩
    · exact ⟨o, ho, fun v q => by rw [hd] at q; cases q⟩
  keep := fun i h h' st k => by
    obtain ⟨⟨old, he⟩, hi, hne⟩ := st
    exact ⟨⟨old, k e (by simp) _ he⟩, hi.at fun o q => k it (by simp) o q, hne⟩
  item := by
    intro X hP hw hK hc i pins s σ H E I hf st hg
    subst hP hw hK
    obtain ⟨⟨old, he⟩, hit, hne, hai, hae⟩ := st
    obtain ⟨xs, x, hq, hx⟩ := hg
    obtain ⟨its, rv, p, hz⟩ := I.tuple hq
    have hl := rv.length
    have hlt : i < its.toArray.size := by
      have := (List.getElem?_eq_some_iff.mp hx).1
      rw [List.size_toArray]; omega
    have hel : e < s.heap.objs.size := Heap.lt_size he
    have hil : it < s.heap.objs.size := by obtain ⟨_, q, _⟩ := hit; exact Heap.lt_size q
    have D := Draws.tuple (prog := X.prog) (w := X.w) (A := X.A.in1) (I.ok.hd hc) it a hai its.toArray
    refine wpAny_pyNext_enum_itemD D he ⟨hit, p⟩ hlt hne (by simp [hne, Ne.symm hae]) fun u h' tk hu ho hst hT hsz hk => ?_
    have hu : its[i]? = some u := by simpa using hu
    obtain ⟨u', hu', ru⟩ := rv.get hx
    rw [hu] at hu'; cases hu'
    refine ⟨_, rfl, wpAny_letOwnedTupleGo_enum (s := { s with heap := h', toks := tk + 1 }) ho fun h'' he' sb => ?_⟩
    have hT2 : h''.get? s.heap.objs.size = some { cls := .type "tuple", data := .seq #[.int i tk, u] } := (sb.2 _ (Nat.ne_of_gt hel)).trans hT
    have new : ObjOk X.prog X.w (upd H s.heap.objs.size (.tup [.int (i : Nat), x])) h'' s.heap.objs.size (.tup [.int (i : Nat), x]) :=
      ⟨by show 2 ≤ sizeLine; decide, [.int i tk, u], .cons ⟨_, rfl⟩ (.cons ru .nil), ⟨_, hT2, rfl, _, rfl⟩⟩
    have J := I.turnedNew (t' := tk + 1) (ch := [e, it]) (fun b ob hb q => (sb.2 b (fun z => hb (by simp [z]))).trans (hk b ob (fun z => hb (by simp [z])) (fun z => hb (by simp [z])) q)) hf (Nat.le_refl _) new
    refine ⟨.ref s.heap.objs.size, _, J, rfl, ⟨_, x, rfl, I.hok.fresh (Nat.le_refl _), rfl, fun ys hy => by rw [I.tuple_inj hy hq]; exact hx⟩, ⟨⟨u, ?_⟩, hst.1.at fun o q => (sb.2 it (Ne.symm hne)).trans q, hne, hai, hae⟩, fun b hb => ?_⟩
    · have e1 : ((i + 1 : Nat) : Int) = (i : Int) + 1 := by omega
      rw [e1]; exact he'
    · have hb' : b < s.heap.objs.size := by
        rcases (show b = e ∨ b = it by simpa using hb) with rfl | rfl
        · exact hel
        · exact hil
      rw [upd_ne (Nat.ne_of_lt hb')]
      exact (hf b hb).1
  done := by
    intro X hP hw hK hc i pins s σ H E I hf st hg
    subst hP hw hK
    obtain ⟨⟨old, he⟩, hit, hne, hai, hae⟩ := st
    obtain ⟨xs, hq, hx⟩ := hg
    obtain ⟨its, rv, p, hz⟩ := I.tuple hq
    have D := Draws.tuple (prog := X.prog) (w := X.w) (A := X.A.in1) (I.ok.hd hc) it a hai its.toArray
    have en : its.toArray.size = i := by rw [List.size_toArray, ← rv.length]; exact hx
    obtain ⟨f0, f1, f2, f3, f4, f5⟩ := hf it (by simp)
    exact wpAny_pyNext_enum_endD D he ⟨by rw [en]; exact hit, p⟩ fun h' eb => ⟨rfl, I.turned (t' := s.toks) (fun b o hb q => eb b o hb q) f0 f1 f3 f4 f5⟩
  self := fun A i s Q E st h => by
    obtain ⟨⟨_, he⟩, _⟩ := st
    exact wpAny_pyIter_enum he h
section
variable {X : Cx} {e tg : Expr} {we : WE} {pos p tpos : Pos} {elts : List Expr} {kk : Nat} {w : WA}
def iEnumT (K : PySem.W.Frag) (ta : TA) : TI := fun σ H R => ta σ H fun vs H1 => ∃ a xs, vs = [.ref a] ∧ SqT K H1 a xs ∧ R (IteT K a) H1
theorem pi_enumT {ta : TA} (hm : X.mg "enumerate" = none) (ha : PA X [e] ta) (hg : Gl X "enumerate" := by rfl) (hs : starEach [e] X.env = [(false, eval e X.env)] := by rfl) : PI X (.Tuple elts kk tpos) (.Call (.Name "enumerate" p) [e] [] pos) (iEnumT X.K ta) := by
  refine ⟨fun pins s σ H R I h => Call_ (ld_blt I hg hm boot_enumerate (PyProof.Rows.callWith_type1 (thn (ha.run pos pins s σ H _ I h) fun us s1 ⟨vs, H1, I1, r1, q1⟩ => ?_) hs rfl))⟩
  obtain ⟨a, xs, rfl, hq, q⟩ := q1
  have er := Vals.ref1 r1
  subst er
  obtain ⟨its, rv, ht, hz⟩ := I1.tuple hq
  have hal : a < s1.heap.objs.size := by obtain ⟨o, ho, _⟩ := ht; exact Heap.lt_size ho
  refine enum_call (begins_tuple a its.toArray) ht fun h' he hit hk => wpAny_pyIter_enum he ?_
  refine ⟨s1.heap.objs.size + 1, [s1.heap.objs.size + 1, s1.heap.objs.size], _, _, H1, rfl, I1.kept (h' := h') (t' := s1.toks) hk, turn_enumT a (s1.heap.objs.size + 1) s1.heap.objs.size,
    ⟨⟨.none, he⟩, ⟨_, hit, rfl, rfl⟩, Nat.succ_ne_self _, Nat.ne_of_lt hal, Nat.ne_of_lt (Nat.lt_succ_of_lt hal)⟩, fun b hb => ?_, q⟩
  have hle : s1.heap.objs.size ≤ b := by
    rcases (show b = s1.heap.objs.size + 1 ∨ b = s1.heap.objs.size by simpa using hb) with z | z
    · rw [z]; exact Nat.le_add_right _ _
    · rw [z]; exact Nat.le_refl _
  exact I1.fpOk hle (I1.hok.fresh hle)
/-- the items of enumerate -/
def enumD : Nat → List D → List D
  | _, [] => []
  | i, d :: l => .tup [.int (i : Nat), d] :: enumD (i + 1) l
theorem enumD_len : ∀ (l : List D) (i : Nat), (enumD i l).length = l.length
  | [], _ => rfl
  | d :: l, i => by simp [enumD, enumD_len l (i + 1)]
theorem enumD_get : ∀ (l : List D) (k i : Nat), (enumD k l)[i]? = (l[i]?).map fun d => .tup [.int ((k + i : Nat) : Int), d]
  | [], _, _ => by simp [enumD]
  | d :: l, k, 0 => by simp [enumD]
  | d :: l, k, i + 1 => by
    show (enumD (k + 1) l)[i]? = _
    rw [enumD_get l (k + 1) i, List.getElem?_cons_succ, show k + 1 + i = k + (i + 1) by omega]
theorem two_le : 2 ≤ sizeLine := by decide
theorem walkD_enumT {K : PySem.W.Frag} {a : Addr} {xs : List V} {ds : List D} {H0 : F} (hs : SqT K H0.ice a xs) (ha : RpAll K H0 xs ds) (hz : ds.length ≤ sizeLine) : DWalk K (IteT K a) (enumD 0 ds) noG H0 := by
  have hl : (enumD 0 ds).length = xs.length := by rw [enumD_len, ha.length]
  refine ⟨⟨fun H => SqT K H a xs, fun i H v H' => ∃ T x, v = .ref T ∧ H T = none ∧ H' = upd H T (.tup [.int (i : Nat), x]) ∧ xs[i]? = some x, ⟨fun i H hi q => ?_, fun H q => ?_, fun i H x H' hi q y => ?_⟩, fun H' H0' M' f s _ => seqT_mono (s.trans f.sub) hs, fun i H x H' H0' M' d hd f s _ y => ?_⟩, by rw [enumD_len]; exact hz⟩
  · rw [hl] at hi
    exact ⟨xs, xs[i], q, List.getElem?_eq_getElem hi⟩
  · exact ⟨xs, q, hl.symm⟩
  · obtain ⟨T, v, h1, h2, h3, h4⟩ := y
    exact ⟨T, v, h1, h2, h3, h4 xs q⟩
  · obtain ⟨T, v, rfl, hT, rfl, hx⟩ := y
    obtain ⟨d', e1, r⟩ := ha.getV hx
    rw [enumD_get, e1] at hd
    simp only [Option.map_some, Option.some.injEq, Nat.zero_add] at hd
    subst hd
    have s0 : F.le H0' (H0'.put T (.ice (.tup [.int (i : Nat), v]))) := F.le_put (f.fresh hT).1
    exact ⟨_, f.ice hT, s0, .tup (F.ice_eq F.put_same) (.cons (.int _) (.cons ((r.mono' s).mono s0) .nil)) two_le⟩
def iEnT (w : WA) : WI := fun Γ M post => w Γ M fun ds M1 => one ds fun d => isT d fun l => post (enumD 0 l) noG M1
theorem di_enumT (hm : X.mg "enumerate" = none) (ha : DA X [e] w) (hg : Gl X "enumerate" := by rfl) (hs : starEach [e] X.env = [(false, eval e X.env)] := by rfl) : DI X (.Tuple elts kk tpos) (.Call (.Name "enumerate" p) [e] [] pos) (iEnT w) :=
  PI.weak (pi_enumT hm ha hg hs) fun σ H R h => by
    obtain ⟨H0, Γ, M, post, f, en, hw, p⟩ := h
    refine ⟨H0, Γ, M, _, f, en, hw, fun vs ds H' H0' M' q f' s r => ?_⟩
    obtain ⟨d, rfl, q⟩ := one_of q
    obtain ⟨l, et, q⟩ := isT_of q
    cases r with
    | cons r t =>
      cases t
      obtain ⟨a, xs, rfl, hq, ha, hz⟩ := r.tupl et
      exact ⟨a, xs, rfl, seqT_mono f'.sub hq, p _ noG _ H' H0' M' q f' s (walkD_enumT hq ha hz)⟩
/-- enumerate(l), l a list -/
theorem walkD_enumL {K : PySem.W.Frag} {a : Addr} {xs : List V} {ds : List D} {H0 : F} (hs : SqL K H0.ice a xs) (ha : RpAll K H0 xs ds) (hz : ds.length ≤ sizeLine) : DWalk K (Ite K a) (enumD 0 ds) noG H0 := by
  have hl : (enumD 0 ds).length = xs.length := by rw [enumD_len, ha.length]
  refine ⟨⟨fun H => SqL K H a xs, YPair (fun i => some (.int (i : Nat))) (fun i => xs[i]?), by rw [hl]; exact walk_enum, fun H' H0' M' f s _ => f.sub.seq (s.seq hs), fun i H x H' H0' M' d hd f s _ y => ?_⟩, by rw [enumD_len]; exact hz⟩
  obtain ⟨T, u, v, rfl, hT, rfl, hu, hx⟩ := y
  cases hu
  obtain ⟨d', e1, r⟩ := ha.getV hx
  rw [enumD_get, e1] at hd
  simp only [Option.map_some, Option.some.injEq, Nat.zero_add] at hd
  subst hd
  have s0 : F.le H0' (H0'.put T (.ice (.tup [.int (i : Nat), v]))) := F.le_put (f.fresh hT).1
  exact ⟨_, f.ice hT, s0, .tup (F.ice_eq F.put_same) (.cons (.int _) (.cons ((r.mono' s).mono s0) .nil)) two_le⟩
def iEnL (w : WA) : WI := fun Γ M post => w Γ M fun ds M1 => one ds fun d => match d with
  | .lst l => post (enumD 0 l) noG M1
  | _ => False
theorem di_enumL (hm : X.mg "enumerate" = none) (ha : DA X [e] w) (hg : Gl X "enumerate" := by rfl) (hs : starEach [e] X.env = [(false, eval e X.env)] := by rfl) : DI X (.Tuple elts kk tpos) (.Call (.Name "enumerate" p) [e] [] pos) (iEnL w) :=
  PI.weak (pi_enum hg hm ha hs) fun σ H R h => by
    obtain ⟨H0, Γ, M, post, f, en, hw, p⟩ := h
    refine ⟨H0, Γ, M, _, f, en, hw, fun vs ds H' H0' M' q f' s r => ?_⟩
    obtain ⟨d, rfl, q⟩ := one_of q
    cases r with
    | cons r t =>
      cases t
      cases r with
      | @lst a xs _ hq ha hz => exact ⟨a, xs, rfl, .of (f'.sub _ _ hq), p _ noG _ H' H0' M' q f' s (walkD_enumL (.of hq) ha hz)⟩
      | _ => exact q.elim
end
end FD

namespace FD
open PySem PySem.Spec PyProof.Rows L2
/-! ### dicts -/
theorem hu_of {k : Nat} {A : Around} (r : Room k A) : A.units + 1 < cLine := by have := r.units; omega
def keyK : D → Option Key
  | .int i => some (.inl i)
  | .str s => some (.inr s)
  | _ => none
def keysK : List D → Option (List Key)
  | [] => some []
  | d :: l => match keyK d, keysK l with
    | some k, some ks => some (k :: ks)
    | _, _ => none
def keyT : D → Option (List Key)
  | .tup l => keysK l
  | _ => none
def valD {κ : Type} [DecidableEq κ] : List (κ × D) → κ → Option D
  | [], _ => none
  | (x, d) :: l, k => if x = k then some d else valD l k
def hasD {κ : Type} [DecidableEq κ] (l : List (κ × D)) (k : κ) : Bool := (valD l k).isSome
def repD {κ : Type} [DecidableEq κ] (k : κ) (v : D) : List (κ × D) → List (κ × D)
  | [] => []
  | (x, d) :: l => (if x = k then (x, v) else (x, d)) :: repD k v l
def putD {κ : Type} [DecidableEq κ] (l : List (κ × D)) (k : κ) (v : D) : List (κ × D) := if (valD l k).isSome = true then repD k v l else l ++ [(k, v)]
section
variable {κ : Type} [DecidableEq κ] {K : PySem.W.Frag} {H : F}
theorem keyK_rp {v : V} {d : D} {k : Key} (r : Rp K H v d) (e : keyK d = some k) : v = kV k := by
  cases r <;> first | cases e | skip
  all_goals rfl
theorem keysK_rp : ∀ {vs : List V} {ds : List D} {ks : List Key}, RpAll K H vs ds → keysK ds = some ks → vs = ks.map kV
  | _, _, _, .nil, e => by cases e; rfl
  | _, _, ks, .cons (d := d) (ds := ds) r t, e => by
    unfold keysK at e
    split at e
    · rename_i k ks' e1 e2
      cases e
      rw [keyK_rp r e1, keysK_rp t e2]; rfl
    · cases e
theorem rp_val {xs : List (κ × V)} {ds : List (κ × D)} (r : RpKV K H xs ds) (k : κ) : RelLk K H (valV xs k) (valD ds k) := by
  unfold RpKV at r
  induction r with
  | nil => exact True.intro
  | @cons p q ps qs h t ih =>
    obtain ⟨x, v⟩ := p
    obtain ⟨y, d⟩ := q
    obtain ⟨e, r⟩ := h
    have e : x = y := e
    subst e
    unfold valD
    by_cases h : x = k
    · rw [valV_pos (p := (x, v)) h, if_pos h]; exact r
    · rw [valV_neg (p := (x, v)) h, if_neg h]; exact ih
theorem RelLk.isSome {o : Option V} {u : Option D} (r : RelLk K H o u) : o.isSome = u.isSome := by
  cases o <;> cases u <;> first | rfl | exact r.elim
theorem rp_rep {xs : List (κ × V)} {ds : List (κ × D)} (r : RpKV K H xs ds) (k : κ) {v : V} {d : D} (rv : Rp K H v d) : RpKV K H (xs.map fun kv => if kv.1 = k then (kv.1, v) else kv) (repD k d ds) := by
  unfold RpKV at r
  induction r with
  | nil => exact .nil
  | @cons p q ps qs h t ih =>
    obtain ⟨x, v'⟩ := p
    obtain ⟨y, d'⟩ := q
    obtain ⟨e, r⟩ := h
    have e : x = y := e
    subst e
    refine .cons ?_ ih
    have r : Rp K H v' d' := r
    by_cases h : x = k <;> simp [h] <;> assumption
theorem kv_snoc {xs : List (κ × V)} {ds : List (κ × D)} {p : κ × V} {q : κ × D} (r : RpKV K H xs ds) (h : p.1 = q.1 ∧ Rp K H p.2 q.2) : RpKV K H (xs ++ [p]) (ds ++ [q]) := Paired.snoc r h
theorem rp_put {xs : List (κ × V)} {ds : List (κ × D)} (r : RpKV K H xs ds) (k : κ) {v : V} {d : D} (rv : Rp K H v d) : RpKV K H (putK xs k v) (putD ds k d) := by
  have e : (xs.any fun kv => decide (kv.1 = k)) = (valD ds k).isSome := by rw [valV_any, (rp_val r k).isSome]
  unfold putK putD
  rw [e]
  by_cases q : (valD ds k).isSome = true
  · rw [if_pos q, if_pos q]; exact rp_rep r k rv
  · rw [if_neg q, if_neg q]; exact kv_snoc r ⟨rfl, rv⟩
end
/-- the dict d at the key y -/
def dAt (M : Mem) (d y : D) (c : Option D → Prop) : Prop := match d with
  | .ptr a => match M a with
    | some (.dK l) => got (keyK y) fun k => c (valD l k)
    | some (.dT l) => got (keyT y) fun k => c (valD l k)
    | _ => False
  | .dcK l => got (keyK y) fun k => c (valD l k)
  | .dcT l => got (keyT y) fun k => c (valD l k)
  | _ => False
theorem dAt_of {K : PySem.W.Frag} {H : Hp} {H0 : F} {M : Mem} {v u : V} {d y : D} {c : Option D → Prop} (f : Fr K H H0 M) (r : Rp K H0 v d) (ry : Rp K H0 u y) (h : dAt M d y c) :
    ∃ a o o', v = .ref a ∧ DGet H a u o ∧ RelLk K H0 o o' ∧ c o' := by
  cases d with
  | dcK l =>
    obtain ⟨k, hk, h2⟩ := got_of h
    cases r with
    | @dcK a xs _ hob he ha =>
      refine ⟨a, _, _, rfl, ?_, rp_val (kv_of he ha) k, h2⟩
      rw [keyK_rp ry hk]
      exact DGet.k (f.sub _ _ hob)
  | dcT l =>
    obtain ⟨k, hk, h2⟩ := got_of h
    cases r with
    | @dcT a xs _ hob he ha =>
      cases ry with
      | @tup b ys ds hb hy hz =>
        have e := keysK_rp hy hk
        subst e
        exact ⟨a, _, _, rfl, DGet.t (f.sub _ _ hob) (f.sub _ _ hb), rp_val (kv_of he ha) k, h2⟩
      | _ => cases hk
  | ptr a =>
    have h : (match M a with
      | some (.dK l) => got (keyK y) fun k => c (valD l k)
      | some (.dT l) => got (keyT y) fun k => c (valD l k)
      | _ => False) := h
    cases q : M a with
    | none => rw [q] at h; exact h.elim
    | some mo =>
      rw [q] at h
      obtain ⟨_, ob, hob, ro⟩ := f.mem a _ q
      cases mo with
      | dK l =>
        obtain ⟨k, hk, h2⟩ := got_of h
        cases r
        cases ro with
        | @dK xs _ kv =>
          refine ⟨a, _, _, rfl, ?_, rp_val kv k, h2⟩
          rw [keyK_rp ry hk]
          exact DGet.k hob
      | dT l =>
        obtain ⟨k, hk, h2⟩ := got_of h
        cases r
        cases ro with
        | @dT xs _ kv =>
          cases ry with
          | @tup b ys ds hb hy hz =>
            have e := keysK_rp hy hk
            subst e
            exact ⟨a, _, _, rfl, DGet.t hob (f.sub _ _ hb), rp_val kv k, h2⟩
          | _ => cases hk
      | _ => exact h.elim
  | _ => exact h.elim
section
variable {X : Cx} {o i e c : Expr} {we wo wi : WE} {pos pos' : Pos}
def gDIn : G2 := fun M y d post => dAt M d y fun r => post (.bl r.isSome) M
def gDNin : G2 := fun M y d post => dAt M d y fun r => post (.bl (!r.isSome)) M
theorem o_din {k : Nat} (hr : Room k X.A) : OpR X (compareOp .In) (rU2 X.K gDIn) := fun pins s σ H y x v u Q I ry rx h => by
  obtain ⟨H0, M, dy, dx, post, f, r1, r2, q, p⟩ := h
  obtain ⟨a, ov, od, rfl, g, rl, q⟩ := dAt_of f r2 r1 q
  obtain rfl : u = Value.ref a := rx
  refine d_in (hu_of hr) I g ry fun s3 I3 => ⟨.bl ov.isSome, H, I3, rfl, ?_⟩
  rw [rl.isSome]
  exact p.now f (.bl _) q
theorem o_dnin {k : Nat} (hr : Room k X.A) : OpR X (compareOp .NotIn) (rU2 X.K gDNin) := fun pins s σ H y x v u Q I ry rx h => by
  obtain ⟨H0, M, dy, dx, post, f, r1, r2, q, p⟩ := h
  obtain ⟨a, ov, od, rfl, g, rl, q⟩ := dAt_of f r2 r1 q
  obtain rfl : u = Value.ref a := rx
  refine d_notIn (hu_of hr) I g ry fun s3 I3 => ⟨.bl (!ov.isSome), H, I3, rfl, ?_⟩
  rw [rl.isSome]
  exact p.now f (.bl _) q
def wDGet (wo wi : WE) : WE := fun Γ M post => wo Γ M fun d M1 => wi Γ M1 fun y M2 => dAt M2 d y fun r => got r fun z => post z M2
theorem de_dget {k : Nat} (hr : Room k X.A) (ho : DE X o wo) (hi : DE X i wi) (hs : NoSl i := by exact fun _ _ => rfl) : DE X (.Subscript o i pos) (wDGet wo wi) :=
  PE.weak (pe_dget (hu_of hr) ho hi hs) fun σ H Q h => by
    refine up_bind (k := fun d Γ M1 post => wi Γ M1 fun y M2 => dAt M2 d y fun r => got r fun z => post z M2) h fun v d H1 H0 Γ M post f en r q p => ⟨H0, Γ, M, _, f, en, q, fun u y H2 H02 M2 q2 f2 s2 r2 => ?_⟩
    obtain ⟨a, ov, od, rfl, g, rl, q2⟩ := dAt_of f2 (r.mono s2) r2 q2
    obtain ⟨z, rfl, q2⟩ := got_of q2
    obtain ⟨w, rfl, rw⟩ := rl.some_of
    exact ⟨a, w, rfl, g, (p.mono s2).now f2 rw q2⟩
/-- d[y] = z -/
def dPut (M : Mem) (d y z : D) (c : Mem → Prop) : Prop := match d with
  | .ptr a => match M a with
    | some (.dK l) => got (keyK y) fun k => l.length < 16777216 ∧ c (M.upd a (.dK (putD l k z)))
    | some (.dT l) => got (keyT y) fun k => l.length < 16777216 ∧ c (M.upd a (.dT (putD l k z)))
    | _ => False
  | _ => False
theorem lt_line {n : Nat} (h : n < 16777216) : n < sizeLine := by rw [sizeLine_eq]; exact h
theorem dPut_of {K : PySem.W.Frag} {H : Hp} {H0 : F} {M : Mem} {v u w : V} {d y z : D} {c : Mem → Prop} (f : Fr K H H0 M) (r : Rp K H0 v d) (ry : Rp K H0 u y) (rz : Rp K H0 w z) (h : dPut M d y z c) :
    ∃ a H' M', v = .ref a ∧ DPut H a u w H' ∧ Fr K H' H0 M' ∧ c M' := by
  cases d with
  | ptr a =>
    have h : (match M a with
      | some (.dK l) => got (keyK y) fun k => l.length < 16777216 ∧ c (M.upd a (.dK (putD l k z)))
      | some (.dT l) => got (keyT y) fun k => l.length < 16777216 ∧ c (M.upd a (.dT (putD l k z)))
      | _ => False) := h
    cases q : M a with
    | none => rw [q] at h; exact h.elim
    | some mo =>
      rw [q] at h
      obtain ⟨_, ob, hob, ro⟩ := f.mem a _ q
      cases mo with
      | dK l =>
        obtain ⟨k, hk, hl, h2⟩ := got_of h
        cases r
        cases ro with
        | @dK xs _ kv =>
          refine ⟨a, _, _, rfl, ?_, f.put q (.dK (rp_put kv k rz)), h2⟩
          rw [keyK_rp ry hk]
          exact DPut.k hob (by rw [kv_len kv]; exact lt_line hl)
      | dT l =>
        obtain ⟨k, hk, hl, h2⟩ := got_of h
        cases r
        cases ro with
        | @dT xs _ kv =>
          cases ry with
          | @tup b ys ds hb hy hz =>
            have e := keysK_rp hy hk
            subst e
            exact ⟨a, _, _, rfl, DPut.t hob (f.sub _ _ hb) (by rw [kv_len kv]; exact lt_line hl), f.put q (.dT (rp_put kv k rz)), h2⟩
          | _ => cases hk
      | _ => exact h.elim
  | _ => exact h.elim
def sDput (wo wi wv : WE) : WS := fun E Γ M => wv Γ M fun z M1 => wo Γ M1 fun d M2 => wi Γ M2 fun y M3 => dPut M3 d y z fun M4 => E.nx Γ M4
theorem ds_dput {value : Expr} {wv : WE} {k : Nat} (hr : Room k X.A) (ho : DE X o wo) (hi : DE X i wi) (hv : DE X value wv) (hs : swapsWith value (some (.Subscript o i pos')) pos.line X.env = pure false := by rfl) :
    DS X (.Assign [.Subscript o i pos'] value pos) (sDput wo wi wv) :=
  PS.weak (ps_dput (hu_of hr) ho hi hv hs) fun E σ H h => by
    obtain ⟨H0, Γ, M, post, f, en, hw, p⟩ := h
    refine ⟨H0, Γ, M, _, f, en, hw, fun v d H1 H01 M1 q1 f1 s1 r1 => ⟨H01, Γ, M1, _, f1, en.mono s1, q1, fun v2 d2 H2 H02 M2 q2 f2 s2 r2 => ⟨H02, Γ, M2, _, f2, (en.mono s1).mono s2, q2, fun v3 d3 H3 H03 M3 q3 f3 s3 r3 => ?_⟩⟩⟩
    obtain ⟨a, H', M', rfl, dp, f', q⟩ := dPut_of f3 (r2.mono s3) r3 ((r1.mono s2).mono s3) q3
    exact ⟨a, H', rfl, dp, p.nx σ Γ H' H03 M' q f' ((s1.trans s2).trans s3) (((en.mono s1).mono s2).mono s3)⟩
def wDNewK : WE := fun _ M post => ∀ p, M p = none → post (.ptr p) (M.upd p (.dK []))
def wDNewT : WE := fun _ M post => ∀ p, M p = none → post (.ptr p) (M.upd p (.dT []))
theorem de_dnewK : DE X (.Dict [] [] pos) wDNewK :=
  PE.weak pe_dnewK fun σ H Q h => by
    obtain ⟨H0, Γ, M, post, f, en, hw, p⟩ := h
    exact fun a ha => p _ _ _ H0 _ (hw a (f.fresh ha).2) (f.new ha (.dK .nil)) (F.le.refl _) (.ptr a)
theorem de_dnewT : DE X (.Dict [] [] pos) wDNewT :=
  PE.weak pe_dnewT fun σ H Q h => by
    obtain ⟨H0, Γ, M, post, f, en, hw, p⟩ := h
    exact fun a ha => p _ _ _ H0 _ (hw a (f.fresh ha).2) (f.new ha (.dT .nil)) (F.le.refl _) (.ptr a)
end
end FD

set_option maxHeartbeats 2000000
namespace FD
open PySem PySem.Spec PyProof.Rows L2
/-! ### dict comprehensions, keys of any kind we hold -/
theorem put_any {X : Cx} {pins : List (Addr × Obj)} {σ : L2.St} {H H' : Hp} {s : Shared} {E : Value → Shared → Prop} {a : Addr} {y v : V} {u r : Value} {Q : Unit → Shared → Prop} (hu : X.A.units + 1 < cLine) (I : Inv X pins σ H s)
    (g : DPut H a y v H') (ry : RelV y u) (rv : RelV v r) (h : ∀ s', Inv X pins σ H' s' → Q () s') : wpAny (model X.prog X.w) X.A (dictSet a u r) Q E s := by
  rcases g with ⟨kvs, k, e, ey, l, eH⟩ | ⟨kvs, k, b, e, ey, eb, l, eH⟩
  · subst ey eH
    exact d_dictSet I e l ry rv h
  · subst ey eH
    cases (show u = Value.ref b from ry)
    obtain ⟨z, hd, xs, rel, dd⟩ := dt_of I.hok e
    have hl : (putK kvs k v).length ≤ sizeLine := by have := length_putK kvs k v; omega
    have room : (tupleKind (mixKind X.prog X.w)).room X.A := (show X.A.units < cLine by omega)
    refine wpAny_dictSet_heap (hsz := by rw [← Paired.length rel]; exact z) room (key_of I.hok eb) dd fun h' dd' hs => h _ ?_
    obtain ⟨q, es, ep, hq, h2, h3, h4, _, h5⟩ := dd'
    refine d_write I (by rw [e]; trivial) hs ⟨q, hq⟩ ⟨hl, hd, _, (rel.put k eb rv).keeps fun c ys ec => ?_, q, es, ep, hq, h2, h3, h4, h5⟩
    have nc : c ≠ a := fun z => by rw [z, e] at ec; cases ec
    rw [upd_ne nc]; exact ec
/-- the walk of the block; emp: the dict while it is new -/
def tDx (emp : HO) (wi : TI) (g : TG) (tt : TT) (tk tv : TE) (vs : List Nat) : TE := fun σ H Q => wi σ H fun J H1 => ∀ a, H1 a = none → ∃ W : Nat → Nat → Hp → Prop, (∃ m, W 0 m (upd H1 a emp)) ∧ ∀ i m Hi, W i m Hi →
  (J.stop i Hi ∧ Q (.ref a) Hi) ∨ (J.go i Hi ∧ ∃ Nx : Hp → Prop, (∀ Hn, Nx Hn → ∃ m', m' < m ∧ W (i + 1) m' Hn) ∧ ∀ x Hx, J.yld i Hi x Hx → g x (wipe σ vs) Hx fun σ2 H2 => wipe σ2 vs = wipe σ vs ∧ tt σ2 H2 fun b H3 =>
    if b = true then tk σ2 H3 fun y H4 => tv σ2 H4 fun z H5 => ∃ H6, DPut H5 a y z H6 ∧ Nx H6 else Nx H3)
def isEmp (emp : HO) : Prop := emp = .dK [] ∨ emp = .dT []
theorem emp_ok {emp : HO} (he : isEmp emp) {P : Program} {w : World} {H : Hp} (h : Heap) (hb : sysModules < h.objs.size) : ObjOk P w H (h.push { cls := .type "dict", data := .dict #[] }) h.objs.size emp := by
  rcases he with rfl | rfl
  · exact dk_empty h hb
  · exact dt_empty h hb
section
variable {X : Cx} {kx vx tg iter : Expr} {ifs : List Expr} {scope : Scope} {own : List (Str × Nat)} {pos : Pos} {wi : TI} {g : TG} {tt : TT} {tk tv : TE}
abbrev Bk (X : Cx) (scope : Scope) (Pr : Cx → Prop) : Prop := ∀ (s : Shared) (H : Hp) (C : Addr) (cl : List (Str × Addr)) (fp : List Addr), Pr (X.blk s H scope (compEnvC scope cl C X.env) fp)
theorem pe_dx {emp : HO} (he : isEmp emp) (hu : X.A.units + 1 < cLine) (calm : X.calm = true) (nd : X.N.Nodup) (di : PI X tg iter wi) (ok : BlkOk X.N X.env.scope scope own) (dg : Bk X scope fun Y => PG Y tg g) (dt : Bk X scope fun Y => PTs Y ifs tt)
    (dk : Bk X scope fun Y => PE Y kx tk) (dv : Bk X scope fun Y => PE Y vx tv) (hfs : ∀ x, foldedSetIterable iter X.env x = pure x := by intro _; rfl) :
    PE X (.DictComp kx vx [⟨tg, iter, ifs, 0⟩] scope pos) (tDx emp wi g tt tk tv (own.map (·.2))) := by
  refine ⟨fun pins s σ H Q I h => ?_⟩
  rw [arm_eval_DictComp]
  have frees : ∀ y ∈ scope.names, y.2 = .free → ∃ c, X.env.cells.lookup y.1 = some c := fun y hy e => I.ok.has _ (ok.free y hy e)
  refine wpAny_comprehension_free rfl hfs (closure_ok frees) ok.kind (fun y hy e => by rw [ok.uniq y hy, e]) (thn (di.run pins s σ H _ I h) fun xv sa hx => thn hx fun itv sb hb => ?_)
  obtain ⟨it, fp, tn, J, Hb, rfl, Ib, T, stb, fb, q⟩ := hb
  refine wpAny_newObj_type (newEnv_comp ?_)
  have low : ∀ b ∈ fp, b < sb.heap.objs.size := fun b hb => by
    obtain ⟨o, e, _⟩ := T.obj _ _ stb b hb
    exact Heap.lt_size e
  generalize hD : sb.heap.objs.size = a
  have fa : Hb a = none := Ib.hok.fresh (Nat.le_of_eq hD)
  obtain ⟨W, ⟨m0, w0⟩, turn⟩ := q a fa
  -- the new dict is laid
  generalize hsc : ({ sb with heap := sb.heap.push { cls := .type "dict", data := .dict #[] } } : Shared) = sc
  have hph : sc.heap = sb.heap.push { cls := .type "dict", data := .dict #[] } := by rw [← hsc]
  have Ic : Inv X pins σ (upd Hb a emp) sc := by
    rw [← hsc]
    refine Ib.laid (t' := sb.toks) (fun b o e => Heap.get?_push_of_some _ e) (Nat.le_of_eq hD) ?_
    rw [← hD]
    exact emp_ok he sb.heap Ib.big
  have fc : ∀ b ∈ fp, FpOk X pins (upd Hb a emp) b ∧ b < sc.heap.objs.size := fun b hb => by
    have lt := low b hb
    refine ⟨⟨?_, (fb b hb).2⟩, by rw [hph, Heap.size_push]; exact Nat.lt_succ_of_lt lt⟩
    have nb : b ≠ a := by rw [← hD]; exact Nat.ne_of_lt lt
    rw [upd_ne nb]; exact (fb b hb).1
  have stc : tn 0 sc.heap := T.keep _ _ _ stb fun b _ o e => by rw [hph]; exact Heap.get?_push_of_some _ e
  have Id := block_start Ic ok nd fc
  generalize hcl : cellsFrom (sc.heap.objs.size + 1) scope.names (cloFrom X.env.cells scope.names []) = cl at Id
  have kg := dg sc (upd Hb a emp) sc.heap.objs.size cl fp
  have kt := dt sc (upd Hb a emp) sc.heap.objs.size cl fp
  have kk := dk sc (upd Hb a emp) sc.heap.objs.size cl fp
  have kv := dv sc (upd Hb a emp) sc.heap.objs.size cl fp
  have nfp : ∀ b ∈ fp, (upd Hb a emp) b = none := fun b hb => (fc b hb).1.1
  refine (?_ : codeAny (model X.prog X.w) X.A (.compStart (.DictComp kx vx [⟨tg, iter, ifs, 0⟩] scope pos) 0 (.ref it) (.ref a) (compEnvC scope cl sc.heap.objs.size X.env)) (compPost (model X.prog X.w) X.A X.xe none (EP X pins σ Q) (.ref a) sc.heap.objs.size)
    { sc with heap := pushCells (sc.heap.push { cls := .type "dict", data := .dict #[] }) scope.names })
  generalize hce : compEnvC scope cl sc.heap.objs.size X.env = ce at Id kg kt kk kv ⊢
  have cL : ce.locals = sc.heap.objs.size := by subst hce; rfl
  generalize hHc : upd Hb a emp = Hc at Ic Id kg kt kk kv w0 nfp fc
  generalize hsd : ({ sc with heap := pushCells (sc.heap.push { cls := .type "dict", data := .dict #[] }) scope.names } : Shared) = sd at Id ⊢
  have std : tn 0 sd.heap := T.keep _ _ _ stc fun b _ o e => by rw [← hsd]; exact pushCells_keeps _ _ _ _ (Heap.get?_push_of_some _ e)
  have fpk : ∀ {σ' : L2.St} {H' : Hp} {s' : Shared}, Inv (X.blk sc Hc scope ce fp) [] σ' H' s' → (∀ b ∈ fp, H' b = none) → ∀ b ∈ fp, FpOk (X.blk sc Hc scope ce fp) [] H' b := fun {σ' H' s'} I' hn b hb =>
    ⟨hn b hb, (I'.ok.exf b hb).1, I'.ok.exfs b hb, .inl hb, fun x c e => (I'.ok.exf b hb).2 x c e, fun p hp => absurd (show p ∈ ([] : List (Addr × Obj)) ++ [] from hp) (by simp)⟩
  have loop : codeAny (model X.prog X.w) X.A (.compLoop (.DictComp kx vx [⟨tg, iter, ifs, 0⟩] scope pos) 0 (.ref it) (.ref a) ce) (compPost (model X.prog X.w) X.A X.xe none (EP X pins σ Q) (.ref a) sc.heap.objs.size) sd := by
    refine compLoop_anyD (fun n s' => ∃ i Hi, Inv (X.blk sc Hc scope ce fp) [] (wipe σ (own.map (·.2))) Hi s' ∧ tn i s'.heap ∧ (∀ b ∈ fp, Hi b = none) ∧ W i n Hi) ?_ m0 ⟨0, Hc, Id, std, nfp, w0⟩
    rintro n se ⟨i, Hi, Ie, ste, ne, we⟩
    rcases turn i n Hi we with ⟨stop, qq⟩ | ⟨go, Nx, hNx, step⟩
    · refine thnF (T.done (X.blk sc Hc scope ce fp) rfl rfl rfl calm i [] se _ Hi (fun _ _ => False) Ie (fpk Ie ne) ste stop) fun r sf ⟨hr, If⟩ => ?_
      subst hr
      have Iz : Inv X pins σ Hi sf := Ic.call' (ch := fp) If.os If.base If.hok If.bare fun b hb => let z := (fc b hb).1; ⟨z.2.2.2.1, z.2.1, z.2.2.2.2.1, z.2.2.2.2.2⟩
      have nC : Hi sc.heap.objs.size = none := by
        have z : Hi ce.locals = none := If.free
        rwa [cL] at z
      obtain ⟨m, hn, _⟩ := If.loc
      have hn : sf.heap.Ns ce.locals m := hn
      rw [cL] at hn
      refine ⟨m, hn, fun h2 sbt => ?_⟩
      obtain ⟨f0, f1, f2, f3, f4, f5⟩ := Ic.fpOk (Nat.le_refl _) nC
      exact ⟨.ref a, Hi, Iz.turned (t' := sf.toks) (fun b o hb e => (sbt.2 b hb).trans e) f0 f1 f3 f4 f5, rfl, qq⟩
    · refine thnF (T.item (X.blk sc Hc scope ce fp) rfl rfl rfl calm i [] se _ Hi (fun _ _ => False) Ie (fpk Ie ne) ste go) fun r sf ⟨u, hr, hf⟩ => ?_
      subst hr
      refine thnF hf fun _ s7 ⟨x, H7, I7, r7, y7, st7, n7⟩ => ?_
      refine thnF (kg.run _ s7 _ H7 x u _ (I7.pinned (fpk I7 n7) (T.obj _ _ st7)) r7 (step x H7 y7)) fun _ s8 ⟨σ8, H8, I8, hw8, q8⟩ => thnF (kt.run _ s8 σ8 H8 _ I8 q8) fun b s9 ⟨H9, I9, q9⟩ => ?_
      have back : ∀ {s' : Shared} {Hn : Hp}, Inv (X.blk sc Hc scope ce fp) ([] ++ pinsAt fp s7.heap) σ8 Hn s' → Nx Hn → ∃ m, m < n ∧ ∃ i Hi, Inv (X.blk sc Hc scope ce fp) [] (wipe σ (own.map (·.2))) Hi s' ∧ tn i s'.heap ∧ (∀ b ∈ fp, Hi b = none) ∧ W i m Hi := fun {s' Hn} I' nx => by
        obtain ⟨m', hm, w'⟩ := hNx Hn nx
        have pin' : ∀ b ∈ fp, ∀ o, s7.heap.get? b = some o → s'.heap.get? b = some o ∧ Hn b = none := fun b hb o e =>
          let z := I'.pin (b, o) (List.mem_append_right _ (List.mem_append_right _ (mem_pinsAt hb e)))
          ⟨z.1, z.2.1⟩
        have ll : (wipe σ (own.map (·.2))).length = σ8.length := by rw [← hw8, wipe_length]
        refine ⟨m', hm, i + 1, Hn, (I'.unpinned (pins := [])).weak ll (fun j v e => ?_), T.keep _ _ _ st7 fun b hb o e => (pin' b hb o e).1, fun b hb => ?_, w'⟩
        · rw [← hw8] at e; exact (wipe_some e).1
        · obtain ⟨o, e, _⟩ := T.obj _ _ st7 b hb
          exact (pin' b hb o e).2
      cases b with
      | false =>
        simp only [Bool.false_eq_true, if_false] at q9 ⊢
        exact back I9 q9
      | true =>
        simp only [if_true] at q9 ⊢
        exact thnF (kk.run _ s9 σ8 H9 _ I9 q9) fun z sg ⟨yk, Hg, Ig, rg, qg⟩ => thnF (kv.run _ sg σ8 Hg _ Ig qg) fun z2 sh ⟨yv, Hh, Ih, rh, Hp6, dp, nx⟩ => put_any (X := X.blk sc Hc scope ce fp) hu Ih dp rg rh fun sk Ik => back Ik nx
  exact codeAny_compStart_dict loop (T.self X.A 0 _ _ _ std loop)
end
end FD

namespace FD
open PySem PySem.Spec PyProof.Rows L2
section
variable {X : Cx} {kx vx tg iter elt : Expr} {ifs : List Expr} {scope : Scope} {own : List (Str × Nat)} {pos : Pos} {wi : WI} {gd : GD} {tt : WT} {tk tv te : WE}
/-! ### dict comprehensions over data -/
def wDc (emp : MO) (wi : WI) (gd : GD) (tt : WT) (tk tv : WE) : WE := fun Γ M post => wi Γ M fun items G M1 => ∀ p, M1 p = none → ∃ Pv : Nat → Mem → Prop, Pv 0 (M1.upd p emp) ∧ (∀ i M', Pv i M' → G M') ∧
  (∀ i d M', items[i]? = some d → Pv i M' → gd d Γ fun Γ2 => tt Γ2 M' fun b M3 => if b = true then tk Γ2 M3 fun y M4 => tv Γ2 M4 fun z M5 => dPut M5 (.ptr p) y z fun M6 => Pv (i + 1) M6 else Pv (i + 1) M3) ∧
  ∀ M', Pv items.length M' → post (.ptr p) M'
theorem up_dx {emp : HO} {me : MO} (hem : ∀ H0, RpO X.K H0 me emp) {g : TG} {vs : List Nat} (tg : Tgt X.K g vs gd) {σ : L2.St} {H : Hp} {Q : VK} (h : up X.K (wDc me wi gd tt tk tv) σ H Q) : tDx emp (upI X.K wi) g (upT X.K tt) (up X.K tk) (up X.K tv) vs σ H Q := by
  obtain ⟨H0, Γ, M, post, f, en, hw, p⟩ := h
  refine ⟨H0, Γ, M, _, f, en, hw, fun items G J H1 H01 M1 q f1 s1 dw a ha => ?_⟩
  obtain ⟨Pv, h0, hG, hstep, hend⟩ := q a (f1.fresh ha).2
  obtain ⟨⟨Gv, Y, wk, gv, yl⟩, fit⟩ := dw
  refine ⟨fun i m Hi => m = items.length - i ∧ i ≤ items.length ∧ ∃ H0' M', Fr X.K Hi H0' M' ∧ F.le H01 H0' ∧ Pv i M', ⟨items.length, by simp, Nat.zero_le _, H01, _, f1.new ha (hem H01), F.le.refl _, h0⟩, ?_⟩
  rintro i m Hi ⟨rfl, hi, H0', M', f', s', pv⟩
  have gg := gv Hi H0' M' f' s'.ice (hG i M' pv)
  by_cases hlt : i < items.length
  · refine .inr ⟨wk.goes i Hi hlt gg, fun Hn => ∃ H0' M', Fr X.K Hn H0' M' ∧ F.le H01 H0' ∧ Pv (i + 1) M', fun Hn ⟨H2, M2, f2, s2, pv2⟩ => ⟨items.length - (i + 1), by omega, rfl, hlt, H2, M2, f2, s2, pv2⟩, fun x Hx y => ?_⟩
    have y := wk.yields i Hi x Hx hlt gg y
    have hd : items[i]? = some items[i] := List.getElem?_eq_getElem hlt
    obtain ⟨H0'', f'', s'', r⟩ := yl i Hi x Hx H0' M' _ hd f' s'.ice (hG i M' pv) y
    refine tg.run x _ σ Hx H0'' M' Γ _ _ f'' ((en.mono s1).mono (s'.trans s'')) r (hstep i _ M' hd pv) fun σ2 Γ2 hw2 e2 q2 => ⟨hw2, H0'', Γ2, M', _, f'', e2, q2, fun b H3 H03 M3 q3 f3 s3 => ?_⟩
    cases b with
    | false =>
      simp only [Bool.false_eq_true, if_false] at q3 ⊢
      exact ⟨H03, M3, f3, (s'.trans s'').trans s3, q3⟩
    | true =>
      simp only [if_true] at q3 ⊢
      refine ⟨H03, Γ2, M3, _, f3, e2.mono s3, q3, fun v4 d4 H4 H04 M4 q4 f4 s4 r4 => ⟨H04, Γ2, M4, _, f4, (e2.mono s3).mono s4, q4, fun v5 d5 H5 H05 M5 q5 f5 s5 r5 => ?_⟩⟩
      obtain ⟨a', H', M6, ea, dp, f6, q6⟩ := dPut_of f5 (.ptr a) (r4.mono s5) r5 q5
      cases ea
      exact ⟨H', dp, H05, M6, f6, (((s'.trans s'').trans s3).trans s4).trans s5, q6⟩
  · have e : i = items.length := by omega
    subst e
    exact .inl ⟨wk.stops Hi gg, p _ _ Hi H0' M' (hend M' pv) f' (s1.trans s') (.ptr a)⟩
theorem de_dcK {g : TG} {k : Nat} (hr : Room k X.A) (hc : X.calm = true) (hN : X.N.Nodup) (hi : DI X tg iter wi) (ok : BlkOk X.N X.env.scope scope own) (tgt : Tgt X.K g (own.map (·.2)) gd) (hg : Bk X scope fun Y => PG Y tg g) (ht : Bk X scope fun Y => DTs Y ifs tt)
    (hk : Bk X scope fun Y => DE Y kx tk) (hv : Bk X scope fun Y => DE Y vx tv) (hs : ∀ x, foldedSetIterable iter X.env x = pure x := by intro _; rfl) : DE X (.DictComp kx vx [⟨tg, iter, ifs, 0⟩] scope pos) (wDc (.dK []) wi gd tt tk tv) :=
  PE.weak (pe_dx (.inl rfl) (hu_of hr) hc hN hi ok hg ht hk hv hs) fun _ _ _ h => up_dx (fun _ => .dK .nil) tgt h
theorem de_dcT {g : TG} {k : Nat} (hr : Room k X.A) (hc : X.calm = true) (hN : X.N.Nodup) (hi : DI X tg iter wi) (ok : BlkOk X.N X.env.scope scope own) (tgt : Tgt X.K g (own.map (·.2)) gd) (hg : Bk X scope fun Y => PG Y tg g) (ht : Bk X scope fun Y => DTs Y ifs tt)
    (hk : Bk X scope fun Y => DE Y kx tk) (hv : Bk X scope fun Y => DE Y vx tv) (hs : ∀ x, foldedSetIterable iter X.env x = pure x := by intro _; rfl) : DE X (.DictComp kx vx [⟨tg, iter, ifs, 0⟩] scope pos) (wDc (.dT []) wi gd tt tk tv) :=
  PE.weak (pe_dx (.inr rfl) (hu_of hr) hc hN hi ok hg ht hk hv hs) fun _ _ _ h => up_dx (fun _ => .dT .nil) tgt h
/-! ### two fors -/
def t1w (i j : Nat) : GD := fun d Γ post => post ((Γ.set j none).set i (some d))
theorem tgt1w {K : PySem.W.Frag} {i j : Nat} (hij : i ≠ j) : Tgt K (gName i) [i, j] (t1w i j) := by
  refine ⟨fun v d σ H H0 M Γ post Q f e r w q => q _ _ ?_ ?_ w⟩
  · show (((((σ.set j none).set i none).set i (some v)).set j none).set i none) = (σ.set j none).set i none
    rw [List.set_set, List.set_comm _ _ hij, List.set_set, List.set_set]
  · have z := ((e.unset j).unset i).set i r
    have e1 : ((Γ.set j none).set i none).set i (some d) = (Γ.set j none).set i (some d) := List.set_set ..
    rw [e1] at z
    exact z
def wLc2 (wi : WI) (gd : GD) (tt : WT) (wj : WI) (ge : GD) (tu : WT) (te : WE) : WE := fun Γ M post => wi Γ M fun items G M1 => ∃ Pv : Nat → List D → Mem → Prop, Pv 0 [] M1 ∧ (∀ i acc M', Pv i acc M' → G M') ∧
  (∀ i d acc M', items[i]? = some d → Pv i acc M' → gd d Γ fun Γ2 => tt Γ2 M' fun b M3 => if b = true then wj Γ2 M3 fun jtems G' M4 => ∃ Pw : Nat → List D → Mem → Prop, Pw 0 acc M4 ∧ (∀ j acc M', Pw j acc M' → G' M') ∧
      (∀ j d acc M', jtems[j]? = some d → Pw j acc M' → ge d Γ2 fun Γ3 => tu Γ3 M' fun b M5 => if b = true then te Γ3 M5 fun y M6 => acc.length < 16777216 ∧ Pw (j + 1) (acc ++ [y]) M6 else Pw (j + 1) acc M5) ∧
      ∀ acc M', Pw jtems.length acc M' → Pv (i + 1) acc M'
    else Pv (i + 1) acc M3) ∧
  ∀ acc M', Pv items.length acc M' → post (.lst acc) M'
theorem le_over {h h1 h2 : F} {a : Addr} {o : RO} (n : h a = none) (s : h.le h1) (hp : ∀ b, b ≠ a → h2 b = h1 b) : h.le h2 := fun b u e => by
  have nb : b ≠ a := fun z => by rw [z, n] at e; cases e
  rw [hp b nb]; exact s b u e
theorem up_lc2 {wj : WI} {ge : GD} {tu : WT} {g g1 : TG} {vs vs1 : List Nat} (tgt : Tgt X.K g vs gd) (tgt1 : Tgt X.K g1 vs1 ge) {σ : L2.St} {H : Hp} {Q : VK} (h : up X.K (wLc2 wi gd tt wj ge tu te) σ H Q) :
    tLc2 (upI X.K wi) g (upT X.K tt) (upI X.K wj) g1 (upT X.K tu) (up X.K te) vs vs1 σ H Q := by
  obtain ⟨H0, Γ, M, post, f, en, hw, p⟩ := h
  refine ⟨H0, Γ, M, _, f, en, hw, fun items G J H1 H01 M1 q f1 s1 dw D hD => ?_⟩
  obtain ⟨Pv, h0, hG, hstep, hend⟩ := q
  obtain ⟨⟨Gv, Y, wk, gv, yl⟩, fit⟩ := dw
  have hD0 := (f1.fresh hD).1
  -- what holds between the turns
  let B : (List FD.D → Mem → Prop) → Hp → Prop := fun Z Hi => ∃ H0' M' acc xs, Fr X.K Hi H0' M' ∧ F.le H01 H0' ∧ H0' D = some (.res (.lst xs)) ∧ RpAll X.K H0' xs acc ∧ acc.length ≤ 16777216 ∧ Z acc M'
  refine ⟨fun i m Hi => m = items.length - i ∧ i ≤ items.length ∧ B (Pv i) Hi, ⟨items.length, by simp, Nat.zero_le _, H01.put D (.res (.lst [])), M1, [], [], f1.hold hD, F.le_put hD0, F.put_same, .nil, Nat.zero_le _, h0⟩, ?_⟩
  rintro i m Hi ⟨rfl, hi, H0', M', acc, xs, f', s', hr, ra, hl, pv⟩
  have gg := gv Hi H0' M' f' s'.ice (hG i acc M' pv)
  by_cases hlt : i < items.length
  · refine .inr ⟨wk.goes i Hi hlt gg, B (Pv (i + 1)), fun Hn z => ⟨items.length - (i + 1), by omega, rfl, hlt, z⟩, fun x Hx y => ?_⟩
    have y := wk.yields i Hi x Hx hlt gg y
    have hd : items[i]? = some items[i] := List.getElem?_eq_getElem hlt
    obtain ⟨H0'', f'', s'', r⟩ := yl i Hi x Hx H0' M' _ hd f' s'.ice (hG i acc M' pv) y
    refine tgt.run x _ σ Hx H0'' M' Γ _ _ f'' ((en.mono s1).mono (s'.trans s'')) r (hstep i _ acc M' hd pv) fun σ2 Γ2 hw2 e2 q2 => ⟨hw2, H0'', Γ2, M', _, f'', e2, q2, fun b H3 H03 M3 q3 f3 s3 => ?_⟩
    have hr3 : H03 D = some (.res (.lst xs)) := s3 _ _ (s'' _ _ hr)
    have ra3 := (ra.mono s'').mono s3
    cases b with
    | false =>
      simp only [Bool.false_eq_true, if_false] at q3 ⊢
      exact ⟨H03, M3, acc, xs, f3, (s'.trans s'').trans s3, hr3, ra3, hl, q3⟩
    | true =>
      simp only [if_true] at q3 ⊢
      refine ⟨H03, Γ2, M3, _, f3, e2.mono s3, q3, fun jtems G' J1 H4 H04 M4 q4 f4 s4 dw1 => ?_⟩
      obtain ⟨Pw, w0, wG, wstep, wend⟩ := q4
      obtain ⟨⟨Gv1, Y1, wk1, gv1, yl1⟩, fit1⟩ := dw1
      have sAll : F.le H01 H04 := ((s'.trans s'').trans s3).trans s4
      -- what stood at the start of this inner walk, but for D
      let B1 : (List FD.D → Mem → Prop) → Hp → Prop := fun Z Hi => ∃ H0' M' acc xs, Fr X.K Hi H0' M' ∧ (∀ b u, b ≠ D → H04 b = some u → H0' b = some u) ∧ H0' D = some (.res (.lst xs)) ∧ RpAll X.K H0' xs acc ∧ acc.length ≤ 16777216 ∧ Z acc M'
      have over1 : ∀ {K1 : F}, (∀ b u, b ≠ D → H04 b = some u → K1 b = some u) → F.le H01 K1 := fun {K1} k b u e => by
        have nb : b ≠ D := fun z => by rw [z, hD0] at e; cases e
        exact k b u nb (sAll b u e)
      refine ⟨fun j n Hj => n = jtems.length - j ∧ j ≤ jtems.length ∧ B1 (Pw j) Hj, ⟨jtems.length, by simp, Nat.zero_le _, H04, M4, acc, xs, f4, fun b u _ e => e, s4 _ _ hr3, ra3.mono s4, hl, w0⟩, ?_⟩
      rintro j n Hj ⟨rfl, hj, K0, N', ac, ys, fk, sk, hrk, rk, lk, pw⟩
      -- the inner walk sees H04 only through what is frozen
      have iceK : Same H04.ice K0.ice := fun b u e => by
        have e := F.ice_of e
        have nb : b ≠ D := fun z => by rw [z, s4 _ _ hr3] at e; cases e
        exact F.ice_eq (sk b _ nb e)
      have gg1 := gv1 Hj K0 N' fk iceK (wG j ac N' pw)
      by_cases hlt1 : j < jtems.length
      · refine .inr ⟨wk1.goes j Hj hlt1 gg1, B1 (Pw (j + 1)), fun Hn z => ⟨jtems.length - (j + 1), by omega, rfl, hlt1, z⟩, fun x1 Hx1 y1 => ?_⟩
        have y1 := wk1.yields j Hj x1 Hx1 hlt1 gg1 y1
        have hd1 : jtems[j]? = some jtems[j] := List.getElem?_eq_getElem hlt1
        obtain ⟨K1, fk1, sk1, r1⟩ := yl1 j Hj x1 Hx1 K0 N' _ hd1 fk iceK (wG j ac N' pw) y1
        have en2 : RpE X.K K1 σ2 Γ2 := ⟨e2.len, fun i d hd => let ⟨v, h1, h2⟩ := (((e2.mono s3).mono s4)).at_ i d hd; ⟨v, h1, (h2.mono' iceK).mono sk1⟩⟩
        have k1 : ∀ b u, b ≠ D → H04 b = some u → K1 b = some u := fun b u nb e => sk1 b u (sk b u nb e)
        refine tgt1.run x1 _ σ2 Hx1 K1 N' Γ2 _ _ fk1 en2 r1 (wstep j _ ac N' hd1 pw) fun σ3 Γ3 hw3 e3 q3 => ⟨hw3, K1, Γ3, N', _, fk1, e3, q3, fun b H5 K2 N5 q5 f5 s5 => ?_⟩
        have hr5 : K2 D = some (.res (.lst ys)) := s5 _ _ (sk1 _ _ hrk)
        have ra5 := (rk.mono sk1).mono s5
        cases b with
        | false =>
          simp only [Bool.false_eq_true, if_false] at q5 ⊢
          exact ⟨K2, N5, ac, ys, f5, fun b u nb e => s5 b u (k1 b u nb e), hr5, ra5, lk, q5⟩
        | true =>
          simp only [if_true] at q5 ⊢
          refine ⟨K2, Γ3, N5, _, f5, e3.mono s5, q5, fun v6 d6 H6 K3 N6 q6 f6 s6 r6 => ?_⟩
          obtain ⟨hl6, q6⟩ := q6
          have hr6 : K3 D = some (.res (.lst ys)) := s6 _ _ hr5
          have ra6 := ra5.mono s6
          refine ⟨ys, f6.res _ _ hr6, by rw [ra6.length]; exact lt_line hl6, ?_⟩
          have ic := put_res_ice (o' := .lst (ys ++ [v6])) hr6
          refine ⟨K3.put D (.res (.lst (ys ++ [v6]))), N6, ac ++ [d6], ys ++ [v6], f6.rehold hr6, fun b u nb e => ?_, F.put_same, (ra6.mono' ic).append (.cons (r6.mono' ic) .nil), by rw [List.length_append]; simp; omega, q6⟩
          rw [F.put_ne nb]; exact s6 b u (s5 b u (k1 b u nb e))
      · have ej : j = jtems.length := by omega
        subst ej
        exact .inl ⟨wk1.stops Hj gg1, K0, N', ac, ys, fk, over1 sk, hrk, rk, lk, wend ac N' pw⟩
  · have e : i = items.length := by omega
    subst e
    have ic := put_thaw_ice (o' := .lst xs) hr
    refine .inl ⟨wk.stops Hi gg, p _ _ Hi (H0'.put D (.ice (.lst xs))) M' (hend acc M' pv) (f'.settle hr) (s1.trans ?_) (.lst (F.ice_eq F.put_same) (ra.mono' ic) (by rw [sizeLine_eq]; exact hl))⟩
    intro b o eb
    by_cases hb : b = D
    · subst hb; rw [hD0] at eb; cases eb
    · rw [F.put_ne hb]; exact s' b o eb
theorem de_lc2 {tg1 iter1 : Expr} {ifs1 : List Expr} {vs1 : List Nat} {wj : WI} {ge : GD} {tu : WT} {g g1 : TG} (hc : X.calm = true) (hN : X.N.Nodup) (hi : DI X tg iter wi) (ok : BlkOk X.N X.env.scope scope own) (hv : ∀ i ∈ vs1, i ∈ own.map (·.2))
    (tgt : Tgt X.K g (own.map (·.2)) gd) (tgt1 : Tgt X.K g1 vs1 ge) (hg : Bk X scope fun Y => PG Y tg g) (ht : Bk X scope fun Y => DTs Y ifs tt) (hi1 : Bk X scope fun Y => DI Y tg1 iter1 wj) (hg1 : Bk X scope fun Y => PG Y tg1 g1) (ht1 : Bk X scope fun Y => DTs Y ifs1 tu)
    (he : Bk X scope fun Y => DE Y elt te) (hs : ∀ x, foldedSetIterable iter X.env x = pure x := by intro _; rfl) (hs1 : ∀ env x, foldedSetIterable iter1 env x = pure x := by intro _ _; rfl) :
    DE X (.ListComp elt [⟨tg, iter, ifs, 0⟩, ⟨tg1, iter1, ifs1, 0⟩] scope pos) (wLc2 wi gd tt wj ge tu te) :=
  PE.weak (pe_lc2 hc hN hi ok hv hg ht hi1 hg1 ht1 he hs hs1) fun _ _ _ h => up_lc2 tgt tgt1 h
end
end FD

namespace FD
open PySem PySem.Spec PyProof.Rows L2
section
variable {X : Cx} {k v e o : Expr} {es : List Expr} {pos apos cpos : Pos} {wk wv we wo : WE} {w : WA}
/-! ### {k: v} -/
def onePair (c : V → V → Hp → Prop) (ps : List (V × V)) (H : Hp) : Prop := match ps with
  | [(y, z)] => c y z H
  | _ => False
theorem onePair_of {c : V → V → Hp → Prop} {ps : List (V × V)} {H : Hp} (h : onePair c ps H) : ∃ y z, ps = [(y, z)] ∧ c y z H := by
  unfold onePair at h
  split at h
  · exact ⟨_, _, rfl, h⟩
  · exact h.elim
theorem pe_disp1 {emp : HO} (he : isEmp emp) {tk tv : TE} (hu : X.A.units + 1 < cLine) (hk : PE X k tk) (hv : PE X v tv) :
    PE X (.Dict [some k] [v] pos) (fun σ H Q => ∀ p, H p = none → tk σ (upd H p emp) fun y H1 => tv σ H1 fun z H2 => ∃ H3, DPut H2 p y z H3 ∧ Q (.ref p) H3) := by
  refine ⟨fun pins s σ H Q I q => ?_⟩
  have fr := I.hok.fresh (Nat.le_refl s.heap.objs.size)
  have I1 := I.laid (a := s.heap.objs.size) (o := emp) (h' := s.heap.push { cls := .type "dict", data := .dict #[] }) (t' := s.toks) (fun _ _ e => Heap.get?_push_of_some _ e) (Nat.le_refl _) (emp_ok he s.heap I.big)
  refine wpAny_Dict_any (by simp) (by simp) (by simp) (by simp) (thn ((pps_cons (pos := pos) hk hv pps_nil).run pins _ σ _ (onePair fun y z H2 => ∃ H3, DPut H2 s.heap.objs.size y z H3 ∧ Q (.ref s.heap.objs.size) H3) I1 (q _ fr)) fun ws s2 h2 => ?_)
  obtain ⟨ps, H2, I2, rel, h2⟩ := h2
  obtain ⟨y, z, rfl, H3, dp, hq⟩ := onePair_of h2
  cases rel with
  | @cons _ q _ qs hd tl =>
    cases tl
    obtain ⟨u, r⟩ := q
    obtain ⟨ry, rz⟩ := hd
    unfold storeAll
    rw [List.forIn_cons]
    refine wpAny_bind (wpAny_bind (put_any hu I2 dp ry rz fun s3 I3 => wpAny_pure ?_))
    simp only [List.forIn_nil]
    exact wpAny_pure ⟨.ref s.heap.objs.size, H3, I3, rfl, hq⟩
def wDisp1 (emp : MO) (wk wv : WE) : WE := fun Γ M post => ∀ p, M p = none → wk Γ (M.upd p emp) fun y M1 => wv Γ M1 fun z M2 => dPut M2 (.ptr p) y z fun M3 => post (.ptr p) M3
theorem up_disp1 {emp : HO} {me : MO} (hem : ∀ H0, RpO X.K H0 me emp) {σ : L2.St} {H : Hp} {Q : VK} (h : up X.K (wDisp1 me wk wv) σ H Q) : ∀ p, H p = none → up X.K wk σ (upd H p emp) fun y H1 => up X.K wv σ H1 fun z H2 => ∃ H3, DPut H2 p y z H3 ∧ Q (.ref p) H3 := by
  obtain ⟨H0, Γ, M, post, f, en, hw, p⟩ := h
  refine fun a ha => ⟨H0, Γ, M.upd a me, _, f.new ha (hem H0), en, hw a (f.fresh ha).2, fun v1 d1 H1 H01 M1 q1 f1 s1 r1 => ⟨H01, Γ, M1, _, f1, en.mono s1, q1, fun v2 d2 H2 H02 M2 q2 f2 s2 r2 => ?_⟩⟩
  obtain ⟨a', H', M', ea, dp, f', q⟩ := dPut_of f2 (.ptr a) (r1.mono s2) r2 q2
  cases ea
  exact ⟨H', dp, p _ _ H' H02 M' q f' (s1.trans s2) (.ptr a)⟩
theorem de_dispT {n : Nat} (hr : Room n X.A) (hk : DE X k wk) (hv : DE X v wv) : DE X (.Dict [some k] [v] pos) (wDisp1 (.dT []) wk wv) :=
  PE.weak (pe_disp1 (.inr rfl) (hu_of hr) hk hv) fun _ _ _ h => up_disp1 (fun _ => .dT .nil) h
theorem de_dispK {n : Nat} (hr : Room n X.A) (hk : DE X k wk) (hv : DE X v wv) : DE X (.Dict [some k] [v] pos) (wDisp1 (.dK []) wk wv) :=
  PE.weak (pe_disp1 (.inl rfl) (hu_of hr) hk hv) fun _ _ _ h => up_disp1 (fun _ => .dK .nil) h
/-! ### methods of dicts -/
def okD (M : Mem) (d : D) : Prop := ∃ a l, d = .ptr a ∧ M a = some (.dK l)
theorem okD_ty {K : PySem.W.Frag} {H : Hp} {H0 : F} {M : Mem} {v : V} {d : D} (f : Fr K H H0 M) (r : Rp K H0 v d) (h : okD M d) : tyV K "dict" v H := by
  obtain ⟨a, l, rfl, hm⟩ := h
  obtain ⟨_, o, ho, ro⟩ := f.mem a _ hm
  cases r
  cases ro with
  | @dK xs _ kv => exact .inr (.inr (.inl ⟨rfl, .inl ⟨xs, ho⟩⟩))
theorem de_md {name : Str} {id : String} {g : GM} (slot : Slot "dict" name id) (hty : typeOf (.builtin id) = pure (.type "method_descriptor")) (hm : MtR X id (rUM X.K g)) (ho : DE X o wo) (ha : DA X (e :: es) w)
    (hbase : attributeBase o name X.env (eval o X.env) = eval o X.env := by rfl)
    (hfew : ((backTo cpos (starEach (e :: es) X.env)).all (fun x => !x.1) && (backToKw cpos (keywordEach [] X.env)).all (fun x => x.1.isSome)
      && decide ((e :: es).length + ([] : List Keyword).length + (if ([] : List Keyword).isEmpty then 0 else 1) < 30)) = true := by rfl)
    (hline : (apos.endLine == cpos.line) = true := by rfl) (hs : starEach (e :: es) X.env = (false, eval e X.env) :: starEach es X.env := by rfl) (hplain : (backTo cpos (starEach es X.env)).any (·.1) = false := by rfl) :
    DE X (.Call (.Attribute o name apos) (e :: es) [] cpos) (wM okD g wo w) :=
  PE.weak (pe_bm PySem.F.plainAttrs_dict slot hty hm ho ha hbase hfew hline hs hplain) fun _ _ _ h => up_m okD_ty h
def joinD (l m : List (Key × D)) : List (Key × D) := m.foldl (fun acc kv => putD acc kv.1 kv.2) l
theorem rp_join {K : PySem.W.Frag} {H : F} : ∀ {ms : List (Key × V)} {ds : List (Key × D)} {xs : List (Key × V)} {es : List (Key × D)}, RpKV K H ms ds → RpKV K H xs es → RpKV K H (mergeK xs ms) (joinD es ds)
  | _, _, _, _, .nil, q => q
  | (x, v) :: ms, (y, d) :: ds, xs, es, .cons h t, q => by
    obtain ⟨e, r⟩ := h
    have e : x = y := e
    subst e
    exact rp_join (xs := putK xs x v) (es := putD es x d) t (rp_put q x r)
def dkOf (M : Mem) (d : D) (c : Addr → List (Key × D) → Prop) : Prop := match d with
  | .ptr a => match M a with
    | some (.dK l) => c a l
    | _ => False
  | _ => False
theorem dkOf_of {M : Mem} {d : D} {c : Addr → List (Key × D) → Prop} (h : dkOf M d c) : ∃ a l, d = .ptr a ∧ M a = some (.dK l) ∧ c a l := by
  cases d with
  | ptr a =>
    have h : (match M a with
      | some (.dK l) => c a l
      | _ => False) := h
    cases q : M a with
    | none => rw [q] at h; exact h.elim
    | some mo =>
      rw [q] at h
      cases mo with
      | dK l => exact ⟨a, l, rfl, q, h⟩
      | _ => exact h.elim
  | _ => exact h.elim
def gUpdate : GM := fun M d ds post => one ds fun y => dkOf M d fun a l => dkOf M y fun b m => a ≠ b ∧ l.length + m.length ≤ 16777216 ∧ post .non (M.upd a (.dK (joinD l m)))
theorem m_update : MtR X "dict.update" (rUM X.K gUpdate) := by
  intro pins s σ H x xs v us Q I rx rxs h
  obtain ⟨H0, M, d, ds, post, f, r, ra, q, p⟩ := h
  obtain ⟨y, rfl, q⟩ := one_of q
  obtain ⟨a, l, rfl, ha, q⟩ := dkOf_of q
  obtain ⟨b, m, rfl, hb, ne, hz, q⟩ := dkOf_of q
  obtain ⟨_, oa, hoa, roa⟩ := f.mem a _ ha
  obtain ⟨_, ob, hob, rob⟩ := f.mem b _ hb
  cases r
  cases ra with
  | cons r1 t1 =>
    cases t1; cases r1
    cases roa with
    | @dK ka _ kva =>
      cases rob with
      | @dK kb _ kvb =>
        have ea : v = Value.ref a := rx
        subst ea
        cases rxs with
        | cons rb tb =>
          cases tb
          have eb := (show _ = Value.ref b from rb)
          subst eb
          obtain ⟨za, sa, va, rela, da⟩ := dk_of I.hok hoa
          obtain ⟨zb, sb, vb, relb, db⟩ := dk_of I.hok hob
          have hz' : ka.length + kb.length ≤ 16777216 := by rw [kv_len kva, kv_len kvb]; exact hz
          refine call_meetsIn PySem.F.slot_dict_update da.typeIs PySem.F.entry_dict_update (PySem.F.args_dict_update_2 _ _) (meets_dict_update (mixKind X.prog X.w) a b ne sb)
            ⟨va, vb, da, db, by rw [← rela.length, ← relb.length, sizeLine_eq]; exact hz', fun h' dd _ hs => ?_⟩
          have le : (mergeK ka kb).length ≤ sizeLine := by have := length_mergeK kb ka; rw [sizeLine_eq]; omega
          have he : ∃ q, h'.get? a = some q := let ⟨q, _, _, hq, _⟩ := dd; ⟨q, hq⟩
          exact ⟨.non, _, d_write (t' := s.toks) I (by rw [hoa]; trivial) hs he (dk_new le sa (relb.merge rela) dd), rfl, p _ _ _ H0 _ q (f.put ha (.dK (rp_join kvb kva))) (F.le.refl _) .non⟩
/-! ### isinstance(x, C), C an own class -/
def isiB (K : PySem.W.Frag) (C : Addr) : Bool :=
  (match PySem.W.findIn K (.ref C) "__class__" with
    | some (some (.builtin n)) => n == "object.__class__"
    | _ => false) &&
  (match PySem.W.specialIn K (.builtin "object.__class__") "__get__" with
    | some (some (.builtin n)) => n == "getset_descriptor.__get__"
    | _ => false) &&
  (match PySem.W.takesIn K (.builtin "object.__class__") with
    | some true => true
    | _ => false) &&
  (match PySem.W.mroIn K C (.type "object") with
    | some true => true
    | _ => false)
theorem isiB_ok {K : PySem.W.Frag} {C : Addr} (h : isiB K C = true) : PySem.W.findIn K (.ref C) "__class__" = some (some (.builtin "object.__class__")) ∧ PySem.W.specialIn K (.builtin "object.__class__") "__get__" = some (some (.builtin "getset_descriptor.__get__")) ∧
    PySem.W.takesIn K (.builtin "object.__class__") = some true ∧ PySem.W.mroIn K C (.type "object") = some true := by
  unfold isiB at h
  simp only [Bool.and_eq_true] at h
  obtain ⟨⟨⟨h1, h2⟩, h3⟩, h4⟩ := h
  refine ⟨?_, ?_, ?_, ?_⟩
  · split at h1
    · rename_i n e; rw [e, eq_of_beq h1]
    · cases h1
  · split at h2
    · rename_i n e; rw [e, eq_of_beq h2]
    · cases h2
  · split at h3
    · assumption
    · cases h3
  · split at h4
    · assumption
    · cases h4
def wIsiC (C : Addr) (w : WE) : WE := fun Γ M post => w Γ M fun d M1 => insR M1 C d fun _ => post (.bl true) M1
theorem de_isiC {C : Addr} {x : Str} {p p2 : Pos} (hq : Cls X.K C ∧ isiB X.K C = true ∧ X.mg x = some (.ref C)) (he : DE X e we) (hm : X.mg "isinstance" = none) (hg : Gl X "isinstance" := by rfl) (hgT : Gl X x := by rfl)
    (hdb : (x == ("__debug__" : Str)) = false := by decide) (hs : starEach [e, .Name x p2] X.env = (false, eval e X.env) :: starEach [.Name x p2] X.env := by rfl) (hpl : (backTo pos (starEach [.Name x p2] X.env)).any (·.1) = false := by rfl)
    (hs2 : starEach [.Name x p2] X.env = (false, eval (.Name x p2) X.env) :: starEach [] X.env := by rfl) : DE X (.Call (.Name "isinstance" p) [e, .Name x p2] [] pos) (wIsiC C we) :=
  PE.weak (pe_callB call_isi hg hm (by decide +kernel) (pa_cons he (pa_cons (pe_glob (v := .ref C) hgT hq.2.2 rfl hdb) pa_nil hs2) hs) (by decide) (by decide) hs hpl) fun σ H Q h =>
    up_bind (k := fun d Γ M post => insR M C d fun _ => post (.bl true) M) h fun v d H1 H0 Γ M post f e r q p => by
      obtain ⟨a, dx, xs, fs, rfl, ho, kv, q⟩ := insR_of f r q
      · obtain ⟨h1, h2, h3, h4⟩ := isiB_ok hq.2.1
        exact ⟨.ref a, .ref C, .ref C, .ref C, true, rfl, .own C, .base (.ins ho hq.1 h1 h2 h3 h4), by unfold PySem.W.kitOne; simp, p.now f (.bl true) q⟩
/-! ### is True, is not True -/
def isBD (d e : D) : Option D := match d, e with
  | .bl a, .bl b => some (.bl (decide (a = b)))
  | _, _ => none
def notBD (d e : D) : Option D := match d, e with
  | .bl a, .bl b => some (.bl (!decide (a = b)))
  | _, _ => none
theorem o_isB : OpR X (compareOp .Is) (rU2 X.K (p2 isBD)) := OpR.imp op_is_bl fun x y H Q q => by
  obtain ⟨H0, M, d, e, post, fr, rx, ry, w, p⟩ := q
  obtain ⟨z, hz, w⟩ := got_of w
  cases rx <;> cases ry <;> first | cases hz | skip
  exact ⟨_, _, rfl, rfl, p.now fr (.bl _) w⟩
theorem o_notB : OpR X (compareOp .IsNot) (rU2 X.K (p2 notBD)) := OpR.imp op_isnot_bl fun x y H Q q => by
  obtain ⟨H0, M, d, e, post, fr, rx, ry, w, p⟩ := q
  obtain ⟨z, hz, w⟩ := got_of w
  cases rx <;> cases ry <;> first | cases hz | skip
  exact ⟨_, _, rfl, rfl, p.now fr (.bl _) w⟩
end
end FD

namespace FD
open PySem PySem.Spec PyProof.Rows L2
section
variable {X : Cx} {e o : Expr} {es : List Expr} {pos apos cpos p : Pos} {we wo : WE} {w : WA}
/-! ### s * n -/
def gMulS : G2 := fun M x y post => isS x fun s => isI y fun n => MulOk s n ∧ sOk (Txt.mul s n) = true ∧ post (.str (Txt.mul s n)) M
theorem o_mulS : OpR X (binaryOp .Mult) (rU2 X.K gMulS) := by
  intro pins s σ H x y v u Q I rx ry h
  obtain ⟨H0, M, d, e, post, f, r1, r2, q, p⟩ := h
  obtain ⟨z, rfl, q⟩ := isS_of q
  obtain ⟨n, rfl, ok, hs, q⟩ := isI_of q
  cases r1; cases r2
  obtain ⟨t, rfl⟩ := (show ∃ t, v = Value.str z t from rx)
  obtain ⟨t2, rfl⟩ := (show ∃ t, u = Value.int n t from ry)
  exact SB.mul ok fun t' k => ⟨.str (Txt.mul z n), H, I.tok k, ⟨t', rfl⟩, p.now f (.str _ hs) q⟩
/-! ### repr -/
mutual
theorem Rp.reads {pins : List (Addr × Obj)} {σ : L2.St} {H : Hp} {s : Shared} (I : Inv X pins σ H s) {H0 : F} (f : Same H0.ice H) : ∀ {v : V} {d : D} {u : Value}, Rp X.K H0 v d → d.dp ≤ 64 → RelV v u → ∃ as, Reads s.heap u d.py as
  | _, _, u, .non, _, r => by cases (show u = Value.none from r); exact ⟨_, .none⟩
  | _, _, u, .bl b, _, r => by cases (show u = Value.bool b from r); exact ⟨_, .bool b⟩
  | _, _, u, .int i, _, r => by obtain ⟨t, rfl⟩ := (show ∃ t, u = Value.int i t from r); exact ⟨_, .int i t⟩
  | _, _, u, .str x _, _, r => by obtain ⟨t, rfl⟩ := (show ∃ t, u = Value.str x t from r); exact ⟨_, .str x t⟩
  | .ref a, .tup l, u, .tup h ha _, z, r => by
    cases (show u = Value.ref a from r)
    obtain ⟨its, rv, ⟨o, h1, h2, n, h3⟩, _⟩ := I.tuple (.of (f _ _ h))
    obtain ⟨as, ra⟩ := RpAll.reads I f ha (by unfold D.dp at z; omega) rv
    exact ⟨as, .tuple h1 h2 h3 (by simpa using ra)⟩
  | .ref a, .ftp l, u, .ftp h _ ha _, z, r => by
    cases (show u = Value.ref a from r)
    obtain ⟨its, rv, ⟨o, h1, h2, n, h3⟩, _⟩ := I.tuple (.inl (.inr ⟨_, f _ _ h⟩))
    obtain ⟨as, ra⟩ := RpAll.reads I f ha (by unfold D.dp at z; omega) rv
    exact ⟨as, .tuple h1 h2 h3 (by simpa using ra)⟩
  | .ref a, .ktp l, u, .ktp h ha _, z, r => by
    cases (show u = Value.ref a from r)
    obtain ⟨its, rv, ⟨o, h1, h2, n, h3⟩, _⟩ := I.tuple (seqT_mono f h)
    obtain ⟨as, ra⟩ := RpAll.reads I f ha (by unfold D.dp at z; omega) rv
    exact ⟨as, .tuple h1 h2 h3 (by simpa using ra)⟩
  | .ref a, .lst l, u, .lst h ha _, z, r => by
    cases (show u = Value.ref a from r)
    obtain ⟨its, rv, ⟨o, n, h1, h2, _, h3⟩, _⟩ := I.list (.of (f _ _ h))
    obtain ⟨as, ra⟩ := RpAll.reads I f ha (by unfold D.dp at z; omega) rv
    exact ⟨_, .list h1 h2 h3 (by simpa using ra)⟩
  | .ref a, .scr l, u, .scr h ha _, z, r => by
    cases (show u = Value.ref a from r)
    obtain ⟨its, rv, ⟨o, n, h1, h2, _, h3⟩, _⟩ := I.list (f.seq h)
    obtain ⟨as, ra⟩ := RpAll.reads I f ha (by unfold D.dp at z; omega) rv
    exact ⟨_, .list h1 h2 h3 (by simpa using ra)⟩
  | _, .ptr a, _, .ptr _, z, _ => by unfold D.dp at z; omega
  | _, .obj _ _, _, .obj _ _ _, z, _ => by unfold D.dp at z; omega
  | _, .dcK _, _, .dcK _ _ _, z, _ => by unfold D.dp at z; omega
  | _, .dcT _, _, .dcT _ _ _, z, _ => by unfold D.dp at z; omega
theorem RpAll.reads {pins : List (Addr × Obj)} {σ : L2.St} {H : Hp} {s : Shared} (I : Inv X pins σ H s) {H0 : F} (f : Same H0.ice H) : ∀ {vs : List V} {ds : List D} {us : List Value}, RpAll X.K H0 vs ds → dpAll ds ≤ 64 → Vals vs us → ∃ as, ReadsAll s.heap us (pyAll ds) as
  | _, _, _, .nil, _, .nil => ⟨_, .nil⟩
  | _, d :: ds, _, .cons h t, z, .cons r rs => by
    obtain ⟨as, q⟩ := Rp.reads I f h (by unfold dpAll at z; omega) r
    obtain ⟨bs, q2⟩ := RpAll.reads I f t (by unfold dpAll at z; omega) rs
    exact ⟨_, .cons q q2⟩
end
mutual
theorem noDict_py : ∀ d : D, d.py.hasDict = false
  | .non => rfl
  | .bl _ => rfl
  | .int _ => rfl
  | .str _ => rfl
  | .tup l => by simp [D.py, PyData.hasDict, noDict_all l]
  | .ftp l => by simp [D.py, PyData.hasDict, noDict_all l]
  | .ktp l => by simp [D.py, PyData.hasDict, noDict_all l]
  | .lst l => by simp [D.py, PyData.hasDict, noDict_all l]
  | .scr l => by simp [D.py, PyData.hasDict, noDict_all l]
  | .ptr _ => rfl
  | .obj _ _ => rfl
  | .dcK _ => rfl
  | .dcT _ => rfl
theorem noDict_all : ∀ l : List D, PyData.hasDictAll (pyAll l) = false
  | [] => rfl
  | d :: l => by simp [pyAll, PyData.hasDictAll, noDict_py d, noDict_all l]
end
def isSeqD : D → Bool
  | .tup _ => true
  | .ftp _ => true
  | .ktp _ => true
  | .lst _ => true
  | .scr _ => true
  | _ => false
def gRepr : GA := fun M ds post => one ds fun d => isSeqD d = true ∧ d.dp ≤ 16 ∧ d.py.showable = true ∧ sOk d.py.shown = true ∧ post (.str d.py.shown) M
theorem c_repr {k : Nat} (gd : X.A.guards = some []) (hr : Room k X.A) : CallR X (.builtin "repr") (rUA X.K gRepr) := by
  intro pins s σ H xs us Q I r h
  obtain ⟨H0, M, ds, post, f, ra, q, p⟩ := h
  obtain ⟨d, rfl, hq, hd, hs, ht, q⟩ := one_of q
  cases ra with
  | @cons v _ _ _ r1 t1 =>
    cases t1
    cases r with
    | cons ru tu =>
      cases tu
      obtain ⟨as, rd⟩ := Rp.reads I f.sub r1 (by omega) ru
      have isr : ∃ a, v = .ref a := by cases r1 <;> first | exact ⟨_, rfl⟩ | cases hq
      obtain ⟨a, rfl⟩ := isr
      have eu := (show _ = Value.ref a from ru)
      subst eu
      have hdp : d.py.depth ≤ 16 := by rw [(Rp.shape r1 (by omega)).1]; exact hd
      have un := hr.units
      refine repr_of_reads' rd hs (fun z => by rw [noDict_py] at z; cases z) gd (by omega) (fun _ _ e => e) (fun h' u tk hk => ⟨.str d.py.shown, H, I.kept (h' := h') (t' := tk) hk, ⟨u, rfl⟩, p.now f (.str _ ht) q⟩) (sOk_len ht)
theorem de_repr {k : Nat} (gd : X.A.guards = some []) (hr : Room k X.A) (hm : X.mg "repr" = none) (ha : DA X (e :: es) w) (hg : Gl X "repr" := by rfl)
    (hs : starEach (e :: es) X.env = (false, eval e X.env) :: starEach es X.env := by rfl) (hpl : (backTo pos (starEach es X.env)).any (·.1) = false := by rfl) : DE X (.Call (.Name "repr" p) (e :: es) [] pos) (wB gRepr w) :=
  de_b (he := hs) (hpl := hpl) (c_repr gd hr) hm (by decide +kernel) ha hg
/-! ### keywords -/
def pick {α : Type} (ix : List Nat) (l : List α) : List α := ix.filterMap fun i => l[i]?
theorem pick_rp {K : PySem.W.Frag} {H : F} {vs : List V} {ds : List D} (r : RpAll K H vs ds) : ∀ ix : List Nat, RpAll K H (pick ix vs) (pick ix ds)
  | [] => .nil
  | i :: ix => by
    have ih := pick_rp r ix
    unfold pick at ih ⊢
    rw [List.filterMap_cons, List.filterMap_cons]
    cases e : ds[i]? with
    | none =>
      have e2 : vs[i]? = none := by rw [List.getElem?_eq_none_iff] at e ⊢; rw [r.length]; exact e
      rw [e2]; exact ih
    | some d =>
      obtain ⟨v, e2, r2⟩ := r.get e
      rw [e2]; exact .cons r2 ih
theorem vals_get {vs : List V} {us : List Value} (r : Vals vs us) (i : Nat) : (∃ v u, vs[i]? = some v ∧ us[i]? = some u ∧ RelV v u) ∨ (vs[i]? = none ∧ us[i]? = none) := by
  cases e : vs[i]? with
  | none => exact .inr ⟨rfl, by rw [List.getElem?_eq_none_iff] at e ⊢; rw [← r.length]; exact e⟩
  | some v =>
    obtain ⟨u, hu, rv⟩ := r.get e
    exact .inl ⟨v, u, rfl, hu, rv⟩
theorem pick_vals {vs : List V} {us : List Value} (r : Vals vs us) : ∀ ix : List Nat, Vals (pick ix vs) (pick ix us)
  | [] => .nil
  | i :: ix => by
    have ih := pick_vals r ix
    unfold pick at ih ⊢
    rw [List.filterMap_cons, List.filterMap_cons]
    rcases vals_get r i with ⟨v, u, e1, e2, rv⟩ | ⟨e1, e2⟩
    · rw [e1, e2]; exact .cons rv ih
    · rw [e1, e2]; exact ih
/-- a def, ready to be called with n positional values and the keywords ks -/
structure PubK (P : Program) (w : World) (K : PySem.W.Frag) (mg : Str → Option Value) (base : Heap) (k : Nat) (x : Str) (n : Nat) (ks : List Str) (ix : List Nat) (ps : List Str) (dsp : DSp) : Prop where
  ex : ∃ (f : Addr) (fd : FuncData), mg x = some (.ref f) ∧ PySem.W.keepIn K (.ref f) = true ∧ (∀ (s : Shared) (us ws : List Value), us.length = n → ws.length = ks.length → BindsTo s fd ⟨us, ks.zip ws⟩ (ps.zip (pick ix (us ++ ws)))) ∧ FnG P w K mg base k f fd ps dsp
theorem run_gk {k : Nat} {f : Addr} {fd : FuncData} {ks ps : List Str} {ix : List Nat} {dsp : DSp} {pins : List (Addr × Obj)} {σ : L2.St} {H : Hp} {s : Shared} {Q : VK} {us ws : List Value} {vs zs : List V} (G : FnG X.prog X.w X.K X.mg X.base k f fd ps dsp) (room : Room k X.A) (gd : X.A.guards = some [])
    (bd : BindsTo s fd ⟨us, ks.zip ws⟩ (ps.zip (pick ix (us ++ ws)))) (I : Inv X pins σ H s) (r : Vals vs us) (rz : Vals zs ws) (h : toSp X.K dsp (pick ix (vs ++ zs)) H Q) : wpAny (model X.prog X.w) X.A (call (.ref f) us (ks.zip ws)) (EP X pins σ Q) X.xe s := by
  refine wpAny_call (codeAny_mono (G.go X.A X.stack s H ⟨us, ks.zip ws⟩ (pick ix (us ++ ws)) (pick ix (vs ++ zs)) Q gd room I.env0 bd (pick_vals (r.append rz) ix) h) fun res s' hq => ?_)
  match res, hq with
  | .ok (.ret u), hq => exact I.after hq
  | .ok .next, hq => exact hq.elim
  | .ok .brk, hq => exact hq.elim
  | .ok .cont, hq => exact hq.elim
  | .error e, hq => exact hq.elim
abbrev DKw (X : Cx) (kws : List Keyword) (w : WA) : Prop := PK X kws (upA X.K w)
theorem PK.weak {kws : List Keyword} {t t' : TA} (h : PK X kws t) (i : ∀ σ H Q, t' σ H Q → t σ H Q) : PK X kws t' := ⟨fun pos pins s σ H Q I q => h.run pos pins s σ H Q I (i σ H Q q)⟩
theorem dk_nil : DKw X [] aNil := PK.weak pk_nil fun σ H Q h => by
  obtain ⟨H0, Γ, M, post, f, e, hw, p⟩ := h
  exact p [] [] H H0 M hw f (F.le.refl _) .nil
theorem dk_cons {kws : List Keyword} {nm : Option Str} {kpos : Pos} (he : DE X e we) (hr : DKw X kws w) : DKw X (⟨nm, e, kpos⟩ :: kws) (aCons we w) :=
  PK.weak (pk_cons he hr) fun σ H Q h => by
    obtain ⟨H0, Γ, M, post, f, en, hw, p⟩ := h
    exact ⟨H0, Γ, M, _, f, en, hw, fun v d H1 H01 M1 q1 f1 s1 r1 => ⟨H01, Γ, M1, _, f1, en.mono s1, q1, fun vs ds H2 H02 M2 q2 f2 s2 r2 => p _ _ H2 H02 M2 q2 f2 (s1.trans s2) (.cons (r1.mono s2) r2)⟩⟩
def wCallK (dsp : DSp) (n m : Nat) (ix : List Nat) (w wk : WA) : WE := fun Γ M post => w Γ M fun ds M1 => wk Γ M1 fun es M2 => ds.length = n ∧ es.length = m ∧ dsp (pick ix (ds ++ es)) M2 post
theorem de_callK0 {k : Nat} {x : Str} {ks ps : List Str} {ix : List Nat} {dsp : DSp} {kws : List Keyword} {wk : WA} (G : PubK X.prog X.w X.K X.mg X.base k x 0 ks ix ps dsp) (room : Room k X.A) (gd : X.A.guards = some []) (hk : DKw X kws wk) (hg : Gl X x := by rfl)
    (hdb : (x == ("__debug__" : Str)) = false := by decide) (hall : (backToKw pos (keywordEach kws X.env)).all (·.1.isSome) = true := by rfl) (hks : (backToKw pos (keywordEach kws X.env)).filterMap (·.1) = ks := by rfl)
    (hpl : ((backTo pos (starEach [] X.env)).any (·.1) || (backToKw pos (keywordEach kws X.env)).any (·.1.isNone)) = false := by rfl) : DE X (.Call (.Name x p) [] kws pos) (wCallK dsp 0 ks.length ix aNil wk) := by
  obtain ⟨f, fd, hm, hkp, hb, G⟩ := G.ex
  refine ⟨fun pins s σ H Q I h => wpAny_Call_Name_kw (ld_glob I hg hm (PySem.W.callWith_KW0 (h₀ := X.base) I.ok.mod.kin hkp hall (thn (hk.run pos pins s σ H (fun zs H2 => zs.length = ks.length ∧ toSp X.K dsp (pick ix ([] ++ zs)) H2 Q) I ?_) fun ws s2 ⟨zs, H2, I2, rz, l2, q2⟩ => ⟨I2.kIn, ?_⟩) hpl) hdb)⟩
  · obtain ⟨H0, Γ, M, post, f, en, hw, p⟩ := h
    exact ⟨H0, Γ, M, _, f, en, hw, fun vs ds H1 H01 M1 q1 f1 s1 r1 => ⟨r1.length.trans q1.2.1, H01, M1, _, post, f1, pick_rp r1 ix, q1.2.2, p.mono s1⟩⟩
  · rw [hks]
    exact run_gk (us := []) (vs := []) G room gd (hb s2 [] ws rfl (rz.length.symm.trans l2)) I2 .nil rz q2
theorem de_callK {k n : Nat} {x : Str} {ks ps : List Str} {ix : List Nat} {dsp : DSp} {kws : List Keyword} {wk : WA} (G : PubK X.prog X.w X.K X.mg X.base k x n ks ix ps dsp) (room : Room k X.A) (gd : X.A.guards = some []) (ha : DA X (e :: es) w) (hk : DKw X kws wk) (hg : Gl X x := by rfl)
    (hdb : (x == ("__debug__" : Str)) = false := by decide) (hall : (backToKw pos (keywordEach kws X.env)).all (·.1.isSome) = true := by rfl) (hks : (backToKw pos (keywordEach kws X.env)).filterMap (·.1) = ks := by rfl)
    (he : starEach (e :: es) X.env = (false, eval e X.env) :: starEach es X.env := by rfl)
    (hpl : ((backTo pos (starEach (e :: es) X.env)).any (·.1) || (backToKw pos (keywordEach kws X.env)).any (·.1.isNone)) = false := by rfl) : DE X (.Call (.Name x p) (e :: es) kws pos) (wCallK dsp n ks.length ix w wk) := by
  obtain ⟨f, fd, hm, hkp, hb, G⟩ := G.ex
  refine ⟨fun pins s σ H Q I h => wpAny_Call_Name_kw (ld_glob I hg hm (PySem.W.callWith_KW (h₀ := X.base) I.ok.mod.kin hkp hall (thn (ha.run pos pins s σ H (fun vs H1 => upA X.K wk σ H1 fun zs H2 => vs.length = n ∧ zs.length = ks.length ∧ toSp X.K dsp (pick ix (vs ++ zs)) H2 Q) I ?_)
    fun us s1 ⟨vs, H1, I1, r, q⟩ => thn (hk.run pos pins s1 σ H1 _ I1 q) fun ws s2 ⟨zs, H2, I2, rz, l1, l2, q2⟩ => ⟨I2.kIn, ?_⟩) hpl he) hdb)⟩
  · obtain ⟨H0, Γ, M, post, f, en, hw, p⟩ := h
    exact ⟨H0, Γ, M, _, f, en, hw, fun vs ds H1 H01 M1 q1 f1 s1 r1 => ⟨H01, Γ, M1, _, f1, en.mono s1, q1, fun zs es H2 H02 M2 q2 f2 s2 r2 => ⟨r1.length.trans q2.1, r2.length.trans q2.2.1, H02, M2, _, post, f2, pick_rp ((r1.mono s2).append r2) ix, q2.2.2, p.mono (s1.trans s2)⟩⟩⟩
  · rw [hks]
    exact run_gk G room gd (hb s2 us ws (r.length.symm.trans l1) (rz.length.symm.trans l2)) I2 r rz q2
end
section
variable {P : Program} {w : World} {K : PySem.W.Frag} {mg : Str → Option Value} {base : Heap}
/-- the def behind a name, with its promise -/
structure Fng (P : Program) (w : World) (K : PySem.W.Frag) (mg : Str → Option Value) (base : Heap) (k : Nat) (x : Str) (st : Stmt) (ps : List Str) (dsp : DSp) : Prop where
  ex : ∃ fd, FunD K x x (defArgs st) (defBody st) (defScope st) [] [] (He.ga K x) fd ∧ FnG P w K mg base k (He.ga K x) fd ps dsp
  g : mg x = some (.ref (He.ga K x))
theorem fng_of {k : Nat} {x : Str} {st : Stmt} {N ps : List Str} {dsp : DSp} (h : ∃ fd, FunD K x x (defArgs st) (defBody st) (defScope st) [] [] (He.ga K x) fd) (g : mg x = some (.ref (He.ga K x))) (S : FnScope N ps (defScope st))
    (l : ∀ ds M post, dsp ds M post → ds.length = ps.length)
    (hb : ∀ (f : Addr) (cdv : Value) (A : Around) (outer : List PySem.Env) (s : Shared) (H : Hp), (A.deeper (envOfC x (defScope st) s.heap.objs.size f cdv)).guards = some [] → Room k (A.deeper (envOfC x (defScope st) s.heap.objs.size f cdv)) →
      ∃ ws, DSs (bx P w K mg base N x (defScope st) f cdv A outer s H) (defBody st) ws ∧ ∀ ds M post, dsp ds M post → ws { nx := fun _ M' => post .non M', rt := post } (startD N ds) M) :
    Fng P w K mg base (k + 1) x st ps dsp := by
  obtain ⟨fd, D⟩ := h
  refine ⟨⟨fd, D, ?_⟩, g⟩
  obtain ⟨oc, od, dV, kV, doc, pm, an, cdv, ct, osl, rfl, lk, hcd, _, _⟩ := D.ex
  exact g_of lk hcd S l fun A outer s H => hb _ cdv A outer s H
theorem Fng.pub {k : Nat} {x : Str} {st : Stmt} {ps : List Str} {dsp : DSp} (F : Fng P w K mg base k x st ps dsp)
    (bd : ∀ (kV doc pm : Value) (an : Option Addr) (cdv ct : Value) (us : List Value), us.length = ps.length → bindArgs (PySem.W.fnOf x x (defArgs st) (defBody st) (defScope st) .none kV doc pm an cdv ct) ⟨us, []⟩ = pure (ps.zip us)) : Pub P w K mg base k x ps dsp := by
  obtain ⟨fd, D, G⟩ := F.ex
  exact ⟨_, fd, F.g, D.kp, D.bindsN bd, G⟩
theorem Fng.pubK {k : Nat} {x : Str} {st : Stmt} {ps : List Str} {dsp : DSp} (F : Fng P w K mg base k x st ps dsp) (n : Nat) (ks : List Str) (ix : List Nat)
    (bd : ∀ (kV doc pm : Value) (an : Option Addr) (cdv ct : Value) (us ws : List Value), us.length = n → ws.length = ks.length → bindArgs (PySem.W.fnOf x x (defArgs st) (defBody st) (defScope st) .none kV doc pm an cdv ct) ⟨us, ks.zip ws⟩ = pure (ps.zip (pick ix (us ++ ws)))) : PubK P w K mg base k x n ks ix ps dsp := by
  obtain ⟨fd, D, G⟩ := F.ex
  refine ⟨_, fd, F.g, D.kp, fun s us ws l1 l2 => ?_, G⟩
  obtain ⟨oc, od, dV, kV, doc, pm, an, cdv, ct, osl, rfl, lk, hcd, hD, _⟩ := D.ex
  rcases hD with ⟨_, rfl⟩ | ⟨e, _⟩
  · exact .of_eq (bd kV doc pm an cdv ct us ws l1 l2)
  · exact absurd rfl e
end
end FD

namespace FD
open PySem PySem.Spec PyProof.Rows L2
section
variable {P : Program} {w : World} {K : PySem.W.Frag} {mg : Str → Option Value} {base : Heap}
/-- a method of a class, by its body -/
theorem pubM_of {k : Nat} {C f : Addr} {m qual : Str} {st : Stmt} {N ps : List Str} {dsp : DSp} (h : ∃ fd, FunD K m qual (defArgs st) (defBody st) (defScope st) [] [] f fd) (mt : Meth K C m f) (S : FnScope N ps (defScope st))
    (bd : ∀ (kV doc pm : Value) (an : Option Addr) (cdv ct : Value) (us : List Value), us.length = ps.length → bindArgs (PySem.W.fnOf m qual (defArgs st) (defBody st) (defScope st) .none kV doc pm an cdv ct) ⟨us, []⟩ = pure (ps.zip us))
    (l : ∀ ds M post, dsp ds M post → ds.length = ps.length)
    (hb : ∀ (f : Addr) (cdv : Value) (A : Around) (outer : List PySem.Env) (s : Shared) (H : Hp), (A.deeper (envOfC qual (defScope st) s.heap.objs.size f cdv)).guards = some [] → Room k (A.deeper (envOfC qual (defScope st) s.heap.objs.size f cdv)) →
      ∃ ws, DSs (bx P w K mg base N qual (defScope st) f cdv A outer s H) (defBody st) ws ∧ ∀ ds M post, dsp ds M post → ws { nx := fun _ M' => post .non M', rt := post } (startD N ds) M) :
    PubM P w K mg base (k + 1) C m ps dsp := by
  obtain ⟨fd, D⟩ := h
  have b := D.bindsN bd
  obtain ⟨oc, od, dV, kV, doc, pm, an, cdv, ct, osl, rfl, lk, hcd, _, _⟩ := D.ex
  exact ⟨_, _, mt, b, g_of lk hcd S l fun A outer s H => hb _ cdv A outer s H⟩
/-- a class that is made with all arguments; its __init__ has defaults dvs (not empty) -/
theorem pubC_of {k : Nat} {C f : Addr} {x qual : Str} {st : Stmt} {N ps : List Str} {dsp : DSp} {dvs : List V} (h : ∃ fd, FunD K "__init__" qual (defArgs st) (defBody st) (defScope st) dvs [] f fd) (mk : Mk K C f) (g : mg x = some (.ref C)) (S : FnScope N ps (defScope st)) (nd : dvs ≠ [])
    (bd : ∀ (T : Addr) (kV doc pm : Value) (an : Option Addr) (cdv ct : Value) (us its : List Value), us.length = ps.length → its.length = dvs.length →
      ∃ k, bindArgs (PySem.W.fnOf "__init__" qual (defArgs st) (defBody st) (defScope st) (.ref T) kV doc pm an cdv ct) ⟨us, []⟩ = seqItems? (.ref T) >>= k ∧ k (some its.toArray) = pure (ps.zip us))
    (l : ∀ ds M post, dsp ds M post → ds.length = ps.length)
    (hb : ∀ (f : Addr) (cdv : Value) (A : Around) (outer : List PySem.Env) (s : Shared) (H : Hp), (A.deeper (envOfC qual (defScope st) s.heap.objs.size f cdv)).guards = some [] → Room k (A.deeper (envOfC qual (defScope st) s.heap.objs.size f cdv)) →
      ∃ ws, DSs (bx P w K mg base N qual (defScope st) f cdv A outer s H) (defBody st) ws ∧ ∀ ds M post, dsp ds M post → ws { nx := fun _ M' => post .non M', rt := post } (startD N ds) M) :
    PubC P w K mg base (k + 1) x C ps [] dsp := by
  obtain ⟨fd, D⟩ := h
  obtain ⟨ds, rd, b⟩ := D.binds1 (ps := ps) ps.length dvs.length nd (by omega) fun T kV doc pm an cdv ct us its l1 l2 => by
    obtain ⟨k, e1, e2⟩ := bd T kV doc pm an cdv ct us its l1 l2
    refine ⟨k, e1, ?_⟩
    rw [e2, ← l2, List.drop_length, List.append_nil]
  have dn : ds = [] := by
    have := rd.length
    rw [List.drop_length] at this
    exact List.length_eq_zero_iff.mp this.symm
  subst dn
  obtain ⟨oc, od, dV, kV, doc, pm, an, cdv, ct, osl, rfl, lk, hcd, _, _⟩ := D.ex
  exact ⟨_, _, [], [], g, mk, b, .nil, fun _ => .nil, g_of lk hcd S l fun A outer s H => hb _ cdv A outer s H⟩
end
end FD

set_option maxHeartbeats 1000000
namespace FD
open PySem PySem.Spec PyProof.Rows L2
/-! ### more equations -/
theorem isi_ss : isiT "str" "str" = true := by decide
theorem isi_tt : isiT "tuple" "tuple" = true := by decide
theorem isi_st : isiT "str" "tuple" = false := by decide
theorem isi_ts : isiT "tuple" "str" = false := by decide
theorem ty_str {M : Mem} {s : Str} : tyN M (.str s) = some "str" := rfl
theorem ty_tup {M : Mem} {l : List D} : tyN M (.tup l) = some "tuple" := rfl
theorem ty_ftp {M : Mem} {l : List D} : tyN M (.ftp l) = some "tuple" := rfl
theorem all_lst {M : Mem} {l : List D} {post : WK} : gAll M [.lst l] post = got (bools l) fun bs => post (.bl (bs.all id)) M := rfl
theorem any_lst {M : Mem} {l : List D} {post : WK} : gAny M [.lst l] post = got (bools l) fun bs => post (.bl (bs.any id)) M := rfl
theorem flat_s {s : Str} : flatD (.str s) = true := rfl
theorem tuple_lst {M : Mem} {l : List D} {post : WK} : gTuple M [.lst l] post = post (.ftp l) M := rfl
theorem int_int {M : Mem} {i : Int} {post : WK} : gInt M [.int i] post = post (.int i) M := rfl
theorem isND_non {d : D} : isND d .non = some (.bl (isNon d)) := rfl
theorem isNon_non : isNon .non = true := rfl
theorem isNon_int {i : Int} : isNon (.int i) = false := rfl
theorem isNon_str {i : Str} : isNon (.str i) = false := rfl
theorem isNon_ptr {i : Addr} : isNon (.ptr i) = false := rfl
theorem isNon_tup {l : List D} : isNon (.tup l) = false := rfl
theorem isNon_ftp {l : List D} : isNon (.ftp l) = false := rfl
/-! ### comprehensions, loops: what is asked once the items are known -/
def LcI (items : List D) (G : Mem → Prop) (gd : GD) (tt : WT) (te : WE) (Γ : Env) (M : Mem) (post : WK) : Prop := ∃ Pv : Nat → List D → Mem → Prop, Pv 0 [] M ∧ (∀ i acc M', Pv i acc M' → G M') ∧
  (∀ i d acc M', items[i]? = some d → Pv i acc M' → gd d Γ fun Γ2 => tt Γ2 M' fun b M3 => if b = true then te Γ2 M3 fun y M4 => Pv (i + 1) (acc ++ [y]) M4 else Pv (i + 1) acc M3) ∧
  ∀ acc M', Pv items.length acc M' → post (.lst acc) M'
theorem wLc_eq {wi : WI} {gd : GD} {tt : WT} {te : WE} : wLc wi gd tt te = fun Γ M post => wi Γ M fun items G M1 => LcI items G gd tt te Γ M1 post := rfl
def ForI (items : List D) (G : Mem → Prop) (g : WG) (tb : WS) (E : DEnds) (Γ : Env) (M : Mem) : Prop := ∃ Pv : Nat → Env → Mem → Prop, Pv 0 Γ M ∧ (∀ i Γ' M', Pv i Γ' M' → G M') ∧
  (∀ i d Γ' M', items[i]? = some d → Pv i Γ' M' → g d Γ' M' fun Γ2 M2 => tb { E with nx := Pv (i + 1), ct := Pv (i + 1), bk := E.nx } Γ2 M2) ∧ ∀ Γ' M', Pv items.length Γ' M' → E.nx Γ' M'
theorem sFor_eq {wi : WI} {g : WG} {tb : WS} : sFor wi g tb = fun E Γ M => wi Γ M fun items G M1 => ForI items G g tb E Γ M1 := rfl
def DcI (emp : MO) (items : List D) (G : Mem → Prop) (gd : GD) (tt : WT) (tk tv : WE) (Γ : Env) (M : Mem) (post : WK) : Prop := ∀ p, M p = none → ∃ Pv : Nat → Mem → Prop, Pv 0 (M.upd p emp) ∧ (∀ i M', Pv i M' → G M') ∧
  (∀ i d M', items[i]? = some d → Pv i M' → gd d Γ fun Γ2 => tt Γ2 M' fun b M3 => if b = true then tk Γ2 M3 fun y M4 => tv Γ2 M4 fun z M5 => dPut M5 (.ptr p) y z fun M6 => Pv (i + 1) M6 else Pv (i + 1) M3) ∧
  ∀ M', Pv items.length M' → post (.ptr p) M'
theorem wDc_eq {emp : MO} {wi : WI} {gd : GD} {tt : WT} {tk tv : WE} : wDc emp wi gd tt tk tv = fun Γ M post => wi Γ M fun items G M1 => DcI emp items G gd tt tk tv Γ M1 post := rfl
/-- a comprehension; Iv is kept; the element and the test are functions of the item -/
theorem lc_at {gd : GD} {tt : WT} {te : WE} {Γ : Env} {M : Mem} {post : WK} {G : Mem → Prop} {α : Type} (xs : List α) (enc : α → D) (g : α → Bool) (f : α → D) (Iv : Mem → Prop) (i0 : Iv M) (iG : ∀ M', Iv M' → G M')
    (step : ∀ x ∈ xs, ∀ M', Iv M' → ∀ (yes : WK) (no : Mem → Prop), (g x = true → ∀ M2, Iv M2 → yes (f x) M2) → (g x = false → ∀ M2, Iv M2 → no M2) → gd (enc x) Γ fun Γ2 => tt Γ2 M' fun b M3 => if b = true then te Γ2 M3 yes else no M3)
    (fin : ∀ M', Iv M' → post (.lst ((xs.filter g).map f)) M') : LcI (xs.map enc) G gd tt te Γ M post := by
  refine ⟨fun i acc M' => acc = ((xs.take i).filter g).map f ∧ Iv M', ⟨rfl, i0⟩, fun i acc M' h => iG M' h.2, ?_, ?_⟩
  · rintro i d acc M' hd ⟨rfl, im⟩
    rw [List.getElem?_map] at hd
    cases e : xs[i]? with
    | none => rw [e] at hd; cases hd
    | some x =>
      rw [e] at hd; cases hd
      have hx : x ∈ xs := List.mem_of_getElem? e
      exact step x hx M' im _ _ (fun gx M2 i2 => ⟨by rw [List.take_succ, e]; simp [gx], i2⟩) (fun gx M2 i2 => ⟨by rw [List.take_succ, e]; simp [gx], i2⟩)
  · rintro acc M' ⟨rfl, im⟩
    rw [List.length_map, List.take_length]
    exact fin M' im
/-- pure -/
theorem lc_pure {gd : GD} {tt : WT} {te : WE} {Γ : Env} {M : Mem} {post : WK} {G : Mem → Prop} {α : Type} (xs : List α) (enc : α → D) (g : α → Bool) (f : α → D) (iG : G M)
    (step : ∀ x ∈ xs, ∀ (yes : WK) (no : Mem → Prop), (g x = true → yes (f x) M) → (g x = false → no M) → gd (enc x) Γ fun Γ2 => tt Γ2 M fun b M3 => if b = true then te Γ2 M3 yes else no M3)
    (fin : post (.lst ((xs.filter g).map f)) M) : LcI (xs.map enc) G gd tt te Γ M post := by
  refine lc_at xs enc g f (· = M) rfl (fun M' h => h ▸ iG) ?_ ?_
  · rintro x hx M' rfl yes no hy hn
    exact step x hx yes no (fun q => hy q M' rfl) fun q => hn q M' rfl
  · rintro M' rfl
    exact fin
theorem filter_tt {α : Type} (xs : List α) : xs.filter (fun _ => true) = xs := List.filter_eq_self.mpr fun _ _ => rfl
/-- no test -/
theorem lc_mapI {gd : GD} {te : WE} {Γ : Env} {M : Mem} {post : WK} {G : Mem → Prop} {α : Type} (xs : List α) (enc : α → D) (f : α → D) (Iv : Mem → Prop) (i0 : Iv M) (iG : ∀ M', Iv M' → G M')
    (step : ∀ x ∈ xs, ∀ M', Iv M' → ∀ (yes : WK), (∀ M2, Iv M2 → yes (f x) M2) → gd (enc x) Γ fun Γ2 => te Γ2 M' yes)
    (fin : ∀ M', Iv M' → post (.lst (xs.map f)) M') : LcI (xs.map enc) G gd tYesD te Γ M post := by
  refine lc_at xs enc (fun _ => true) f Iv i0 iG ?_ ?_
  · intro x hx M' im yes no hy hn
    exact step x hx M' im yes (hy rfl)
  · intro M' im
    rw [filter_tt]; exact fin M' im
theorem lc_map {gd : GD} {te : WE} {Γ : Env} {M : Mem} {post : WK} {G : Mem → Prop} {α : Type} (xs : List α) (enc : α → D) (f : α → D) (iG : G M)
    (step : ∀ x ∈ xs, ∀ (yes : WK), yes (f x) M → gd (enc x) Γ fun Γ2 => te Γ2 M yes)
    (fin : post (.lst (xs.map f)) M) : LcI (xs.map enc) G gd tYesD te Γ M post := by
  refine lc_mapI xs enc f (· = M) rfl (fun M' h => h ▸ iG) ?_ ?_
  · rintro x hx M' rfl yes hy
    exact step x hx yes (hy M' rfl)
  · rintro M' rfl
    exact fin
/-- two loops -/
def Lc2J (jtems : List D) (G' : Mem → Prop) (ge : GD) (tu : WT) (te : WE) (acc0 : List D) (Γ2 : Env) (M4 : Mem) (nx : List D → Mem → Prop) : Prop := ∃ Pw : Nat → List D → Mem → Prop, Pw 0 acc0 M4 ∧ (∀ j acc M', Pw j acc M' → G' M') ∧
      (∀ j d acc M', jtems[j]? = some d → Pw j acc M' → ge d Γ2 fun Γ3 => tu Γ3 M' fun b M5 => if b = true then te Γ3 M5 fun y M6 => acc.length < 16777216 ∧ Pw (j + 1) (acc ++ [y]) M6 else Pw (j + 1) acc M5) ∧
      ∀ acc M', Pw jtems.length acc M' → nx acc M'
def Lc2I (items : List D) (G : Mem → Prop) (gd : GD) (tt : WT) (wj : WI) (ge : GD) (tu : WT) (te : WE) (Γ : Env) (M : Mem) (post : WK) : Prop := ∃ Pv : Nat → List D → Mem → Prop, Pv 0 [] M ∧ (∀ i acc M', Pv i acc M' → G M') ∧
  (∀ i d acc M', items[i]? = some d → Pv i acc M' → gd d Γ fun Γ2 => tt Γ2 M' fun b M3 => if b = true then wj Γ2 M3 fun jtems G' M4 => Lc2J jtems G' ge tu te acc Γ2 M4 (Pv (i + 1))
    else Pv (i + 1) acc M3) ∧
  ∀ acc M', Pv items.length acc M' → post (.lst acc) M'
theorem wLc2_eq {wi : WI} {gd : GD} {tt : WT} {wj : WI} {ge : GD} {tu : WT} {te : WE} : wLc2 wi gd tt wj ge tu te = fun Γ M post => wi Γ M fun items G M1 => Lc2I items G gd tt wj ge tu te Γ M1 post := rfl
/-- two loops without tests: the elements are a function of both items -/
theorem lc2_map {gd : GD} {wj : WI} {ge : GD} {te : WE} {Γ : Env} {M : Mem} {post : WK} {G : Mem → Prop} {α β : Type} (xs : List α) (enc : α → D) (ys : α → List β) (enb : β → D) (f : α → β → D) (iG : G M)
    (hz : (xs.flatMap fun x => (ys x).map (f x)).length ≤ 16777216)
    (inner : ∀ x ∈ xs, ∀ (k : List D → (Mem → Prop) → Env → Prop), (∀ G', G' M → ∀ Γ2, (∀ y ∈ ys x, ∀ yes : WK, yes (f x y) M → ge (enb y) Γ2 fun Γ3 => te Γ3 M yes) → k ((ys x).map enb) G' Γ2) → gd (enc x) Γ fun Γ2 => wj Γ2 M fun jtems G' M4 => M4 = M ∧ k jtems G' Γ2)
    (mono : ∀ Γ2 (P Q : List D → (Mem → Prop) → Mem → Prop), (∀ i G M, P i G M → Q i G M) → wj Γ2 M P → wj Γ2 M Q) (gmono : ∀ d (P Q : Env → Prop), (∀ g, P g → Q g) → gd d Γ P → gd d Γ Q)
    (fin : post (.lst (xs.flatMap fun x => (ys x).map (f x))) M) : Lc2I (xs.map enc) G gd tYesD wj ge tYesD te Γ M post := by
  refine ⟨fun i acc M' => acc = ((xs.take i).flatMap fun x => (ys x).map (f x)) ∧ M' = M, ⟨rfl, rfl⟩, fun i acc M' h => h.2 ▸ iG, ?_, ?_⟩
  · rintro i d acc M' hd ⟨rfl, rfl⟩
    rw [List.getElem?_map] at hd
    cases e : xs[i]? with
    | none => rw [e] at hd; cases hd
    | some x =>
      rw [e] at hd; cases hd
      have hx : x ∈ xs := List.mem_of_getElem? e
      have e1 : (xs.take (i + 1)).flatMap (fun x => (ys x).map (f x)) = (xs.take i).flatMap (fun x => (ys x).map (f x)) ++ (ys x).map (f x) := by rw [List.take_succ, e]; simp
      have hz1 : ((xs.take (i + 1)).flatMap fun x => (ys x).map (f x)).length ≤ 16777216 := by
        refine Nat.le_trans ?_ hz
        conv => rhs; rw [← List.take_append_drop (i + 1) xs, List.flatMap_append, List.length_append]
        exact Nat.le_add_right _ _
      refine gmono _ _ _ (fun g q => mono _ _ _ (fun it G1 M1 q => ?_) q) (inner x hx (fun jtems G' Γ2 => G' M' ∧ jtems = (ys x).map enb ∧ ∀ y ∈ ys x, ∀ yes : WK, yes (f x y) M' → ge (enb y) Γ2 fun Γ3 => te Γ3 M' yes) fun G' g' Γ2 hy => ⟨g', rfl, hy⟩)
      obtain ⟨rfl, g', rfl, hy⟩ := q
      refine ⟨fun j acc M2 => acc = ((xs.take i).flatMap fun x => (ys x).map (f x)) ++ ((ys x).take j).map (f x) ∧ M2 = M1, ⟨by simp, rfl⟩, fun j acc M2 h => h.2 ▸ g', ?_, ?_⟩
      · rintro j d acc M2 hd ⟨rfl, rfl⟩
        rw [List.getElem?_map] at hd
        cases e2 : (ys x)[j]? with
        | none => rw [e2] at hd; cases hd
        | some y =>
          rw [e2] at hd; cases hd
          refine hy y (List.mem_of_getElem? e2) _ ⟨?_, ?_, rfl⟩
          · rw [e1, List.length_append, List.length_map] at hz1
            rw [List.length_append, List.length_map, List.length_take]
            have := (List.getElem?_eq_some_iff.mp e2).1
            omega
          · rw [List.take_succ, e2]; simp
      · rintro acc M2 ⟨rfl, rfl⟩
        refine ⟨?_, rfl⟩
        rw [List.length_map, List.take_length, e1]
  · rintro acc M' ⟨rfl, rfl⟩
    rw [List.length_map, List.take_length]
    exact fin
/-! ### loops that search: the body goes on or hands back -/
/-- what is kept between the turns tells nothing of the turn -/
theorem for_inv {g : WG} {tb : WS} {E : DEnds} {Γ : Env} {M : Mem} {G : Mem → Prop} {items : List D} (Iv : Env → Mem → Prop) (i0 : Iv Γ M) (iG : ∀ Γ' M', Iv Γ' M' → G M')
    (step : ∀ d ∈ items, ∀ Γ' M', Iv Γ' M' → g d Γ' M' fun Γ2 M2 => tb { E with nx := Iv, ct := Iv, bk := E.nx } Γ2 M2) (fin : ∀ Γ' M', Iv Γ' M' → E.nx Γ' M') : ForI items G g tb E Γ M :=
  ⟨fun _ => Iv, i0, fun _ => iG, fun i d Γ' M' hd iv => step d (List.mem_of_getElem? hd) Γ' M' iv, fin⟩
end FD

namespace FD
open PySem PySem.Spec PyProof.Rows L2
/-! ### loops, by what they fold -/
section
variable {g : WG} {tb : WS} {E : DEnds} {Γ : Env} {M : Mem} {G : Mem → Prop} {α σ : Type}
theorem for_map (xs : List α) (enc : α → D) (Iv : Nat → Env → Mem → Prop) (i0 : Iv 0 Γ M) (iG : ∀ i Γ' M', Iv i Γ' M' → G M')
    (step : ∀ i x, xs[i]? = some x → ∀ Γ' M', Iv i Γ' M' → g (enc x) Γ' M' fun Γ2 M2 => tb ⟨Iv (i + 1), E.rt, E.nx, Iv (i + 1)⟩ Γ2 M2)
    (fin : ∀ Γ' M', Iv xs.length Γ' M' → E.nx Γ' M') : ForI (xs.map enc) G g tb E Γ M := by
  refine ⟨Iv, i0, iG, fun i d Γ' M' hd h => ?_, fun Γ' M' h => fin Γ' M' (by rw [List.length_map] at h; exact h)⟩
  rw [List.getElem?_map] at hd
  cases e : xs[i]? with
  | none => rw [e] at hd; cases hd
  | some x => rw [e] at hd; cases hd; exact step i x e Γ' M' h
theorem foldl_take {f : σ → α → σ} {s : σ} {xs : List α} {i : Nat} {x : α} (e : xs[i]? = some x) : (xs.take (i + 1)).foldl f s = f ((xs.take i).foldl f s) x := by
  rw [List.take_succ, e]; simp
theorem for_fold (xs : List α) (enc : α → D) (f : σ → α → σ) (s0 : σ) (Iv : σ → Env → Mem → Prop) (i0 : Iv s0 Γ M) (iG : ∀ s Γ' M', Iv s Γ' M' → G M')
    (step : ∀ s x, x ∈ xs → ∀ Γ' M', Iv s Γ' M' → g (enc x) Γ' M' fun Γ2 M2 => tb ⟨Iv (f s x), E.rt, E.nx, Iv (f s x)⟩ Γ2 M2)
    (fin : ∀ Γ' M', Iv (xs.foldl f s0) Γ' M' → E.nx Γ' M') : ForI (xs.map enc) G g tb E Γ M := by
  refine for_map xs enc (fun i => Iv ((xs.take i).foldl f s0)) i0 (fun i => iG _) (fun i x e Γ' M' h => ?_) (fun Γ' M' h => fin Γ' M' (by rw [List.take_length] at h; exact h))
  have q := step _ x (List.mem_of_getElem? e) Γ' M' h
  rw [foldl_take e]
  exact q
/-- the loop hands back at the first item with c -/
theorem for_find (xs : List α) (enc : α → D) (c : α → Bool) (Iv : Env → Mem → Prop) (i0 : Iv Γ M) (iG : ∀ Γ' M', Iv Γ' M' → G M')
    (step : ∀ x ∈ xs, ∀ Γ' M', Iv Γ' M' → ∀ N : Env → Mem → Prop, (c x = true → xs.find? c = some x → g (enc x) Γ' M' fun Γ2 M2 => tb ⟨N, E.rt, E.nx, N⟩ Γ2 M2) ∧ (c x = false → (∀ Γ2 M2, Iv Γ2 M2 → N Γ2 M2) → g (enc x) Γ' M' fun Γ2 M2 => tb ⟨N, E.rt, E.nx, N⟩ Γ2 M2))
    (fin : xs.find? c = none → ∀ Γ' M', Iv Γ' M' → E.nx Γ' M') : ForI (xs.map enc) G g tb E Γ M := by
  refine for_map xs enc (fun i Γ' M' => (∀ y ∈ xs.take i, c y = false) ∧ Iv Γ' M') ⟨fun y hy => by simp at hy, i0⟩ (fun i Γ' M' h => iG _ _ h.2) (fun i x e Γ' M' h => ?_) fun Γ' M' h => ?_
  · have hx := List.mem_of_getElem? e
    have q := step x hx Γ' M' h.2 (fun Γ2 M2 => (∀ y ∈ xs.take (i + 1), c y = false) ∧ Iv Γ2 M2)
    cases hc : c x with
    | true =>
      refine q.1 hc ?_
      have hl : i < xs.length := (List.getElem?_eq_some_iff.mp e).1
      have e2 : xs = xs.take i ++ x :: xs.drop (i + 1) := by
        have := List.getElem_cons_drop (as := xs) (i := i) hl
        rw [(List.getElem?_eq_some_iff.mp e).2] at this
        rw [this, List.take_append_drop]
      rw [List.find?_eq_some_iff_append]
      exact ⟨hc, xs.take i, xs.drop (i + 1), e2, fun y hy => by rw [h.1 y hy]; rfl⟩
    | false =>
      refine q.2 hc fun Γ2 M2 iv => ⟨fun y hy => ?_, iv⟩
      rw [List.take_succ, e] at hy
      simp only [Option.toList, List.mem_append, List.mem_singleton] at hy
      rcases hy with hy | rfl
      · exact h.1 y hy
      · exact hc
  · refine fin ?_ Γ' M' h.2
    rw [List.find?_eq_none]
    intro x hx
    have := h.1 x (by rw [List.take_length]; exact hx)
    rw [this]; simp
end
section
variable {gd : GD} {tt : WT} {te : WE} {Γ : Env} {M : Mem} {post : WK} {G : Mem → Prop} {α σ : Type}
/-- a comprehension without a test whose element may change the store: what is demanded of the elements one by one -/
theorem lc_draw (xs : List α) (enc : α → D) (Iv : List D → Mem → Prop) (i0 : Iv [] M) (iG : ∀ acc M', Iv acc M' → G M')
    (step : ∀ x ∈ xs, ∀ acc M', acc.length < xs.length → Iv acc M' → ∀ yes : WK, (∀ y M4, Iv (acc ++ [y]) M4 → yes y M4) → gd (enc x) Γ fun Γ2 => te Γ2 M' yes)
    (fin : ∀ acc M', acc.length = xs.length → Iv acc M' → post (.lst acc) M') : LcI (xs.map enc) G gd tYesD te Γ M post := by
  refine ⟨fun i acc M' => acc.length = i ∧ Iv acc M', ⟨rfl, i0⟩, fun i acc M' h => iG _ _ h.2, ?_, ?_⟩
  · rintro i d acc M' hd ⟨hl, iv⟩
    rw [List.getElem?_map] at hd
    cases e : xs[i]? with
    | none => rw [e] at hd; cases hd
    | some x =>
      rw [e] at hd; cases hd
      have hi := (List.getElem?_eq_some_iff.mp e).1
      have q := step x (List.mem_of_getElem? e) acc M' (by omega) iv (fun y M4 => (acc ++ [y]).length = i + 1 ∧ Iv (acc ++ [y]) M4) fun y M4 h => ⟨by simp [hl], h⟩
      simp only [tYesD, if_true]
      exact q
  · rintro acc M' ⟨hl, iv⟩
    rw [List.length_map] at hl
    exact fin acc M' hl iv
end
/-! ### small words, more of them -/
section
variable {M : Mem} {post : WK}
theorem add_str {a b : Str} {k : D → Prop} : got (addD (.str a) (.str b)) k = (a.length + b.length ≤ 16777216 ∧ k (.str (a ++ b))) := by
  show got (if a.length + b.length ≤ 16777216 then some (D.str (a ++ b)) else none) k = _
  by_cases h : a.length + b.length ≤ 16777216
  · rw [if_pos h]; exact propext ⟨fun q => ⟨h, q⟩, fun q => q.2⟩
  · rw [if_neg h]; exact propext ⟨fun q => q.elim, fun q => absurd q.1 h⟩
theorem add_lst {a b : List D} {k : D → Prop} : got (addD (.lst a) (.lst b)) k = (a.length + b.length ≤ 16777216 ∧ k (.lst (a ++ b))) := by
  show got (if a.length + b.length ≤ 16777216 then some (D.lst (a ++ b)) else none) k = _
  by_cases h : a.length + b.length ≤ 16777216
  · rw [if_pos h]; exact propext ⟨fun q => ⟨h, q⟩, fun q => q.2⟩
  · rw [if_neg h]; exact propext ⟨fun q => q.elim, fun q => absurd q.1 h⟩
theorem add_tup {a b : List D} {k : D → Prop} : got (addD (.tup a) (.tup b)) k = (a.length + b.length ≤ 16777216 ∧ k (.tup (a ++ b))) := by
  rw [addD_tup (a := a) (b := b) rfl rfl]
  by_cases h : a.length + b.length ≤ 16777216
  · rw [if_pos h]
    refine propext ⟨fun q => ⟨h, ?_⟩, fun q => ?_⟩
    · have q : k (if a = [] then .tup b else if b = [] then .tup a else .tup (a ++ b)) := q
      split at q
      · rename_i e; rw [e]; exact q
      · split at q
        · rename_i e; rw [e, List.append_nil]; exact q
        · exact q
    · show k (if a = [] then .tup b else if b = [] then .tup a else .tup (a ++ b))
      split
      · rename_i e; rw [e] at q; exact q.2
      · split
        · rename_i e; rw [e, List.append_nil] at q; exact q.2
        · exact q.2
  · rw [if_neg h]; exact propext ⟨fun q => q.elim, fun q => absurd q.1 h⟩
theorem mul_int {i j : Int} {k : D → Prop} : got (mulD (.int i) (.int j)) k = ((i.natAbs < 18446744073709551616 ∨ j.natAbs < 18446744073709551616) ∧ k (.int (i * j))) := by
  show got (if i.natAbs < 18446744073709551616 ∨ j.natAbs < 18446744073709551616 then some (D.int (i * j)) else none) k = _
  by_cases h : i.natAbs < 18446744073709551616 ∨ j.natAbs < 18446744073709551616
  · rw [if_pos h]; exact propext ⟨fun q => ⟨h, q⟩, fun q => q.2⟩
  · rw [if_neg h]; exact propext ⟨fun q => q.elim, fun q => absurd q.1 h⟩
theorem mod_int {i j : Int} {k : D → Prop} : got (modD (.int i) (.int j)) k = (0 < j ∧ k (.int (i % j))) := by
  show got (if 0 < j then some (D.int (i % j)) else none) k = _
  by_cases h : 0 < j
  · rw [if_pos h]; exact propext ⟨fun q => ⟨h, q⟩, fun q => q.2⟩
  · rw [if_neg h]; exact propext ⟨fun q => q.elim, fun q => absurd q.1 h⟩
theorem fdiv_int {i j : Int} {k : D → Prop} : got (fdivD (.int i) (.int j)) k = ((0 < j ∧ j < 1073741824) ∧ k (.int (i / j))) := by
  show got (if 0 < j ∧ j < 1073741824 then some (D.int (i / j)) else none) k = _
  by_cases h : 0 < j ∧ j < 1073741824
  · rw [if_pos h]; exact propext ⟨fun q => ⟨h, q⟩, fun q => q.2⟩
  · rw [if_neg h]; exact propext ⟨fun q => q.elim, fun q => absurd q.1 h⟩
theorem pow_int {i j : Int} {k : D → Prop} : got (powD (.int i) (.int j)) k = ((0 ≤ j ∧ j ≤ 1000000 ∧ i.natAbs < 18446744073709551616) ∧ k (.int (i ^ j.toNat))) := by
  show got (if 0 ≤ j ∧ j ≤ 1000000 ∧ i.natAbs < 18446744073709551616 then some (D.int (i ^ j.toNat)) else none) k = _
  by_cases h : 0 ≤ j ∧ j ≤ 1000000 ∧ i.natAbs < 18446744073709551616
  · rw [if_pos h]; exact propext ⟨fun q => ⟨h, q⟩, fun q => q.2⟩
  · rw [if_neg h]; exact propext ⟨fun q => q.elim, fun q => absurd q.1 h⟩
theorem dpAll_strs : ∀ ss : List Str, dpAll (ss.map D.str) = 0
  | [] => by simp [dpAll]
  | s :: ss => by rw [List.map_cons, dpAll, dpAll_strs ss]; simp [D.dp]
theorem dpAll_ints : ∀ l : List Int, dpAll (l.map D.int) = 0
  | [] => by simp [dpAll]
  | s :: ss => by rw [List.map_cons, dpAll, dpAll_ints ss]; simp [D.dp]
theorem dpAll_mapI {α : Type} {f : α → Int} (l : List α) : dpAll (l.map fun x => D.int (f x)) = 0 := by
  have := dpAll_ints (l.map f)
  rwa [List.map_map] at this
/-- t == () -/
theorem eq_ftp_nil {l : List D} : gEq M (.ftp l) (.tup []) post = (dpAll l + 1 ≤ 64 ∧ post (.bl l.isEmpty) M) := by
  unfold gEq rsv
  have e : eqd (.ftp l) (.tup []) = l.isEmpty := by cases l <;> simp [eqd, D.py, pyAll, PyData.eqv, PyData.eqvAll]
  simp only [e]
  have z : (D.tup []).dp ≤ 64 := by simp [D.dp, dpAll]
  have z2 : (D.ftp l).dp = dpAll l + 1 := by simp [D.dp]
  rw [z2]
  exact propext ⟨fun q => ⟨q.1, q.2.2⟩, fun q => ⟨q.1, z, q.2⟩⟩
theorem ne_ftp_nil {l : List D} : gNe M (.ftp l) (.tup []) post = (dpAll l + 1 ≤ 64 ∧ post (.bl (!l.isEmpty)) M) := by
  unfold gNe rsv
  have e : eqd (.ftp l) (.tup []) = l.isEmpty := by cases l <;> simp [eqd, D.py, pyAll, PyData.eqv, PyData.eqvAll]
  simp only [e]
  have z : (D.tup []).dp ≤ 64 := by simp [D.dp, dpAll]
  have z2 : (D.ftp l).dp = dpAll l + 1 := by simp [D.dp]
  rw [z2]
  exact propext ⟨fun q => ⟨q.1, q.2.2⟩, fun q => ⟨q.1, z, q.2⟩⟩
theorem Mem.del_upd {a : Addr} {o : MO} (h : M a = none) : (M.upd a o).del a = M := by
  funext b
  unfold Mem.del Mem.upd
  by_cases e : b = a
  · rw [if_pos e, e, h]
  · rw [if_neg e, if_neg e]
theorem Mem.upd_upd {a : Addr} {o o' : MO} : (M.upd a o).upd a o' = M.upd a o' := by
  funext b
  unfold Mem.upd
  by_cases e : b = a
  · rw [if_pos e, if_pos e]
  · rw [if_neg e, if_neg e, if_neg e]
theorem cell_eq {a : Addr} {l : List D} {k : Addr → List D → Prop} (h : M a = some (.lst l)) : cell M (.ptr a) k = k a l := by
  unfold cell; simp only [h]
theorem cell_upd {a : Addr} {l : List D} {k : Addr → List D → Prop} : cell (M.upd a (.lst l)) (.ptr a) k = k a l := cell_eq Mem.upd_same
theorem insOf_eq {C a : Addr} {fs : List (Str × D)} {k : Addr → List (Str × D) → Prop} (h : M a = some (.ins C fs)) : insOf M C (.ptr a) k = k a fs := by
  unfold insOf; simp [h]
theorem dAt_T {a : Addr} {l : List (List Key × D)} {y : D} {c : Option D → Prop} {k : List Key} (h : M a = some (.dT l)) (e : keyT y = some k) : dAt M (.ptr a) y c = c (valD l k) := by
  unfold dAt; simp only [h, e]; rfl
theorem dAt_K {a : Addr} {l : List (Key × D)} {y : D} {c : Option D → Prop} {k : Key} (h : M a = some (.dK l)) (e : keyK y = some k) : dAt M (.ptr a) y c = c (valD l k) := by
  unfold dAt; simp only [h, e]; rfl
theorem dPut_T {a : Addr} {l : List (List Key × D)} {y z : D} {c : Mem → Prop} {k : List Key} (h : M a = some (.dT l)) (e : keyT y = some k) : dPut M (.ptr a) y z c = (l.length < 16777216 ∧ c (M.upd a (.dT (putD l k z)))) := by
  unfold dPut; simp only [h, e]; rfl
theorem dPut_K {a : Addr} {l : List (Key × D)} {y z : D} {c : Mem → Prop} {k : Key} (h : M a = some (.dK l)) (e : keyK y = some k) : dPut M (.ptr a) y z c = (l.length < 16777216 ∧ c (M.upd a (.dK (putD l k z)))) := by
  unfold dPut; simp only [h, e]; rfl
theorem asL_cell {a : Addr} {l : List D} {k : List D → (Mem → Prop) → Prop} (h : M a = some (.lst l)) : asL M (.ptr a) k = k l fun M' => M' a = some (.lst l) := by
  unfold asL; simp only [h]
theorem okL_cell {a : Addr} {l : List D} (h : M a = some (.lst l)) : okL M (.ptr a) := ⟨l, by unfold lstOf; simp only [tupOf]; unfold seqOf; simp only [h]⟩
theorem append_eq {a : Addr} {l : List D} {y : D} (h : M a = some (.lst l)) : gAppend M (.ptr a) [y] post = (l.length < 16777216 ∧ post .non (M.upd a (.lst (l ++ [y])))) := by
  unfold gAppend; rw [one_one, cell_eq h]
end
end FD

namespace FD
open PySem PySem.Spec PyProof.Rows L2
/-! ### freezing: what is not changed any more is handed on as data -/
mutual
/-- e is d, with what M has and M' lacks as data -/
inductive Fz (M M' : Mem) : D → D → Prop
  | same (d : D) : Fz M M' d d
  | lst {a : Addr} {l l' : List D} (h : M a = some (.lst l)) (n : M' a = none) (f : FzAll M M' l l') : Fz M M' (.ptr a) (.lst l')
  | dK {a : Addr} {l l' : List (Key × D)} (h : M a = some (.dK l)) (n : M' a = none) (hk : l.map (·.1) = l'.map (·.1)) (f : FzAll M M' (l.map (·.2)) (l'.map (·.2))) : Fz M M' (.ptr a) (.dcK l')
  | dT {a : Addr} {l l' : List (List Key × D)} (h : M a = some (.dT l)) (n : M' a = none) (hk : l.map (·.1) = l'.map (·.1)) (f : FzAll M M' (l.map (·.2)) (l'.map (·.2))) : Fz M M' (.ptr a) (.dcT l')
  | obj {a C : Addr} {l l' : List (Str × D)} (h : M a = some (.ins C l)) (n : M' a = none) (hk : l.map (·.1) = l'.map (·.1)) (f : FzAll M M' (l.map (·.2)) (l'.map (·.2))) : Fz M M' (.ptr a) (.obj C l')
inductive FzAll (M M' : Mem) : List D → List D → Prop
  | nil : FzAll M M' [] []
  | cons {d d' : D} {l l' : List D} (h : Fz M M' d d') (t : FzAll M M' l l') : FzAll M M' (d :: l) (d' :: l')
end
theorem FzAll.len {M M' : Mem} : ∀ {l l' : List D}, FzAll M M' l l' → l.length = l'.length
  | _, _, .nil => rfl
  | _, _, .cons _ t => by rw [List.length_cons, List.length_cons, FzAll.len t]
section
variable {K : PySem.W.Frag} {H0 H1 : F} {M M' : Mem}
mutual
theorem Fz.rp (s : F.le H0 H1) (dr : ∀ a mo, M a = some mo → M' a = none → ∃ o, H1.ice a = some o ∧ RpO K H0 mo o) : ∀ {d d' : D}, Fz M M' d d' → ∀ v, Rp K H0 v d → Rp K H1 v d'
  | _, _, .same d, v, r => r.mono s
  | _, _, .lst h n f, v, r => by
    cases r
    obtain ⟨o, ho, ro⟩ := dr _ _ h n
    cases ro with
    | lst ha hz => exact .lst ho (FzAll.rp s dr f _ ha) (by rw [← f.len]; exact hz)
  | _, _, .dK h n hk f, v, r => by
    cases r
    obtain ⟨o, ho, ro⟩ := dr _ _ h n
    cases ro with
    | dK kv => exact .dcK ho ((kv_to kv).1.trans hk) (FzAll.rp s dr f _ (kv_to kv).2)
  | _, _, .dT h n hk f, v, r => by
    cases r
    obtain ⟨o, ho, ro⟩ := dr _ _ h n
    cases ro with
    | dT kv => exact .dcT ho ((kv_to kv).1.trans hk) (FzAll.rp s dr f _ (kv_to kv).2)
  | _, _, .obj h n hk f, v, r => by
    cases r
    obtain ⟨o, ho, ro⟩ := dr _ _ h n
    cases ro with
    | ins kv => exact .obj ho ((kv_to kv).1.trans hk) (FzAll.rp s dr f _ (kv_to kv).2)
theorem FzAll.rp (s : F.le H0 H1) (dr : ∀ a mo, M a = some mo → M' a = none → ∃ o, H1.ice a = some o ∧ RpO K H0 mo o) : ∀ {l l' : List D}, FzAll M M' l l' → ∀ vs, RpAll K H0 vs l → RpAll K H1 vs l'
  | _, _, .nil, _, .nil => .nil
  | _, _, .cons h t, _, .cons r rs => .cons (Fz.rp s dr h _ r) (FzAll.rp s dr t _ rs)
end
end
def wFz (w : WE) : WE := fun Γ M post => w Γ M fun d M1 => ∃ (d' : D) (M2 : Mem), M2.le M1 ∧ Fz M1 M2 d d' ∧ post d' M2
theorem de_fz {X : Cx} {e : Expr} {we : WE} (he : DE X e we) : DE X e (wFz we) :=
  PE.weak he fun σ H Q h => up_bind (k := fun (d : D) _ (M1 : Mem) (post : WK) => ∃ (d' : D) (M2 : Mem), M2.le M1 ∧ Fz M1 M2 d d' ∧ post d' M2) h fun v d H1 H0 Γ M post f en r q p => by
    obtain ⟨d', M2, le, fz, q⟩ := q
    obtain ⟨H0', s, f', dr⟩ := f.drop le
    exact p v d' H1 H0' M2 q f' s (fz.rp s dr v r)
/-- a statement behind which something is left out of the store -/
def sFree (t : WS) : WS := fun E Γ M => t { E with nx := fun Γ' M1 => ∃ M2, M2.le M1 ∧ E.nx Γ' M2 } Γ M
theorem Mem.del_le {M : Mem} {a : Addr} : (M.del a).le M := fun b o e => by
  unfold Mem.del at e
  by_cases h : b = a
  · rw [if_pos h] at e; cases e
  · rw [if_neg h] at e; exact e
theorem Mem.del_same {M : Mem} {a : Addr} : M.del a a = none := by unfold Mem.del; rw [if_pos rfl]
theorem Mem.del_ne {M : Mem} {a b : Addr} (h : b ≠ a) : M.del a b = M b := by unfold Mem.del; rw [if_neg h]
end FD

namespace FD
open PySem PySem.Spec PyProof.Rows L2
/-! the words, as equations -/
theorem sSeq_e (t u : WS) : FD.sSeq t u = (fun E Γ M => t { E with nx := u E } Γ M : WS) := rfl
theorem sRet_e (w : WE) : FD.sRet w = (fun E Γ M => w Γ M E.rt : WS) := rfl
theorem sIf_e (t : WT) (u v : WS) : FD.sIf t u v = (fun E Γ M => t Γ M fun b M1 => if b = true then u E Γ M1 else v E Γ M1 : WS) := rfl
theorem sAsg_e (w : WE) (g : WG) : FD.sAsg w g = (fun E Γ M => w Γ M fun d M1 => g d Γ M1 E.nx : WS) := rfl
theorem gSet_e (i : Nat) : FD.gSet i = (fun d Γ M post => post (Γ.set i (some d)) M : WG) := rfl
theorem sDrop_e (w : WE) : FD.sDrop w = (fun E Γ M => w Γ M fun _ M1 => E.nx Γ M1 : WS) := rfl
theorem sNext_e : FD.sNext = (fun E Γ M => E.nx Γ M : WS) := rfl
theorem sPar_e (i j : Nat) (w : WA) : FD.sPar i j w = (fun E Γ M => w Γ M fun ds M1 => match ds with
  | [x, y] => E.nx ((Γ.set i (some x)).set j (some y)) M1
  | _ => False : WS) := rfl
theorem sPar3_e (i j l : Nat) (w : WA) : FD.sPar3 i j l w = (fun E Γ M => w Γ M fun ds M1 => match ds with
  | [x, y, z] => E.nx (((Γ.set i (some x)).set j (some y)).set l (some z)) M1
  | _ => False : WS) := rfl
theorem wIf_e (t : WT) (wa wb : WE) : FD.wIf t wa wb = (fun Γ M post => t Γ M fun c M1 => if c = true then wa Γ M1 post else wb Γ M1 post : WE) := rfl
theorem wOp_e (g : G2) (wa wb : WE) : FD.wOp g wa wb = (fun Γ M post => wa Γ M fun x M1 => wb Γ M1 fun y M2 => g M2 x y post : WE) := rfl
theorem wUn_e (g : G1) (wa : WE) : FD.wUn g wa = (fun Γ M post => wa Γ M fun x M1 => g M1 x post : WE) := rfl
theorem wVar_e (i : Nat) : FD.wVar i = (fun Γ M post => look Γ i fun d => post d M : WE) := rfl
theorem wC_e (d : D) : FD.wC d = (fun _ M post => post d M : WE) := rfl
theorem wTst_e (w : WE) : FD.wTst w = (fun Γ M post => w Γ M fun d M1 => isB d fun b => post b M1 : WT) := rfl
theorem wAnd_e (t u : WT) : FD.wAnd t u = (fun Γ M post => t Γ M fun c M1 => if c = true then u Γ M1 post else post false M1 : WT) := rfl
theorem wOr_e (t u : WT) : FD.wOr t u = (fun Γ M post => t Γ M fun c M1 => if c = true then post true M1 else u Γ M1 post : WT) := rfl
theorem wNot_e (t : WT) : FD.wNot t = (fun Γ M post => t Γ M fun c M1 => post (!c) M1 : WT) := rfl
theorem wAndV_e (wa wb : WE) : FD.wAndV wa wb = (fun Γ M post => wa Γ M fun d M1 => isB d fun c => if c = true then wb Γ M1 post else post (.bl false) M1 : WE) := rfl
theorem wOrV_e (wa wb : WE) : FD.wOrV wa wb = (fun Γ M post => wa Γ M fun d M1 => isB d fun c => if c = true then post (.bl true) M1 else wb Γ M1 post : WE) := rfl
theorem wNotV_e (wa : WE) : FD.wNotV wa = (fun Γ M post => wa Γ M fun d M1 => isB d fun c => post (.bl (!c)) M1 : WE) := rfl
theorem wChain_e (g g' : G2) (wa wb wc : WE) : FD.wChain g g' wa wb wc = (fun Γ M post => wa Γ M fun x M1 => wb Γ M1 fun y M2 => g M2 x y fun z M3 => isB z fun k => if k = true then wc Γ M3 fun u M4 => g' M4 y u post else post (.bl false) M3 : WE) := rfl
theorem aNil_e : FD.aNil = (fun _ M post => post [] M : WA) := rfl
theorem aCons_e (w : WE) (r : WA) : FD.aCons w r = (fun Γ M post => w Γ M fun d M1 => r Γ M1 fun ds M2 => post (d :: ds) M2 : WA) := rfl
theorem wTup_e (w : WA) : FD.wTup w = (fun Γ M post => w Γ M fun ds M1 => fitL ds ∧ post (.tup ds) M1 : WE) := rfl
theorem wLst_e (w : WA) : FD.wLst w = (fun Γ M post => w Γ M fun ds M1 => fitL ds ∧ post (.lst ds) M1 : WE) := rfl
theorem wFtp_e (w : WA) : FD.wFtp w = (fun Γ M post => w Γ M fun ds M1 => fitL ds ∧ post (.ftp ds) M1 : WE) := rfl
theorem wNew_e (w : WA) : FD.wNew w = (fun Γ M post => w Γ M fun ds M1 => fitL ds ∧ ∀ p, M1 p = none → post (.ptr p) (M1.upd p (.lst ds)) : WE) := rfl
theorem wCall_e (dsp : DSp) (w : WA) : FD.wCall dsp w = (fun Γ M post => w Γ M fun ds M1 => dsp ds M1 post : WE) := rfl
theorem wB_e (g : GA) (w : WA) : FD.wB g w = (fun Γ M post => w Γ M fun ds M1 => g M1 ds post : WE) := rfl
theorem wSl_e (g : GS) (w : WE) (wl wh : WO) : FD.wSl g w wl wh = (fun Γ M post => w Γ M fun d M1 => wl Γ M1 fun lo M2 => wh Γ M2 fun hi M3 => g M3 d lo hi post : WE) := rfl
theorem oSome_e (w : WE) : FD.oSome w = (fun Γ M post => w Γ M fun d M1 => isI d fun i => post (some i) M1 : WO) := rfl
theorem oNone_e : FD.oNone = (fun _ M post => post none M : WO) := rfl
theorem wIsi_e (T : String) (w : WE) : FD.wIsi T w = (fun Γ M post => w Γ M fun d M1 => got (tyN M1 d) fun t => post (.bl (isiT T t)) M1 : WE) := rfl
theorem wIsiC_e (C : Addr) (w : WE) : FD.wIsiC C w = (fun Γ M post => w Γ M fun d M1 => insR M1 C d fun _ => post (.bl true) M1 : WE) := rfl
theorem p1_e (f : D → Option D) : FD.p1 f = (fun M x post => got (f x) fun z => post z M : G1) := rfl
theorem p2_e (f : D → D → Option D) : FD.p2 f = (fun M x y post => got (f x y) fun z => post z M : G2) := rfl
theorem gLen_e : FD.gLen = (fun M ds post => one ds fun d => got (lenD M d) fun n => post (.int n) M : GA) := rfl
theorem iLst_e (w : WE) : FD.iLst w = (fun Γ M post => w Γ M fun d M1 => asL M1 d fun l G => post l G M1 : WI) := rfl
theorem iTup_e (w : WE) : FD.iTup w = (fun Γ M post => w Γ M fun d M1 => isT d fun l => post l noG M1 : WI) := rfl
theorem iStrD_e (w : WE) : FD.iStrD w = (fun Γ M post => w Γ M fun d M1 => isS d fun z => post (signs z) noG M1 : WI) := rfl
theorem iEnT_e (w : WA) : FD.iEnT w = (fun Γ M post => w Γ M fun ds M1 => one ds fun d => isT d fun l => post (enumD 0 l) noG M1 : WI) := rfl
theorem iEnL_e (w : WA) : FD.iEnL w = (fun Γ M post => w Γ M fun ds M1 => one ds fun d => match d with
  | .lst l => post (enumD 0 l) noG M1
  | _ => False : WI) := rfl
theorem iRng_e (w : WA) : FD.iRng w = (fun Γ M post => w Γ M fun ds M1 => match ds with
  | [.int j] => j ≤ 16777216 ∧ -16777216 ≤ j ∧ post (rng 0 j.toNat) noG M1
  | _ => False : WI) := rfl
theorem iRng2_e (w : WA) : FD.iRng2 w = (fun Γ M post => w Γ M fun ds M1 => match ds with
  | [.int i, .int j] => (j ≤ 16777216 ∧ -16777216 ≤ j ∧ i ≤ 16777216 ∧ 0 ≤ i) ∧ post (rng i (j - i).toNat) noG M1
  | _ => False : WI) := rfl
theorem gTup_e (n : Nat) (u : WGs) : FD.gTup n u = (fun d Γ M post => isT d fun l => l.length = n ∧ u l Γ M post : WG) := rfl
theorem gsNil_e : FD.gsNil = (fun ds Γ M post => ds = [] ∧ post Γ M : WGs) := rfl
theorem wM_e (ok : Mem → D → Prop) (g : GM) (wo : WE) (w : WA) : FD.wM ok g wo w = (fun Γ M post => wo Γ M fun d M1 => ok M1 d ∧ w Γ M1 fun ds M2 => g M2 d ds post : WE) := rfl
theorem wIxT_e (wo : WE) (w : WA) : FD.wIxT wo w = (fun Γ M post => wo Γ M fun d M1 => (∃ l, d = .ftp l) ∧ w Γ M1 fun ds M2 => gIndexT M2 d ds post : WE) := rfl
theorem wFld_e (C : Addr) (f : Str) (w : WE) : FD.wFld C f w = (fun Γ M post => w Γ M fun d M1 => insR M1 C d fun fs => got (fs.lookup f) fun v => post v M1 : WE) := rfl
theorem wMeth_e (C : Addr) (m : Str) (dsp : DSp) (wo : WE) (w : WA) : FD.wMeth C m dsp wo w = (fun Γ M post => wo Γ M fun d M1 => insR M1 C d fun fs => fs.lookup m = none ∧ w Γ M1 fun ds M2 => dsp (d :: ds) M2 post : WE) := rfl
theorem wMake_e (C : Addr) (dds : List D) (dsp : DSp) (w : WA) : FD.wMake C dds dsp w = (fun Γ M post => w Γ M fun ds M1 => ∀ a, M1 a = none → dsp (.ptr a :: (ds ++ dds)) (M1.upd a (.ins C [])) fun d M3 => d = .non ∧ post (.ptr a) M3 : WE) := rfl
theorem sFldD_e (C : Addr) (f : Str) (wo wv : WE) : FD.sFldD C f wo wv = (fun E Γ M => wv Γ M fun y M1 => wo Γ M1 fun d M2 => insOf M2 C d fun a fs => fs.length < 1000 ∧ E.nx Γ (M2.upd a (.ins C (putFD f y fs))) : WS) := rfl
theorem wDGet_e (wo wi : WE) : FD.wDGet wo wi = (fun Γ M post => wo Γ M fun d M1 => wi Γ M1 fun y M2 => dAt M2 d y fun r => got r fun z => post z M2 : WE) := rfl
theorem sDput_e (wo wi wv : WE) : FD.sDput wo wi wv = (fun E Γ M => wv Γ M fun z M1 => wo Γ M1 fun d M2 => wi Γ M2 fun y M3 => dPut M3 d y z fun M4 => E.nx Γ M4 : WS) := rfl
theorem wDNewK_e : FD.wDNewK = (fun _ M post => ∀ p, M p = none → post (.ptr p) (M.upd p (.dK [])) : WE) := rfl
theorem wDNewT_e : FD.wDNewT = (fun _ M post => ∀ p, M p = none → post (.ptr p) (M.upd p (.dT [])) : WE) := rfl
theorem wDisp1_e (emp : MO) (wk wv : WE) : FD.wDisp1 emp wk wv = (fun Γ M post => ∀ p, M p = none → wk Γ (M.upd p emp) fun y M1 => wv Γ M1 fun z M2 => dPut M2 (.ptr p) y z fun M3 => post (.ptr p) M3 : WE) := rfl
theorem wIce_e (w : WE) : FD.wIce w = (fun Γ M post => w Γ M fun d M1 => cell M1 d fun a l => post (.lst l) (M1.del a) : WE) := rfl
theorem gSub_e (wo wi : WE) : FD.gSub wo wi = (fun d Γ M post => wo Γ M fun x M1 => wi Γ M1 fun y M2 => isI y fun k => cell M2 x fun a l => got (ixN l.length k) fun j => post Γ (M2.upd a (.lst (l.set j d))) : WG) := rfl
theorem wCallK_e (dsp : DSp) (n m : Nat) (ix : List Nat) (w wk : WA) : FD.wCallK dsp n m ix w wk = (fun Γ M post => w Γ M fun ds M1 => wk Γ M1 fun es M2 => ds.length = n ∧ es.length = m ∧ dsp (pick ix (ds ++ es)) M2 post : WE) := rfl
theorem t1_e (i : Nat) : FD.t1 i = (fun d Γ post => post (Γ.set i (some d)) : GD) := rfl
theorem t2_e (i j : Nat) : FD.t2 i j = (fun d Γ post => isT d fun l => two l fun x y => post ((Γ.set i (some x)).set j (some y)) : GD) := rfl
theorem t1w_e (i j : Nat) : FD.t1w i j = (fun d Γ post => post ((Γ.set j none).set i (some d)) : GD) := rfl
theorem tYesD_e : FD.tYesD = (fun _ M post => post true M : WT) := rfl
theorem gDIn_e : FD.gDIn = (fun M y d post => dAt M d y fun r => post (.bl r.isSome) M : G2) := rfl
theorem gDNin_e : FD.gDNin = (fun M y d post => dAt M d y fun r => post (.bl (!r.isSome)) M : G2) := rfl
theorem gIndexT_e : FD.gIndexT = (fun M d ds post => one ds fun y => isS y fun z => match d with
  | .ftp l => got (txs l) fun ss => got (ss.findIdx? (· == z)) fun j => post (.int (j : Nat)) M
  | _ => False : GM) := rfl
theorem gIndex_e : FD.gIndex = (fun M d ds post => one ds fun y => isS y fun z => got (lstOf M d) fun l => got (txs l) fun ss => got (ss.findIdx? (· == z)) fun j => post (.int (j : Nat)) M : GM) := rfl
theorem gInt_e : FD.gInt = (fun M ds post => one ds fun d => match d with
  | .int i => post (.int i) M
  | .bl b => post (.int (if b then 1 else 0)) M
  | _ => False : GA) := rfl
theorem gAbs_e : FD.gAbs = (fun M ds post => one ds fun d => isI d fun i => post (.int (if i < 0 then -i else i)) M : GA) := rfl
theorem gMax_e : FD.gMax = (fun M ds post => two ds fun x y => isI x fun i => isI y fun j => post (.int (if j > i then j else i)) M : GA) := rfl
theorem gMin_e : FD.gMin = (fun M ds post => two ds fun x y => isI x fun i => isI y fun j => post (.int (if j < i then j else i)) M : GA) := rfl
theorem gDivmod_e : FD.gDivmod = (fun M ds post => two ds fun x y => isI x fun i => isI y fun j => (0 < j ∧ j < 1073741824) ∧ post (.tup [.int (i / j), .int (i % j)]) M : GA) := rfl
theorem wFz_e (w : WE) : FD.wFz w = (fun Γ M post => w Γ M fun d M1 => ∃ (d' : D) (M2 : Mem), M2.le M1 ∧ Fz M1 M2 d d' ∧ post d' M2 : WE) := rfl
end FD
namespace FD
open PySem PySem.Spec PyProof.Rows L2
theorem gsCons_e {t : WG} {u : WGs} {d : D} {r : List D} {Γ : Env} {M : Mem} {post : Env → Mem → Prop} : gsCons t u (d :: r) Γ M post = t d Γ M fun Γ' M' => u r Γ' M' post := rfl
theorem insR_obj {M : Mem} {C : Addr} {fs : List (Str × D)} {k : List (Str × D) → Prop} : insR M C (.obj C fs) k = k fs := by
  show (C = C ∧ k fs) = _
  simp
theorem insR_ptr {M : Mem} {C a : Addr} {fs : List (Str × D)} {k : List (Str × D) → Prop} (h : M a = some (.ins C fs)) : insR M C (.ptr a) k = k fs := by
  show (match M a with
    | some (.ins C' fs) => C' = C ∧ k fs
    | _ => False) = _
  rw [h]
  simp
theorem dAt_dcT {M : Mem} {l : List (List Key × D)} {y : D} {c : Option D → Prop} : dAt M (.dcT l) y c = got (keyT y) fun k => c (valD l k) := rfl
theorem dAt_dcK {M : Mem} {l : List (Key × D)} {y : D} {c : Option D → Prop} : dAt M (.dcK l) y c = got (keyK y) fun k => c (valD l k) := rfl
end FD

set_option maxHeartbeats 400000
namespace FD
open PySem PySem.Spec PyProof.Rows L2
/-! ### a comprehension whose list will be changed -/
def F.cut (h : F) (a : Addr) : F := fun b => if b = a then none else h b
theorem F.cut_same {h : F} {a : Addr} : h.cut a a = none := by unfold F.cut; rw [if_pos rfl]
theorem F.cut_ne {h : F} {a b : Addr} (n : b ≠ a) : h.cut a b = h b := by unfold F.cut; rw [if_neg n]
theorem cut_ice {H0 : F} {p : Addr} {o : HO} (h : H0 p = some (.res o)) : Same H0.ice (H0.cut p).ice := fun b u e => by
  have e := F.ice_of e
  have hb : b ≠ p := fun z => by rw [z, h] at e; cases e
  exact F.ice_eq (by rw [F.cut_ne hb]; exact e)
theorem Fr.release {K : PySem.W.Frag} {H : Hp} {H0 : F} {M : Mem} (f : Fr K H H0 M) {p : Addr} {xs : List V} {ds : List D} (h : H0 p = some (.res (.lst xs))) (ra : RpAll K H0 xs ds) (hz : ds.length ≤ sizeLine) : Fr K H (H0.cut p) (M.upd p (.lst ds)) := by
  have ic := cut_ice h
  refine ⟨fun b u e => ?_, fun b u e => ?_, fun a mo e => ?_⟩
  · have e := F.ice_of e
    have hb : b ≠ p := fun z => by rw [z, F.cut_same] at e; cases e
    rw [F.cut_ne hb] at e; exact f.sub b u (F.ice_eq e)
  · have hb : b ≠ p := fun z => by rw [z, F.cut_same] at e; cases e
    rw [F.cut_ne hb] at e; exact f.res b u e
  · by_cases ne : a = p
    · subst ne
      rw [Mem.upd_same] at e; cases e
      exact ⟨F.cut_same, _, f.res _ _ h, .lst (ra.mono' ic) hz⟩
    · rw [Mem.upd_ne ne] at e
      obtain ⟨n0, u, e1, e2⟩ := f.mem a mo e
      exact ⟨by rw [F.cut_ne ne]; exact n0, u, e1, e2.mono' ic⟩
section
variable {X : Cx} {elt iter tg e : Expr} {ifs : List Expr} {scope : Scope} {pos : Pos} {wi : WI} {tt : WT} {te : WE}
def wLcN (wi : WI) (gd : GD) (tt : WT) (te : WE) : WE := fun Γ M post => wi Γ M fun items G M1 => ∃ Pv : Nat → List D → Mem → Prop, Pv 0 [] M1 ∧ (∀ i acc M', Pv i acc M' → G M') ∧
  (∀ i d acc M', items[i]? = some d → Pv i acc M' → gd d Γ fun Γ2 => tt Γ2 M' fun b M3 => if b = true then te Γ2 M3 fun y M4 => Pv (i + 1) (acc ++ [y]) M4 else Pv (i + 1) acc M3) ∧
  ∀ acc M', Pv items.length acc M' → ∀ p, M' p = none → post (.ptr p) (M'.upd p (.lst acc))
theorem up_lcN {g : TG} {gd : GD} {vs : List Nat} (tg : Tgt X.K g vs gd) {σ : L2.St} {H : Hp} {Q : VK} (h : up X.K (wLcN wi gd tt te) σ H Q) : tLc (upI X.K wi) g (upT X.K tt) (up X.K te) vs σ H Q := by
  obtain ⟨H0, Γ, M, post, f, en, hw, p⟩ := h
  refine ⟨H0, Γ, M, _, f, en, hw, fun items G J H1 H01 M1 q f1 s1 dw D hD => ?_⟩
  obtain ⟨Pv, h0, hG, hstep, hend⟩ := q
  obtain ⟨⟨Gv, Y, wk, gv, yl⟩, fit⟩ := dw
  have hD0 := (f1.fresh hD).1
  refine lc_it wk (fun i H' => ∃ H0' M' acc xs, Fr X.K H' H0' M' ∧ F.le H01 H0' ∧ H0' D = some (.res (.lst xs)) ∧ RpAll X.K H0' xs acc ∧ acc.length ≤ i ∧ Pv i acc M')
    ⟨H01.put D (.res (.lst [])), M1, [], [], f1.hold hD, F.le_put hD0, F.put_same, .nil, Nat.le_refl _, h0⟩ ?_ ?_ ?_
  · rintro i H' _ ⟨H0', M', acc, xs, f', s', hr, ra, hl, pv⟩
    exact gv H' H0' M' f' s'.ice (hG i acc M' pv)
  · rintro i x H' H'' hi ⟨H0', M', acc, xs, f', s', hr, ra, hl, pv⟩ y
    have hd : items[i]? = some items[i] := List.getElem?_eq_getElem hi
    obtain ⟨H0'', f'', s'', r⟩ := yl i H' x H'' H0' M' _ hd f' s'.ice (hG i acc M' pv) y
    refine tg.run x _ σ H'' H0'' M' Γ _ _ f'' ((en.mono s1).mono (s'.trans s'')) r (hstep i _ acc M' hd pv) fun σ2 Γ2 hw2 e2 q2 => ⟨hw2, H0'', Γ2, M', _, f'', e2, q2, fun b H3 H03 M3 q3 f3 s3 => ?_⟩
    have hr3 : H03 D = some (.res (.lst xs)) := s3 _ _ (s'' _ _ hr)
    have ra3 := (ra.mono s'').mono s3
    cases b with
    | false =>
      simp only [Bool.false_eq_true, if_false] at q3 ⊢
      exact ⟨H03, M3, acc, xs, f3, (s'.trans s'').trans s3, hr3, ra3, by omega, q3⟩
    | true =>
      simp only [if_true] at q3 ⊢
      refine ⟨H03, Γ2, M3, _, f3, e2.mono s3, q3, fun v d H4 H04 M4 q4 f4 s4 r4 => ?_⟩
      have hr4 : H04 D = some (.res (.lst xs)) := s4 _ _ hr3
      have ra4 := ra3.mono s4
      refine ⟨xs, f4.res _ _ hr4, ?_, ?_⟩
      · rw [ra4.length]; omega
      · have ic := put_res_ice (o' := .lst (xs ++ [v])) hr4
        refine ⟨H04.put D (.res (.lst (xs ++ [v]))), M4, acc ++ [d], xs ++ [v], f4.rehold hr4, ?_, F.put_same, ?_, ?_, q4⟩
        · intro b o eb
          have t := (((s'.trans s'').trans s3).trans s4) b o eb
          by_cases hb : b = D
          · subst hb; rw [hD0] at eb; cases eb
          · rw [F.put_ne hb]; exact t
        · exact (ra4.mono' ic).append (.cons (r4.mono' ic) .nil)
        · rw [List.length_append]; simp; exact hl
  · rintro H' ⟨H0', M', acc, xs, f', s', hr, ra, hl, pv⟩
    have mD : M' D = none := by
      cases q : M' D with
      | none => rfl
      | some mo => rw [(f'.mem D mo q).1] at hr; cases hr
    refine p _ _ H' (H0'.cut D) (M'.upd D (.lst acc)) (hend acc M' pv D mD) (f'.release hr ra (by omega)) (s1.trans ?_) (.ptr D)
    intro b o eb
    by_cases hb : b = D
    · subst hb; rw [hD0] at eb; cases eb
    · rw [F.cut_ne hb]; exact s' b o eb
theorem de_lcN {own : List (Str × Nat)} {g : TG} {gd : GD} (hc : X.calm = true) (hN : X.N.Nodup) (hi : DI X tg iter wi) (ok : BlkOk X.N X.env.scope scope own) (tgt : Tgt X.K g (own.map (·.2)) gd)
    (hg : ∀ (s : Shared) (H : Hp) (C : Addr) (cl : List (Str × Addr)) (fp : List Addr), PG (X.blk s H scope (compEnvC scope cl C X.env) fp) tg g) (ht : ∀ (s : Shared) (H : Hp) (C : Addr) (cl : List (Str × Addr)) (fp : List Addr), DTs (X.blk s H scope (compEnvC scope cl C X.env) fp) ifs tt)
    (he : ∀ (s : Shared) (H : Hp) (C : Addr) (cl : List (Str × Addr)) (fp : List Addr), DE (X.blk s H scope (compEnvC scope cl C X.env) fp) elt te) (hs : ∀ x, foldedSetIterable iter X.env x = pure x := by intro _; rfl) :
    DE X (.ListComp elt [⟨tg, iter, ifs, 0⟩] scope pos) (wLcN wi gd tt te) :=
  PE.weak (pe_lc hc hN hi ok hg ht he hs) fun _ _ _ h => up_lcN tgt h
theorem ds_setLcN {i : Nat} {y : Str} {py spos : Pos} {own : List (Str × Nat)} {g : TG} {gd : GD} (hc : X.calm = true) (hN : X.N.Nodup) (hi : DI X tg iter wi) (ok : BlkOk X.N X.env.scope scope own) (tgt : Tgt X.K g (own.map (·.2)) gd)
    (hg : ∀ (s : Shared) (H : Hp) (C : Addr) (cl : List (Str × Addr)) (fp : List Addr), PG (X.blk s H scope (compEnvC scope cl C X.env) fp) tg g) (ht : ∀ (s : Shared) (H : Hp) (C : Addr) (cl : List (Str × Addr)) (fp : List Addr), DTs (X.blk s H scope (compEnvC scope cl C X.env) fp) ifs tt)
    (he : ∀ (s : Shared) (H : Hp) (C : Addr) (cl : List (Str × Addr)) (fp : List Addr), DE (X.blk s H scope (compEnvC scope cl C X.env) fp) elt te)
    (hsw : swapsWith (.ListComp elt [⟨tg, iter, ifs, 0⟩] scope pos) (some (.Name y py)) spos.line X.env = pure true) (hy : X.N[i]? = some y := by rfl) (hyl : X.env.scope.names.lookup y = some .local := by rfl) (hs : ∀ x, foldedSetIterable iter X.env x = pure x := by intro _; rfl) :
    DS X (.Assign [.Name y py] (.ListComp elt [⟨tg, iter, ifs, 0⟩] scope pos) spos) (sAsg (wLcN wi gd tt te) (gSet i)) :=
  PS.weak (ps_setLc hc hN hy hyl hsw hi ok hg ht he hs) fun E σ H h => by
    obtain ⟨H0, Γ, M, post, f, e, hw, p⟩ := h
    exact up_lcN tgt ⟨H0, Γ, M, _, f, e, hw, fun v d H' H0' M' q f' s r => p.nx (σ.set i (some v)) (Γ.set i (some d)) H' H0' M' q f' s ((e.mono s).set i r)⟩
/-- the same, by what is asked of a comprehension -/
theorem wLcN_eq {gd : GD} : wLcN wi gd tt te = fun Γ M post => wi Γ M fun items G M1 => LcI items G gd tt te Γ M1 fun d M' => ∃ l, d = .lst l ∧ ∀ p, M' p = none → post (.ptr p) (M'.upd p (.lst l)) := by
  funext Γ M post
  unfold wLcN LcI
  simp only [D.lst.injEq, exists_eq_left']
end
end FD
namespace FD
open PySem PySem.Spec PyProof.Rows L2
section
variable {X : Cx}
def gJn : GM := fun M d ds post => one ds fun y => isS d fun sep => got (seqOf M y) fun l => got (txs l) fun ss => ((ss.map (·.length)).sum + ss.length * sep.length ≤ 16777216 ∧ sOk (Txt.join sep ss) = true) ∧ post (.str (Txt.join sep ss)) M
theorem m_join : MtR X "str.join" (rUM X.K gJn) := MtR.imp mt_join fun x xs H Q q => by
  obtain ⟨H0, M, d, ds, post, fr, rx, ra, w, p⟩ := q
  obtain ⟨y, rfl, w⟩ := one_of w
  obtain ⟨sep, rfl, w⟩ := isS_of w
  obtain ⟨l, hl, w⟩ := got_of w
  obtain ⟨ss, hs, ⟨hz, ok⟩, w⟩ := got_of w
  cases rx
  cases ra with
  | cons rv t =>
    cases t
    obtain ⟨a, ys, rfl, sq, h, _⟩ := seqOf_sq fr rv hl
    obtain ⟨rfl, _⟩ := txs_rp h hs
    exact ⟨sep, a, ss, rfl, rfl, sq, hz, p.now fr (.str _ ok) w⟩
end
end FD

set_option maxHeartbeats 2000000
namespace FD
open PySem PySem.Spec PyProof.Rows L2
/-! ### the end: the law's def, called by the row -/
section
variable {P : Program} {w : World} {K : PySem.W.Frag}
theorem ints_rp {H : F} : ∀ ns : List Int, RpAll K H (ns.map V.int) (ns.map D.int)
  | [] => .nil
  | n :: ns => .cons (.int n) (ints_rp ns)
/-- the script as data -/
theorem toSp_law {dsp : DSp} {H : Hp} {a : Addr} {ns : List Int} (sq : SqL K H a (ns.map V.int)) (hl : ns.length ≤ sizeLine) (hd : dsp [.scr (ns.map D.int)] (fun _ => none) fun d _ => d = .bl true) :
    toSp K dsp [.ref a] H fun v _ => v = .bl true := by
  let H0 : F := fun b => (H b).map RO.ice
  have e : H0.ice = H := by
    funext b
    show (match (H b).map RO.ice with
      | some (.ice o) => some o
      | _ => none) = H b
    cases H b <;> rfl
  refine ⟨H0, fun _ => none, [.scr (ns.map D.int)], _, ⟨by rw [e]; exact fun _ _ z => z, fun b o z => ?_, fun b mo z => by cases z⟩, .cons (.scr (by rw [e]; exact sq) (ints_rp ns) (by rw [List.length_map]; exact hl)) .nil, hd, fun v d H' H0' M' q f s r => ?_⟩
  · have z2 : (H b).map RO.ice = some (.res o) := z
    cases q : H b with
    | none => rw [q] at z2; cases z2
    | some u => rw [q] at z2; cases z2
  · subst q
    cases r
    rfl
variable {mg mb : Str → Option Value} {k : Nat} {fa a : Addr} {fd : FuncData} {x : Str} {dsp : DSp} {s1 : Shared} {vs : List Value} {ns : List Int}
theorem end_call (KX : K.In s1.heap) (gn : s1.heap.Ns mainGlobals mg) (bn : s1.heap.Ns builtinsNs mb) (bo : ∀ x : Str, x ≠ "__name__" → mb x = bootBuiltins x) (nl : s1.heap.NoLimit) (ge : s1.gens = #[])
    (at_ : s1.heap.get? a = some { cls := .type "list", data := .seq vs.toArray }) (is : IntsAre vs ns) (le : ns.length ≤ sizeLine) (room : Room k callerA)
    (F : ∀ base : Heap, K.In base → base.Ns mainGlobals mg → FnG P w K mg base k fa fd [x] dsp) (bd : ∀ (s : Shared) (u : Value), BindsTo s fd ⟨[u], []⟩ [(x, u)]) (hd : dsp [.scr (ns.map D.int)] (fun _ => none) fun d _ => d = .bl true) :
    codeAny (model P w) callerA (.call (.ref fa) ⟨[.ref a], []⟩) (fun r s2 => r = .ok (.ret (.bool true)) ∧ OldK s1.heap s2.heap ∧ s2.os = s1.os ∧ AllBare s2.gens) s1 := by
  have main : ∀ H : Hp, Only H → SqL K H a (ns.map V.int) → HOk P w H s1.heap → (∀ b u, H b = some u → b = a ∧ K.lookup a = none) →
      codeAny (model P w) callerA (.call (.ref fa) ⟨[.ref a], []⟩) (fun r s2 => r = .ok (.ret (.bool true)) ∧ OldK s1.heap s2.heap ∧ s2.os = s1.os ∧ AllBare s2.gens) s1 := by
    intro H only sq ok near
    have free : ∀ (b : Addr) (o : Obj), s1.heap.get? b = some o → (∀ es ep, o.data = .dict es ep → H b = none) := fun b o e es ep dd => by
      cases q : H b with
      | none => rfl
      | some u =>
        obtain ⟨rfl, _⟩ := near b u q
        rw [at_] at e
        cases e
        cases (show Data.seq vs.toArray _ = Data.dict es ep from dd)
    have spaces : ∀ {b : Addr} {m : Str → Option Value}, s1.heap.Ns b m → (hidT s1.heap H).Ns b m := fun {b m} n => by
      obtain ⟨o, es, ep, e, dd, r⟩ := n
      exact ⟨o, es, ep, hidT_get e (free b o e es ep dd), dd, r⟩
    have inn : K.In (hidT s1.heap H) := fun b o e => by
      refine hidT_get (KX b o e) ?_
      cases q : H b with
      | none => rfl
      | some u =>
        obtain ⟨rfl, z⟩ := near b u q
        rw [z] at e
        cases e
    obtain ⟨mc, l1, l2⟩ := nl
    have env : Env0 P w K mg (hidT s1.heap H) callerA [] s1 H :=
      { frames := rfl, mod := ⟨inn, spaces gn, ⟨mb, spaces bn, bo⟩, ⟨mc, spaces l1, l2⟩⟩, bs := fun b o e => of_hidT e, bsz := Nat.le_of_eq (hidT_size _ _), funs := trivial, frf := fun b m => (by cases (show b ∈ ([] : List Addr) from m)), hok := ok, bare := .of_eq ge }
    have go := (F _ inn (spaces gn)).go callerA [] s1 H ⟨[.ref a], []⟩ [.ref a] [.ref a] (fun v _ => v = .bl true) rfl room env (bd s1 (.ref a)) (.cons rfl .nil) (toSp_law sq le hd)
    refine codeAny_mono go fun r s2 h => ?_
    match r, h with
    | .ok (.ret u), h =>
      obtain ⟨v, H2, os, bare, un, ok2, rv, rfl⟩ := h
      cases (show u = Value.bool true from rv)
      refine ⟨rfl, OldK.of_keep fun b o e => ?_, os, bare⟩
      rcases only b with z | ⟨ob, xs, z⟩
      · exact un.keep b o e z (fun m => by cases (show b ∈ ([] : List Addr) from m)) (by simp)
      · obtain ⟨e1, _⟩ := ok b _ z
        obtain ⟨e2, _⟩ := ok2 b _ (un.frzs b ob _ z)
        rw [e] at e1
        cases e1
        exact e2
    | .ok .next, h => exact False.elim h
    | .ok .brk, h => exact False.elim h
    | .ok .cont, h => exact False.elim h
    | .error e, h => exact False.elim h
  have nums := vals_ints is
  have many := is.length
  cases q : K.lookup a with
  | some o =>
    have e := KX a o q
    rw [at_] at e
    cases e
    exact main (fun _ => none) (fun _ => .inl rfl) (.inr ⟨_, vs.toArray, _, q, rfl, rfl, rfl, by rw [List.size_toArray, many]; exact le, by simpa using nums⟩) (fun b u z => by cases z) (fun b u z => by cases z)
  | none =>
    let ob : Obj := { cls := .type "list", data := .seq vs.toArray }
    have one_ : ∀ (b : Addr) (u : HO), (if b = a then some (HO.frz ob (.lst (ns.map V.int))) else none) = some u → b = a ∧ u = HO.frz ob (.lst (ns.map V.int)) := fun b u z => by
      by_cases c : b = a
      · rw [if_pos c] at z; cases z; exact ⟨c, rfl⟩
      · rw [if_neg c] at z; cases z
    refine main (fun b => if b = a then some (HO.frz ob (.lst (ns.map V.int))) else none) (fun b => ?_) (.inl (.inr ⟨ob, if_pos rfl⟩)) (fun b u z => ?_) fun b u z => ⟨(one_ b u z).1, q⟩
    · by_cases c : b = a
      · exact .inr ⟨ob, ns.map V.int, if_pos c⟩
      · exact .inl (if_neg c)
    · obtain ⟨rfl, rfl⟩ := one_ b u z
      exact ⟨at_, by rw [List.length_map]; exact le, vs, _, nums, at_⟩
end
theorem Fng.atD {P : Program} {w : World} {K : PySem.W.Frag} {mg : Str → Option Value} {base : Heap} {k : Nat} {x : Str} {st : Stmt} {ps : List Str} {dsp : DSp} (F : Fng P w K mg base k x st ps dsp) {fd : FuncData} (D : FunD K x x (defArgs st) (defBody st) (defScope st) [] [] (He.ga K x) fd) : FnG P w K mg base k (He.ga K x) fd ps dsp := by
  obtain ⟨fd2, D2, G⟩ := F.ex
  obtain ⟨oc, od, dV, kV, doc, pm, an, cdv, ct, osl, rfl, lk, _, _, _⟩ := D.ex
  obtain ⟨oc2, od2, dV2, kV2, doc2, pm2, an2, cdv2, ct2, osl2, rfl, lk2, _, _, _⟩ := D2.ex
  rw [lk] at lk2
  simp only [Option.some.injEq, Obj.mk.injEq, Data.func.injEq] at lk2
  obtain ⟨_, _, e, _⟩ := lk2
  rw [e]
  exact G
/-- a law whose def keeps the promise dsp -/
theorem end_walk {l : PySem.W.OpenLaw} {n k : Nat} {q : Program} {loose : List Str} {XP : (Str → Option Value) → Heap → Prop} {YP : World → Heap → Prop} {d : DefRec} {x : Str} (most : l.most = some n) (small : n ≤ sizeLine) (nodf : d.params.defaults = []) (room : Room k callerA)
    (F : ∀ (w : World) (mg : Str → Option Value) (fa : Addr) (h : Heap), YP w h → h.Ns mainGlobals mg → mg d.name = some (.ref fa) → ∃ (K : PySem.W.Frag) (fd : FuncData) (dsp : DSp), K.In h ∧ (∀ (s : Shared) (u : Value), BindsTo s fd ⟨[u], []⟩ [(x, u)]) ∧
      (∀ ns : List Int, ns.length ≤ n → dsp [.scr (ns.map D.int)] (fun _ => none) fun d _ => d = .bl true) ∧ ∀ base : Heap, K.In base → base.Ns mainGlobals mg → FnG l.prog w K mg base k fa fd [x] dsp) :
    PySem.W.WalkO q loose XP YP l.row.toRowW d [] (fun f vs => PySem.call f vs) :=
  Att.attach_call most nodf fun w s0 s1 mg mb fa o pm cd doc a vs ns G Y h1 h2 h3 named obj nums len gens => by
    obtain ⟨K, fd, dsp, inn, bd, sp, G2⟩ := F w mg fa _ Y G.T.g named
    exact end_call inn G.T.g G.T.b G.T.builtins G.T.nolimit gens obj nums (Nat.le_trans len small) room G2 bd (sp ns len)
end FD

set_option maxHeartbeats 1000000
/-! the plain model: literals, rules, panels; and how they stand as trees -/
namespace FM
open PySem PySem.Spec PyProof.Rows L2 FD
def sg (b : Bool) : Str := if b then "+" else "-"
def sgc (b : Bool) : Nat := if b then 43 else 45
structure Lit where
  n : Str
  s : Bool
deriving DecidableEq
def Lit.op (a : Lit) : Lit := ⟨a.n, !a.s⟩
/-- f: whether the tuple is a firm one -/
inductive Rule where
  | be (a : Lit)
  | either (a b : Lit)
  | needs (a b : Lit)
  | bars (a b : Lit)
  | same (f : Bool) (x y : Str)
  | unlike (f : Bool) (x y : Str)
deriving DecidableEq
/-- a tuple, firm or not -/
def tp (f : Bool) (l : List D) : D := if f then .ftp l else .tup l
def litD (a : Lit) : D := .tup [.str a.n, .str (sg a.s)]
def ruleD : Rule → D
  | .be a => .tup [.str "be", litD a]
  | .either a b => .tup [.str "either", litD a, litD b]
  | .needs a b => .tup [.str "needs", litD a, litD b]
  | .bars a b => .tup [.str "bars", litD a, litD b]
  | .same f x y => tp f [.str "same", .str x, .str y]
  | .unlike f x y => tp f [.str "unlike", .str x, .str y]
def words : List Str := ["be", "either", "needs", "bars", "same", "unlike"]
def letters : Str := "abcdefghijklmnopqrstuvwxyz"
def nameOk (s : Str) : Bool := decide (1 ≤ s.length) && decide (s.length ≤ 8) && !decide (s ∈ words) && s.cps.toList.all fun c => decide (c ∈ letters.cps.toList)
def litOk (ss : List Str) (a : Lit) : Bool := decide (a.n ∈ ss)
def ruleOk (ss : List Str) : Rule → Bool
  | .be a => litOk ss a
  | .either a b => litOk ss a && litOk ss b && !decide (a.n = b.n)
  | .needs a b => litOk ss a && litOk ss b && !decide (a.n = b.n)
  | .bars a b => litOk ss a && litOk ss b && !decide (a.n = b.n)
  | .same _ x y => decide (x ∈ ss) && decide (y ∈ ss) && !decide (x = y)
  | .unlike _ x y => decide (x ∈ ss) && decide (y ∈ ss) && !decide (x = y)
def clauses : Rule → List (Lit × Lit)
  | .be a => [(a, a)]
  | .either a b => [(a, b)]
  | .needs a b => [(a.op, b)]
  | .bars a b => [(a.op, b.op)]
  | .same _ x y => [(⟨x, false⟩, ⟨y, true⟩), (⟨x, true⟩, ⟨y, false⟩)]
  | .unlike _ x y => [(⟨x, true⟩, ⟨y, true⟩), (⟨x, false⟩, ⟨y, false⟩)]
def clD (c : Lit × Lit) : D := .tup [litD c.1, litD c.2]
def steps1 (c : Lit × Lit) : List (Lit × Lit) := if c.1 = c.2 then [(c.1.op, c.2)] else [(c.1.op, c.2), (c.2.op, c.1)]
def steps (r : Rule) : List (Lit × Lit) := (clauses r).flatMap steps1
def lits (ss : List Str) : List Lit := ss.flatMap fun x => [⟨x, true⟩, ⟨x, false⟩]
def optD : Option Nat → D
  | none => .non
  | some i => .int i
def setS (t : List Bool) : Str := ⟨(t.map sgc).toArray⟩
def setD (t : List Bool) : D := .str (setS t)
abbrev strsF (ss : List Str) : D := .ftp (ss.map D.str)
abbrev strsL (ss : List Str) : D := .lst (ss.map D.str)
/-! ### tp -/
section
variable {M : Mem} {f : Bool} {l : List D} {i : Int} {post : WK}
theorem ix_tp : gIx M (tp f l) (.int i) post = got (atI l i) fun d => post d M := by cases f <;> rfl
theorem len_tp : lenD M (tp f l) = some (l.length : Int) := by cases f <;> rfl
theorem ty_tp : tyN M (tp f l) = some "tuple" := by cases f <;> rfl
theorem tup_tp : tupOf (tp f l) = some l := by cases f <;> rfl
theorem isT_tp {k : List D → Prop} : isT (tp f l) k = k l := by cases f <;> rfl
theorem seq_tp : seqOf M (tp f l) = some l := by cases f <;> rfl
theorem dp_tp : (tp f l).dp = dpAll l + 1 := by cases f <;> simp [tp, D.dp]
theorem py_tp : (tp f l).py = .tuple (pyAll l) := by cases f <;> simp [tp, D.py]
theorem tp_f : tp false l = .tup l := rfl
theorem tp_t : tp true l = .ftp l := rfl
theorem tp_inj {g : Bool} {m : List D} : tp f l = tp g m ↔ f = g ∧ l = m := by cases f <;> cases g <;> simp [tp]
end
/-! ### walking helpers -/
section
variable {α β : Type}
theorem tk_map {l : List α} {i : Nat} {x : α} {g : α → β} (h : l[i]? = some x) : (l.take (i + 1)).map g = (l.take i).map g ++ [g x] := by
  rw [List.take_succ, h]; simp
theorem tk_fm {l : List α} {i : Nat} {x : α} {g : α → List β} (h : l[i]? = some x) : (l.take (i + 1)).flatMap g = (l.take i).flatMap g ++ g x := by
  rw [List.take_succ, h]; simp
theorem tk_one {l : List α} {i : Nat} {x : α} (h : l[i]? = some x) : l.take (i + 1) = l.take i ++ [x] := by
  rw [List.take_succ, h]; simp
theorem map_at {l : List α} {i : Nat} {g : α → β} {d : β} (h : (l.map g)[i]? = some d) : ∃ x, l[i]? = some x ∧ d = g x := by
  rw [List.getElem?_map] at h
  cases e : l[i]? with
  | none => rw [e] at h; cases h
  | some x => rw [e] at h; cases h; exact ⟨x, rfl, rfl⟩
end
/-! ### signs -/
theorem plus_eq : (Str.ofString "+") = ⟨#[43]⟩ := by decide +kernel
theorem minus_eq : (Str.ofString "-") = ⟨#[45]⟩ := by decide +kernel
theorem sg_eq (b : Bool) : sg b = ⟨#[sgc b]⟩ := by cases b <;> decide +kernel
theorem sgc_inj {a b : Bool} : sgc a = sgc b ↔ a = b := by cases a <;> cases b <;> simp [sgc]
theorem sg_inj {a b : Bool} : sg a = sg b ↔ a = b := by rw [sg_eq, sg_eq]; simp [sgc_inj]
theorem sg_t : sg true = "+" := rfl
theorem sg_f : sg false = "-" := rfl
theorem pm_cps : (Str.ofString "+-").cps.toList = [43, 45] := by decide +kernel
theorem signs_pm : FD.signs "+-" = [D.str (sg true), D.str (sg false)] := by
  unfold FD.signs; rw [pm_cps, sg_eq, sg_eq]; rfl
theorem pm_map : FD.signs "+-" = [true, false].map fun b => D.str (sg b) := signs_pm
/-! ### settings -/
theorem setS_len (t : List Bool) : (setS t).length = t.length := by simp [setS, Str.length]
theorem setS_cps (t : List Bool) : (setS t).cps.toList = t.map sgc := by simp [setS]
theorem map_sgc_inj : ∀ {t u : List Bool}, t.map sgc = u.map sgc → t = u
  | [], [], _ => rfl
  | [], _ :: _, h => by cases h
  | _ :: _, [], h => by cases h
  | a :: t, b :: u, h => by
    simp only [List.map_cons, List.cons.injEq] at h
    rw [sgc_inj.mp h.1, map_sgc_inj h.2]
theorem setS_inj {t u : List Bool} : setS t = setS u ↔ t = u := by
  refine ⟨fun h => ?_, fun h => by rw [h]⟩
  have e := congrArg (fun s : Str => s.cps.toList) h
  simp only [setS_cps] at e
  exact map_sgc_inj e
theorem setS_app (t u : List Bool) : setS t ++ setS u = setS (t ++ u) := by
  show (⟨(setS t).cps ++ (setS u).cps⟩ : Str) = _
  simp [setS]
theorem setS_one (b : Bool) : sg b = setS [b] := by rw [sg_eq]; rfl
theorem setS_nil : (Str.ofString "") = setS [] := by decide +kernel
theorem setS_ok {t : List Bool} (h : t.length ≤ 16777216) : sOk (setS t) = true := by
  refine sOk_of ?_ fun c hc => ?_
  · have := setS_len t; unfold Str.length at this; omega
  · rw [setS_cps] at hc
    obtain ⟨b, _, rfl⟩ := List.mem_map.mp hc
    cases b <;> simp [sgc]
theorem setD_inj {t u : List Bool} : setD t = setD u ↔ t = u := by unfold setD; rw [D.str.injEq, setS_inj]
theorem signs_set (t : List Bool) : FD.signs (setS t) = t.map fun b => D.str (sg b) := by
  unfold FD.signs; rw [setS_cps, List.map_map]
  refine List.map_congr_left fun b _ => ?_
  rw [sg_eq]; rfl
/-- t[i] -/
theorem ix_set {M : Mem} {t : List Bool} {i : Nat} {b : Bool} {post : WK} (h : t[i]? = some b) : gIx M (setD t) (.int (i : Int)) post = post (.str (sg b)) M := by
  have e : atI (setS t).cps.toList (i : Int) = some (sgc b) := atI_nat (by rw [setS_cps, List.getElem?_map, h]; rfl)
  show got (atI (setS t).cps.toList (i : Int)) (fun c => post (.str ⟨#[c]⟩) M) = _
  rw [e, sg_eq]
  rfl
theorem cutS_take {s : Str} {k : Nat} : cutS s none (some (k : Int)) = ⟨(s.cps.toList.take k).toArray⟩ := by
  unfold cutS
  rw [HT.sIx_nat, HT.sIx_none]
  congr 2
  rw [List.drop_zero, Nat.sub_zero]
  have : s.length = s.cps.toList.length := by simp [Str.length]
  rw [this]
  by_cases h : k ≤ s.cps.toList.length
  · rw [Nat.min_eq_left h]
  · rw [Nat.min_eq_right (by omega), List.take_length, List.take_of_length_le (by omega)]
theorem cutS_drop {s : Str} {k : Nat} : cutS s (some (k : Int)) none = ⟨(s.cps.toList.drop k).toArray⟩ := by
  unfold cutS
  rw [HT.sIx_nat, HT.sIx_none]
  congr 2
  have : s.length = s.cps.toList.length := by simp [Str.length]
  rw [this]
  by_cases h : k ≤ s.cps.toList.length
  · rw [Nat.min_eq_left h, List.take_of_length_le (by simp)]
  · rw [Nat.min_eq_right (by omega)]
    rw [List.drop_of_length_le (Nat.le_refl _), List.drop_of_length_le (by omega)]
    simp
theorem cut_take {t : List Bool} {k : Nat} : cutS (setS t) none (some (k : Int)) = setS (t.take k) := by
  rw [cutS_take, setS_cps, ← List.map_take]; rfl
theorem cut_drop {t : List Bool} {k : Nat} : cutS (setS t) (some (k : Int)) none = setS (t.drop k) := by
  rw [cutS_drop, setS_cps, ← List.map_drop]; rfl
theorem sl_str {M : Mem} {s : Str} {lo hi : Option Int} {post : WK} : gSlice M (.str s) lo hi post = post (.str (cutS s lo hi)) M := rfl
theorem sl_set {M : Mem} {t : List Bool} {lo hi : Option Int} {post : WK} : gSlice M (setD t) lo hi post = post (.str (cutS (setS t) lo hi)) M := rfl
def flip (t : List Bool) (k : Nat) : List Bool := t.take k ++ [!(t.getD k false)] ++ t.drop (k + 1)
theorem flip_len {t : List Bool} {k : Nat} (h : k < t.length) : (flip t k).length = t.length := by unfold flip; simp; omega
/-! ### equal trees -/
theorem eqd_lit {a b : Lit} : eqd (litD a) (litD b) = decide (a = b) := by
  have ne : ((Str.ofString "+") == (Str.ofString "-")) = false := by decide +kernel
  have ne2 : ((Str.ofString "-") == (Str.ofString "+")) = false := by decide +kernel
  obtain ⟨n, s⟩ := a
  obtain ⟨m, t⟩ := b
  cases s <;> cases t <;> simp [eqd, litD, sg, D.py, pyAll, PyData.eqv, PyData.eqvAll, ne, ne2, Bool.beq_eq_decide_eq]
theorem litD_inj {a b : Lit} : litD a = litD b ↔ a = b := by
  obtain ⟨n, s⟩ := a
  obtain ⟨m, t⟩ := b
  simp [litD, sg_inj]
theorem clD_inj {a b : Lit × Lit} : clD a = clD b ↔ a = b := by
  obtain ⟨x, y⟩ := a
  obtain ⟨z, u⟩ := b
  simp [clD, litD_inj]
theorem nq_0_1 : (Str.ofString "be" = Str.ofString "either") = False := eq_false (by decide +kernel)
theorem nq_0_2 : (Str.ofString "be" = Str.ofString "needs") = False := eq_false (by decide +kernel)
theorem nq_0_3 : (Str.ofString "be" = Str.ofString "bars") = False := eq_false (by decide +kernel)
theorem nq_0_4 : (Str.ofString "be" = Str.ofString "same") = False := eq_false (by decide +kernel)
theorem nq_0_5 : (Str.ofString "be" = Str.ofString "unlike") = False := eq_false (by decide +kernel)
theorem nq_0_6 : (Str.ofString "be" = Str.ofString "+") = False := eq_false (by decide +kernel)
theorem nq_0_7 : (Str.ofString "be" = Str.ofString "-") = False := eq_false (by decide +kernel)
theorem nq_1_0 : (Str.ofString "either" = Str.ofString "be") = False := eq_false (by decide +kernel)
theorem nq_1_2 : (Str.ofString "either" = Str.ofString "needs") = False := eq_false (by decide +kernel)
theorem nq_1_3 : (Str.ofString "either" = Str.ofString "bars") = False := eq_false (by decide +kernel)
theorem nq_1_4 : (Str.ofString "either" = Str.ofString "same") = False := eq_false (by decide +kernel)
theorem nq_1_5 : (Str.ofString "either" = Str.ofString "unlike") = False := eq_false (by decide +kernel)
theorem nq_1_6 : (Str.ofString "either" = Str.ofString "+") = False := eq_false (by decide +kernel)
theorem nq_1_7 : (Str.ofString "either" = Str.ofString "-") = False := eq_false (by decide +kernel)
theorem nq_2_0 : (Str.ofString "needs" = Str.ofString "be") = False := eq_false (by decide +kernel)
theorem nq_2_1 : (Str.ofString "needs" = Str.ofString "either") = False := eq_false (by decide +kernel)
theorem nq_2_3 : (Str.ofString "needs" = Str.ofString "bars") = False := eq_false (by decide +kernel)
theorem nq_2_4 : (Str.ofString "needs" = Str.ofString "same") = False := eq_false (by decide +kernel)
theorem nq_2_5 : (Str.ofString "needs" = Str.ofString "unlike") = False := eq_false (by decide +kernel)
theorem nq_2_6 : (Str.ofString "needs" = Str.ofString "+") = False := eq_false (by decide +kernel)
theorem nq_2_7 : (Str.ofString "needs" = Str.ofString "-") = False := eq_false (by decide +kernel)
theorem nq_3_0 : (Str.ofString "bars" = Str.ofString "be") = False := eq_false (by decide +kernel)
theorem nq_3_1 : (Str.ofString "bars" = Str.ofString "either") = False := eq_false (by decide +kernel)
theorem nq_3_2 : (Str.ofString "bars" = Str.ofString "needs") = False := eq_false (by decide +kernel)
theorem nq_3_4 : (Str.ofString "bars" = Str.ofString "same") = False := eq_false (by decide +kernel)
theorem nq_3_5 : (Str.ofString "bars" = Str.ofString "unlike") = False := eq_false (by decide +kernel)
theorem nq_3_6 : (Str.ofString "bars" = Str.ofString "+") = False := eq_false (by decide +kernel)
theorem nq_3_7 : (Str.ofString "bars" = Str.ofString "-") = False := eq_false (by decide +kernel)
theorem nq_4_0 : (Str.ofString "same" = Str.ofString "be") = False := eq_false (by decide +kernel)
theorem nq_4_1 : (Str.ofString "same" = Str.ofString "either") = False := eq_false (by decide +kernel)
theorem nq_4_2 : (Str.ofString "same" = Str.ofString "needs") = False := eq_false (by decide +kernel)
theorem nq_4_3 : (Str.ofString "same" = Str.ofString "bars") = False := eq_false (by decide +kernel)
theorem nq_4_5 : (Str.ofString "same" = Str.ofString "unlike") = False := eq_false (by decide +kernel)
theorem nq_4_6 : (Str.ofString "same" = Str.ofString "+") = False := eq_false (by decide +kernel)
theorem nq_4_7 : (Str.ofString "same" = Str.ofString "-") = False := eq_false (by decide +kernel)
theorem nq_5_0 : (Str.ofString "unlike" = Str.ofString "be") = False := eq_false (by decide +kernel)
theorem nq_5_1 : (Str.ofString "unlike" = Str.ofString "either") = False := eq_false (by decide +kernel)
theorem nq_5_2 : (Str.ofString "unlike" = Str.ofString "needs") = False := eq_false (by decide +kernel)
theorem nq_5_3 : (Str.ofString "unlike" = Str.ofString "bars") = False := eq_false (by decide +kernel)
theorem nq_5_4 : (Str.ofString "unlike" = Str.ofString "same") = False := eq_false (by decide +kernel)
theorem nq_5_6 : (Str.ofString "unlike" = Str.ofString "+") = False := eq_false (by decide +kernel)
theorem nq_5_7 : (Str.ofString "unlike" = Str.ofString "-") = False := eq_false (by decide +kernel)
theorem nq_6_0 : (Str.ofString "+" = Str.ofString "be") = False := eq_false (by decide +kernel)
theorem nq_6_1 : (Str.ofString "+" = Str.ofString "either") = False := eq_false (by decide +kernel)
theorem nq_6_2 : (Str.ofString "+" = Str.ofString "needs") = False := eq_false (by decide +kernel)
theorem nq_6_3 : (Str.ofString "+" = Str.ofString "bars") = False := eq_false (by decide +kernel)
theorem nq_6_4 : (Str.ofString "+" = Str.ofString "same") = False := eq_false (by decide +kernel)
theorem nq_6_5 : (Str.ofString "+" = Str.ofString "unlike") = False := eq_false (by decide +kernel)
theorem nq_6_7 : (Str.ofString "+" = Str.ofString "-") = False := eq_false (by decide +kernel)
theorem nq_7_0 : (Str.ofString "-" = Str.ofString "be") = False := eq_false (by decide +kernel)
theorem nq_7_1 : (Str.ofString "-" = Str.ofString "either") = False := eq_false (by decide +kernel)
theorem nq_7_2 : (Str.ofString "-" = Str.ofString "needs") = False := eq_false (by decide +kernel)
theorem nq_7_3 : (Str.ofString "-" = Str.ofString "bars") = False := eq_false (by decide +kernel)
theorem nq_7_4 : (Str.ofString "-" = Str.ofString "same") = False := eq_false (by decide +kernel)
theorem nq_7_5 : (Str.ofString "-" = Str.ofString "unlike") = False := eq_false (by decide +kernel)
theorem nq_7_6 : (Str.ofString "-" = Str.ofString "+") = False := eq_false (by decide +kernel)
theorem tp_ne {f : Bool} {l m : List D} (h : l ≠ m) : tp f l ≠ .tup m := by cases f <;> simp [tp, h]
theorem ne_tp {f : Bool} {l m : List D} (h : m ≠ l) : D.tup m ≠ tp f l := by cases f <;> simp [tp, h]
theorem ruleD_inj {a b : Rule} : ruleD a = ruleD b ↔ a = b := by
  have sn : ∀ {x y : String} {l m : List D}, (Str.ofString x = Str.ofString y) = False → (D.str (Str.ofString x) :: l) ≠ (D.str (Str.ofString y) :: m) := fun h e => by
    simp only [List.cons.injEq, D.str.injEq] at e
    rw [h] at e; exact e.1
  cases a <;> cases b <;> simp only [ruleD, tp_inj, litD_inj, D.tup.injEq, List.cons.injEq, D.str.injEq, true_and, and_true, Rule.be.injEq, Rule.either.injEq, Rule.needs.injEq, Rule.bars.injEq, Rule.same.injEq, Rule.unlike.injEq, reduceCtorEq, iff_false, nq_0_1, nq_0_2, nq_0_3, nq_0_4, nq_0_5, nq_0_6, nq_0_7, nq_1_0, nq_1_2, nq_1_3, nq_1_4, nq_1_5, nq_1_6, nq_1_7, nq_2_0, nq_2_1, nq_2_3, nq_2_4, nq_2_5, nq_2_6, nq_2_7, nq_3_0, nq_3_1, nq_3_2, nq_3_4, nq_3_5, nq_3_6, nq_3_7, nq_4_0, nq_4_1, nq_4_2, nq_4_3, nq_4_5, nq_4_6, nq_4_7, nq_5_0, nq_5_1, nq_5_2, nq_5_3, nq_5_4, nq_5_6, nq_5_7, nq_6_0, nq_6_1, nq_6_2, nq_6_3, nq_6_4, nq_6_5, nq_6_7, nq_7_0, nq_7_1, nq_7_2, nq_7_3, nq_7_4, nq_7_5, nq_7_6, false_and, not_false_eq_true, and_false]
  all_goals (refine fun e => absurd e ?_; first | exact tp_ne (sn (by first | exact nq_0_1 | exact nq_0_2 | exact nq_0_3 | exact nq_0_4 | exact nq_0_5 | exact nq_0_6 | exact nq_0_7 | exact nq_1_0 | exact nq_1_2 | exact nq_1_3 | exact nq_1_4 | exact nq_1_5 | exact nq_1_6 | exact nq_1_7 | exact nq_2_0 | exact nq_2_1 | exact nq_2_3 | exact nq_2_4 | exact nq_2_5 | exact nq_2_6 | exact nq_2_7 | exact nq_3_0 | exact nq_3_1 | exact nq_3_2 | exact nq_3_4 | exact nq_3_5 | exact nq_3_6 | exact nq_3_7 | exact nq_4_0 | exact nq_4_1 | exact nq_4_2 | exact nq_4_3 | exact nq_4_5 | exact nq_4_6 | exact nq_4_7 | exact nq_5_0 | exact nq_5_1 | exact nq_5_2 | exact nq_5_3 | exact nq_5_4 | exact nq_5_6 | exact nq_5_7 | exact nq_6_0 | exact nq_6_1 | exact nq_6_2 | exact nq_6_3 | exact nq_6_4 | exact nq_6_5 | exact nq_6_7 | exact nq_7_0 | exact nq_7_1 | exact nq_7_2 | exact nq_7_3 | exact nq_7_4 | exact nq_7_5 | exact nq_7_6)) | exact ne_tp (sn (by first | exact nq_0_1 | exact nq_0_2 | exact nq_0_3 | exact nq_0_4 | exact nq_0_5 | exact nq_0_6 | exact nq_0_7 | exact nq_1_0 | exact nq_1_2 | exact nq_1_3 | exact nq_1_4 | exact nq_1_5 | exact nq_1_6 | exact nq_1_7 | exact nq_2_0 | exact nq_2_1 | exact nq_2_3 | exact nq_2_4 | exact nq_2_5 | exact nq_2_6 | exact nq_2_7 | exact nq_3_0 | exact nq_3_1 | exact nq_3_2 | exact nq_3_4 | exact nq_3_5 | exact nq_3_6 | exact nq_3_7 | exact nq_4_0 | exact nq_4_1 | exact nq_4_2 | exact nq_4_3 | exact nq_4_5 | exact nq_4_6 | exact nq_4_7 | exact nq_5_0 | exact nq_5_1 | exact nq_5_2 | exact nq_5_3 | exact nq_5_4 | exact nq_5_6 | exact nq_5_7 | exact nq_6_0 | exact nq_6_1 | exact nq_6_2 | exact nq_6_3 | exact nq_6_4 | exact nq_6_5 | exact nq_6_7 | exact nq_7_0 | exact nq_7_1 | exact nq_7_2 | exact nq_7_3 | exact nq_7_4 | exact nq_7_5 | exact nq_7_6)))
theorem map_inj {α β : Type} {f : α → β} (h : ∀ {a b}, f a = f b ↔ a = b) : ∀ {l m : List α}, l.map f = m.map f ↔ l = m
  | [], [] => by simp
  | [], _ :: _ => by simp
  | _ :: _, [] => by simp
  | a :: l, b :: m => by rw [List.map_cons, List.map_cons, List.cons.injEq, List.cons.injEq, h, map_inj h]
theorem strs_inj {l m : List Str} : l.map D.str = m.map D.str ↔ l = m := map_inj fun {a b} => by rw [D.str.injEq]
theorem lits_inj {l m : List Lit} : l.map litD = m.map litD ↔ l = m := map_inj litD_inj
theorem rules_inj {l m : List Rule} : l.map ruleD = m.map ruleD ↔ l = m := map_inj ruleD_inj
theorem sets_inj {l m : List (List Bool)} : l.map setD = m.map setD ↔ l = m := map_inj setD_inj
theorem inL_strs {ss : List Str} {x : Str} : inL (ss.map D.str) (.str x) = decide (x ∈ ss) := by
  induction ss with
  | nil => rfl
  | cons s ss ih =>
    unfold inL at ih ⊢
    rw [List.map_cons, List.any_cons, ih, eqd_str]
    by_cases h : s = x
    · subst h; simp
    · have h2 : ¬ x = s := fun z => h z.symm
      simp [h, h2]
theorem flatSs (ss : List Str) : (ss.map D.str).all flatD = true := by
  rw [List.all_eq_true]
  intro d hd
  obtain ⟨s, _, rfl⟩ := List.mem_map.mp hd
  rfl
theorem inL_sets {ss : List (List Bool)} {x : List Bool} : inL (ss.map setD) (setD x) = decide (x ∈ ss) := by
  have e : ss.map setD = (ss.map setS).map D.str := by rw [List.map_map]; rfl
  rw [e]
  show inL _ (.str (setS x)) = _
  rw [inL_strs]
  refine decide_eq_decide.mpr ?_
  rw [List.mem_map]
  exact ⟨fun ⟨y, hy, e⟩ => setS_inj.mp e ▸ hy, fun h => ⟨x, h, rfl⟩⟩
theorem flatSets (ss : List (List Bool)) : (ss.map setD).all flatD = true := by
  rw [List.all_eq_true]
  intro d hd
  obtain ⟨s, _, rfl⟩ := List.mem_map.mp hd
  rfl
theorem flat_set {t : List Bool} : flatD (setD t) = true := rfl
theorem bools_mapf {α : Type} (l : List α) (g : α → Bool) : bools (l.map fun x => D.bl (g x)) = some (l.map g) := by
  have := bools_map (l.map g)
  rwa [List.map_map] at this
theorem all_map {α : Type} (l : List α) (g : α → Bool) : (l.map g).all id = l.all g := by
  induction l with
  | nil => rfl
  | cons x l ih => simp [ih]
theorem any_map {α : Type} (l : List α) (g : α → Bool) : (l.map g).any id = l.any g := by
  induction l with
  | nil => rfl
  | cons x l ih => simp [ih]
theorem tw : (2 ≤ 16777216) = True := by simp
theorem tw3 : (3 ≤ 16777216) = True := by simp
theorem enumD_map {α : Type} {f : α → D} : ∀ {l : List α} {k : Nat}, enumD k (l.map f) = (l.zipIdx k).map fun p => D.tup [.int (p.2 : Int), f p.1]
  | [], k => by simp [enumD]
  | a :: l, k => by
    rw [List.map_cons, List.zipIdx_cons, List.map_cons]
    show _ :: _ = _
    rw [enumD_map (l := l) (k := k + 1)]
theorem find_idx {ss : List Str} {x : Str} (h : x ∈ ss) : ss.findIdx? (· == x) = some (ss.idxOf x) := by
  induction ss with
  | nil => cases h
  | cons s ss ih =>
    rw [List.findIdx?_cons, List.idxOf_cons]
    by_cases e : s = x
    · simp [e]
    · have hx : x ∈ ss := by
        rcases List.mem_cons.mp h with q | q
        · exact absurd q.symm e
        · exact q
      have e2 : (s == x) = false := by simp [e]
      simp [e, e2, ih hx]
end FM

/-! the plain law: rules of two, needs, good settings -/
namespace FM
open PySem
/-- the sign of a switch in a setting -/
def val (ss : List Str) (t : List Bool) (n : Str) : Bool := t.getD (ss.idxOf n) false
def hasL (ss : List Str) (t : List Bool) (a : Lit) : Bool := val ss t a.n == a.s
def keepsC (ss : List Str) (t : List Bool) (c : Lit × Lit) : Bool := hasL ss t c.1 || hasL ss t c.2
def keepsR (ss : List Str) (t : List Bool) (r : Rule) : Bool := (clauses r).all (keepsC ss t)
def good (ss : List Str) (rs : List Rule) (t : List Bool) : Bool := rs.all (keepsR ss t)
theorem op_op (a : Lit) : a.op.op = a := by cases a; simp [Lit.op]
theorem op_n (a : Lit) : a.op.n = a.n := rfl
theorem op_ne (a : Lit) : a.op ≠ a := by
  intro h
  have := congrArg Lit.s h
  simp [Lit.op] at this
theorem op_inj {a b : Lit} (h : a.op = b.op) : a = b := by rw [← op_op a, h, op_op]
theorem lit_cases {a b : Lit} (h : a.n = b.n) : a = b ∨ a = b.op := by
  obtain ⟨n, s⟩ := a
  obtain ⟨m, t⟩ := b
  cases h
  cases s <;> cases t <;> simp [Lit.op]
theorem has_op {ss : List Str} {t : List Bool} {a : Lit} : hasL ss t a.op = !hasL ss t a := by
  unfold hasL Lit.op
  cases val ss t a.n <;> cases a.s <;> rfl
def StepP (rs : List Rule) (a b : Lit) : Prop := ∃ r ∈ rs, (a, b) ∈ steps r
inductive Need (rs : List Rule) : Lit → Lit → Prop
  | refl (a : Lit) : Need rs a a
  | tail {a b c : Lit} : Need rs a b → StepP rs b c → Need rs a c
theorem Need.trans {rs : List Rule} {a b c : Lit} (h : Need rs a b) (k : Need rs b c) : Need rs a c := by
  induction k with
  | refl => exact h
  | tail _ s ih => exact ih.tail s
theorem Need.one {rs : List Rule} {a b : Lit} (h : StepP rs a b) : Need rs a b := (Need.refl a).tail h
theorem steps_iff {r : Rule} {a b : Lit} : (a, b) ∈ steps r ↔ ∃ c ∈ clauses r, (a = c.1.op ∧ b = c.2) ∨ (a = c.2.op ∧ b = c.1) := by
  unfold steps steps1
  rw [List.mem_flatMap]
  refine exists_congr fun c => and_congr_right fun _ => ?_
  by_cases h : c.1 = c.2
  · rw [if_pos h, List.mem_singleton, Prod.mk.injEq, h]
    simp
  · rw [if_neg h]
    simp [Prod.mk.injEq]
theorem step_contra {rs : List Rule} {a b : Lit} (h : StepP rs a b) : StepP rs b.op a.op := by
  obtain ⟨r, hr, h⟩ := h
  refine ⟨r, hr, ?_⟩
  rw [steps_iff] at h ⊢
  obtain ⟨c, hc, h⟩ := h
  refine ⟨c, hc, ?_⟩
  rcases h with ⟨rfl, rfl⟩ | ⟨rfl, rfl⟩
  · exact .inr ⟨rfl, op_op _⟩
  · exact .inl ⟨rfl, op_op _⟩
theorem need_contra {rs : List Rule} {a b : Lit} (h : Need rs a b) : Need rs b.op a.op := by
  induction h with
  | refl => exact .refl _
  | tail _ s ih => exact (Need.one (step_contra s)).trans ih
theorem keepsR_iff {ss : List Str} {t : List Bool} {r : Rule} : keepsR ss t r = true ↔ ∀ a b, (a, b) ∈ steps r → hasL ss t a = true → hasL ss t b = true := by
  unfold keepsR
  rw [List.all_eq_true]
  constructor
  · intro h a b hs ha
    obtain ⟨c, hc, q⟩ := steps_iff.mp hs
    have k := h c hc
    unfold keepsC at k
    rcases q with ⟨rfl, rfl⟩ | ⟨rfl, rfl⟩
    · rw [has_op] at ha
      simp at ha
      simpa [ha] using k
    · rw [has_op] at ha
      simp at ha
      simpa [ha] using k
  · intro h c hc
    have k := h c.1.op c.2 (steps_iff.mpr ⟨c, hc, .inl ⟨rfl, rfl⟩⟩)
    unfold keepsC
    rw [has_op] at k
    cases h1 : hasL ss t c.1 with
    | true => rfl
    | false =>
      rw [h1] at k
      rw [Bool.false_or]
      exact k rfl
theorem good_iff {ss : List Str} {rs : List Rule} {t : List Bool} : good ss rs t = true ↔ ∀ a b, StepP rs a b → hasL ss t a = true → hasL ss t b = true := by
  unfold good
  rw [List.all_eq_true]
  constructor
  · rintro h a b ⟨r, hr, hs⟩
    exact keepsR_iff.mp (h r hr) a b hs
  · intro h r hr
    exact keepsR_iff.mpr fun a b hs => h a b ⟨r, hr, hs⟩
/-- a good setting with a literal has all that it needs -/
theorem sound {ss : List Str} {rs : List Rule} {t : List Bool} (g : good ss rs t = true) {a b : Lit} (n : Need rs a b) (h : hasL ss t a = true) : hasL ss t b = true := by
  induction n with
  | refl => exact h
  | tail _ s ih => exact good_iff.mp g _ _ s ih
/-- literals put over a setting -/
noncomputable def over (ss : List Str) (t : List Bool) (C : Lit → Prop) : List Bool := by
  classical
  exact (ss.zip t).map fun p => if C ⟨p.1, true⟩ then true else if C ⟨p.1, false⟩ then false else p.2
theorem over_len {ss : List Str} {t : List Bool} {C : Lit → Prop} (h : t.length = ss.length) : (over ss t C).length = ss.length := by
  unfold over
  simp [h]
theorem val_over {ss : List Str} {t : List Bool} {C : Lit → Prop} (h : t.length = ss.length) {n : Str} (m : n ∈ ss) :
    (C ⟨n, true⟩ → val ss (over ss t C) n = true) ∧ (¬ C ⟨n, true⟩ → C ⟨n, false⟩ → val ss (over ss t C) n = false) ∧ (¬ C ⟨n, true⟩ → ¬ C ⟨n, false⟩ → val ss (over ss t C) n = val ss t n) := by
  have hi : ss.idxOf n < ss.length := List.idxOf_lt_length_of_mem m
  have hz : (ss.zip t)[ss.idxOf n]? = some (n, t[ss.idxOf n]'(by omega)) := by
    rw [List.getElem?_eq_getElem (by simp; omega)]
    simp
  have hv : val ss t n = t[ss.idxOf n]'(by omega) := by
    unfold val
    simp [List.getD, List.getElem?_eq_getElem (show ss.idxOf n < t.length by omega)]
  have ho : ∀ b, (over ss t C)[ss.idxOf n]? = some b → val ss (over ss t C) n = b := by
    intro b e
    unfold val
    simp [List.getD, e]
  refine ⟨fun c => ho _ ?_, fun c d => ho _ ?_, fun c d => ?_⟩
  · unfold over; rw [List.getElem?_map, hz]; simp [c]
  · unfold over; rw [List.getElem?_map, hz]; simp [c, d]
  · rw [hv]
    refine ho _ ?_
    unfold over; rw [List.getElem?_map, hz]; simp [c, d]
theorem has_over {ss : List Str} {t : List Bool} {C : Lit → Prop} (h : t.length = ss.length) (co : ∀ a, C a → ¬ C a.op) {a : Lit} (m : a.n ∈ ss) :
    (C a → hasL ss (over ss t C) a = true) ∧ (¬ C a → ¬ C a.op → hasL ss (over ss t C) a = hasL ss t a) := by
  obtain ⟨h1, h2, h3⟩ := val_over (C := C) h m
  obtain ⟨n, s⟩ := a
  unfold hasL
  cases s with
  | true =>
    refine ⟨fun c => by simp [h1 c], fun c d => ?_⟩
    simp only at h3 ⊢
    rw [h3 c d]
  | false =>
    refine ⟨fun c => ?_, fun c d => ?_⟩
    · have := co _ c
      simp only at h2 ⊢
      rw [h2 this c]; rfl
    · simp only at h3 ⊢
      rw [h3 d c]
/-- rules over these switches -/
def InS (ss : List Str) (rs : List Rule) : Prop := ∀ r ∈ rs, ruleOk ss r = true
theorem cl_in {ss : List Str} {r : Rule} (h : ruleOk ss r = true) {c : Lit × Lit} (m : c ∈ clauses r) : c.1.n ∈ ss ∧ c.2.n ∈ ss := by
  cases r <;> simp [ruleOk, litOk] at h <;> simp [clauses] at m
  all_goals first
    | (subst m; simp [Lit.op, h])
    | (rcases m with rfl | rfl <;> simp [h])
theorem step_in {ss : List Str} {rs : List Rule} (ok : InS ss rs) {a b : Lit} (h : StepP rs a b) : a.n ∈ ss ∧ b.n ∈ ss := by
  obtain ⟨r, hr, h⟩ := h
  obtain ⟨c, hc, q⟩ := steps_iff.mp h
  have := cl_in (ok r hr) hc
  rcases q with ⟨rfl, rfl⟩ | ⟨rfl, rfl⟩
  · exact ⟨this.1, this.2⟩
  · exact ⟨this.2, this.1⟩
theorem need_in {ss : List Str} {rs : List Rule} (ok : InS ss rs) {a b : Lit} (h : Need rs a b) (m : a.n ∈ ss) : b.n ∈ ss := by
  induction h with
  | refl => exact m
  | tail _ s _ => exact (step_in ok s).2
/-- closed and consistent literals put over a good setting: a good setting -/
theorem over_good {ss : List Str} {rs : List Rule} {t : List Bool} {C : Lit → Prop} (ok : InS ss rs) (h : t.length = ss.length) (co : ∀ a, C a → ¬ C a.op) (cl : ∀ a b, C a → StepP rs a b → C b)
    (g : (∀ n ∈ ss, C ⟨n, true⟩ ∨ C ⟨n, false⟩) ∨ good ss rs t = true) : good ss rs (over ss t C) = true := by
  rw [good_iff]
  intro a b s ha
  obtain ⟨ma, mb⟩ := step_in ok s
  by_cases hb : C b
  · exact (has_over h co mb).1 hb
  · by_cases hb2 : C b.op
    · have := cl _ _ hb2 (step_contra s)
      have q := (has_over h co (a := a.op) ma).1 this
      rw [has_op] at q
      simp [ha] at q
    · by_cases hc : C a
      · exact absurd (cl _ _ hc s) hb
      · by_cases hc2 : C a.op
        · have q := (has_over h co (a := a.op) ma).1 hc2
          rw [has_op] at q
          simp [ha] at q
        · rcases g with g | g
          · exfalso
            obtain ⟨n, sb⟩ := b
            cases sb <;> rcases g n mb with q | q <;> first | exact hb q | exact hb2 q
          · rw [(has_over h co mb).2 hb hb2]
            rw [(has_over h co ma).2 hc hc2] at ha
            exact good_iff.mp g _ _ s ha
/-- what a literal needs is consistent unless it needs its opposite -/
theorem closure_co {rs : List Rule} {a : Lit} (h : ¬ Need rs a a.op) : ∀ b, Need rs a b → ¬ Need rs a b.op := fun b h1 h2 => by
  have := need_contra h2
  rw [op_op] at this
  exact h (h1.trans this)
/-- fixed literals -/
theorem fixed_iff {ss : List Str} {rs : List Rule} (ok : InS ss rs) {t : List Bool} (h : t.length = ss.length) (g : good ss rs t = true) {a : Lit} (m : a.n ∈ ss) :
    Need rs a.op a ↔ ∀ u : List Bool, u.length = ss.length → good ss rs u = true → hasL ss u a = true := by
  constructor
  · intro n u _ gu
    cases q : hasL ss u a with
    | true => rfl
    | false =>
      have := sound gu n (by rw [has_op, q]; rfl)
      rw [q] at this; exact this
  · intro hall
    by_cases n : Need rs a.op a
    · exact n
    · exfalso
      have co := closure_co (rs := rs) (a := a.op) (by rw [op_op]; exact n)
      have g2 := over_good (C := Need rs a.op) ok h co (fun x y hx hs => hx.tail hs) (.inr g)
      have q := hall _ (over_len h) g2
      have q2 := (has_over h co (a := a.op) m).1 (Need.refl _)
      rw [has_op, q] at q2
      cases q2
/-- two-literal rules: a good setting, unless some literal and its opposite need one another -/
theorem some_good {ss : List Str} {rs : List Rule} (ok : InS ss rs) (h : ∀ a : Lit, a.n ∈ ss → ¬ (Need rs a a.op ∧ Need rs a.op a)) : ∃ t : List Bool, t.length = ss.length ∧ good ss rs t = true := by
  have key : ∀ l : List Str, (∀ n ∈ l, n ∈ ss) → ∃ C : Lit → Prop, (∀ a, C a → ¬ C a.op) ∧ (∀ a b, C a → StepP rs a b → C b) ∧ ∀ n ∈ l, C ⟨n, true⟩ ∨ C ⟨n, false⟩ := by
    intro l
    induction l with
    | nil => exact fun _ => ⟨fun _ => False, fun _ h => h.elim, fun _ _ h => h.elim, fun n hn => by cases hn⟩
    | cons x l ih =>
      intro hl
      obtain ⟨C, co, cl, tot⟩ := ih fun n hn => hl n (List.mem_cons_of_mem _ hn)
      by_cases hx : C ⟨x, true⟩ ∨ C ⟨x, false⟩
      · exact ⟨C, co, cl, fun n hn => by
          rcases List.mem_cons.mp hn with rfl | hn
          · exact hx
          · exact tot n hn⟩
      · have ex : ∃ a : Lit, a.n = x ∧ ¬ Need rs a a.op := by
          by_cases q : Need rs ⟨x, true⟩ ⟨x, false⟩
          · refine ⟨⟨x, false⟩, rfl, fun z => ?_⟩
            exact h ⟨x, true⟩ (hl x (List.mem_cons_self ..)) ⟨q, z⟩
          · exact ⟨⟨x, true⟩, rfl, q⟩
        obtain ⟨a, rfl, na⟩ := ex
        have nc : ¬ C a ∧ ¬ C a.op := by
          obtain ⟨n, s⟩ := a
          cases s <;> simp only [Lit.op, Bool.not_true, Bool.not_false] <;> exact ⟨fun z => hx (by simp [z]), fun z => hx (by simp [z])⟩
        have back : ∀ b, Need rs a b → ¬ C b.op := by
          intro b n c
          have k : ∀ u v, Need rs u v → C u → C v := fun u v n c => by
            induction n with
            | refl => exact c
            | tail _ s ih => exact cl _ _ ih s
          exact nc.2 (k _ _ (need_contra n) c)
        refine ⟨fun b => C b ∨ Need rs a b, ?_, ?_, ?_⟩
        · rintro b (c | n) (d | m)
          · exact co b c d
          · have := back _ m
            rw [op_op] at this
            exact this c
          · exact back _ n d
          · exact closure_co na b n m
        · rintro b c (q | q) s
          · exact .inl (cl _ _ q s)
          · exact .inr (q.tail s)
        · intro n hn
          rcases List.mem_cons.mp hn with rfl | hn
          · obtain ⟨n, s⟩ := a
            cases s
            · exact .inr (.inr (.refl _))
            · exact .inl (.inr (.refl _))
          · rcases tot n hn with q | q
            · exact .inl (.inl q)
            · exact .inr (.inl q)
  obtain ⟨C, co, cl, tot⟩ := key ss fun _ h => h
  have hl : (ss.map fun _ => false).length = ss.length := by simp
  exact ⟨over ss (ss.map fun _ => false) C, over_len hl, over_good ok hl co cl (.inl tot)⟩
theorem none_good {ss : List Str} {rs : List Rule} {a : Lit} (h : Need rs a a.op ∧ Need rs a.op a) (t : List Bool) : good ss rs t = false := by
  cases g : good ss rs t with
  | false => rfl
  | true =>
    exfalso
    cases q : hasL ss t a with
    | true =>
      have := sound g h.1 q
      rw [has_op, q] at this; cases this
    | false =>
      have := sound g h.2 (by rw [has_op, q]; rfl)
      rw [q] at this; cases this
/-- locked: fixed, or some other literal needs it and is needed by it -/
def Lock (rs : List Rule) (n : Str) : Prop := Need rs ⟨n, true⟩ ⟨n, false⟩ ∨ Need rs ⟨n, false⟩ ⟨n, true⟩ ∨ ∃ b : Lit, b ≠ ⟨n, true⟩ ∧ Need rs ⟨n, true⟩ b ∧ Need rs b ⟨n, true⟩
/-- two good settings that differ in one switch alone -/
theorem lock_stuck {ss : List Str} {rs : List Rule} {t u : List Bool} (gt : good ss rs t = true) (gu : good ss rs u = true) {n : Str} (d : val ss t n ≠ val ss u n) (s : ∀ m, m ≠ n → val ss t m = val ss u m) : ¬ Lock rs n := by
  have key : ∀ t u : List Bool, good ss rs t = true → good ss rs u = true → val ss t n = true → val ss u n = false → (∀ m, m ≠ n → val ss t m = val ss u m) → ¬ Lock rs n := by
    intro t u gt gu ht hu s
    rintro (h | h | ⟨b, hb, h1, h2⟩)
    · have := sound gt h (by simp [hasL, ht])
      simp [hasL, ht] at this
    · have := sound gu h (by simp [hasL, hu])
      simp [hasL, hu] at this
    · by_cases hn : b.n = n
      · rcases lit_cases (b := ⟨n, true⟩) hn with q | q
        · exact hb q
        · subst q
          have := sound gt h1 (by simp [hasL, ht])
          simp [hasL, ht, Lit.op] at this
      · have q1 := sound gt h1 (by simp [hasL, ht])
        have q2 : hasL ss u b = true := by
          unfold hasL at q1 ⊢
          rw [← s _ hn]; exact q1
        have := sound gu h2 q2
        simp [hasL, hu] at this
  cases ht : val ss t n with
  | true =>
    have hu : val ss u n = false := by cases q : val ss u n with
      | false => rfl
      | true => rw [ht, q] at d; exact absurd rfl d
    exact key t u gt gu ht hu s
  | false =>
    have hu : val ss u n = true := by cases q : val ss u n with
      | true => rfl
      | false => rw [ht, q] at d; exact absurd rfl d
    exact key u t gu gt hu ht fun m hm => (s m hm).symm
end FM

/-! steps, ways, and what is told by them -/
namespace FM
open PySem FD
abbrev Way := List (Nat × Lit)
abbrev Kn := List (Lit × Way)
def stepsAt (rs : List Rule) (a : Lit) : Way := rs.zipIdx.flatMap fun p => ((steps p.1).filter fun q => decide (q.1 = a)).map fun q => (p.2, q.2)
theorem stepsAt_iff {rs : List Rule} {a b : Lit} : (∃ i, (i, b) ∈ stepsAt rs a) ↔ StepP rs a b := by
  unfold stepsAt StepP
  simp only [List.mem_flatMap, List.mem_map, List.mem_filter, decide_eq_true_eq, Prod.mk.injEq]
  constructor
  · rintro ⟨i, ⟨r, k⟩, hp, ⟨x, y⟩, ⟨hq, rfl⟩, rfl, rfl⟩
    exact ⟨r, (List.mem_zipIdx hp).2.2 ▸ List.getElem_mem _, hq⟩
  · rintro ⟨r, hr, hs⟩
    obtain ⟨i, hi, rfl⟩ := List.mem_iff_getElem.mp hr
    refine ⟨i, (rs[i], i), ?_, (a, b), ⟨hs, rfl⟩, rfl, rfl⟩
    rw [List.mem_zipIdx_iff_getElem?]
    simp [hi]
def bfs1 (one : Lit) (st : Kn × List Lit) (s : Nat × Lit) : Kn × List Lit :=
  if (st.1.lookup s.2).isSome = true then st else (st.1 ++ [(s.2, ((st.1.lookup one).getD []) ++ [s])], st.2 ++ [s.2])
def bfsO (rs : List Rule) (st : Kn × List Lit) (one : Lit) : Kn × List Lit := (stepsAt rs one).foldl (bfs1 one) st
def bfsL (rs : List Rule) (k : Kn) (layer : List Lit) : Kn × List Lit := layer.foldl (bfsO rs) (k, [])
def bfs (rs : List Rule) : Nat → Kn → List Lit → Kn
  | 0, k, _ => k
  | n + 1, k, layer => if layer = [] then k else bfs rs n (bfsL rs k layer).1 (bfsL rs k layer).2
theorem bfs_nil {rs : List Rule} {n : Nat} {k : Kn} : bfs rs n k [] = k := by cases n <;> simp [bfs]
def wf (ss : List Str) (rs : List Rule) (a : Lit) : Kn := bfs rs (2 * ss.length + 1) [(a, [])] [a]
/-- what is kept: known ones are needed, over these switches, none twice; what is to come is known -/
structure BI (ss : List Str) (rs : List Rule) (a : Lit) (k : Kn) : Prop where
  need : ∀ b ∈ k.map (·.1), Need rs a b
  nd : (k.map (·.1)).Nodup
  ins : ∀ b ∈ k.map (·.1), b.n ∈ ss
  wl : ∀ q ∈ k, q.2.length ≤ k.length
theorem lookup_mem {k : Kn} {b : Lit} {w : Way} (h : k.lookup b = some w) : (b, w) ∈ k := by
  induction k with
  | nil => cases h
  | cons p k ih =>
    obtain ⟨x, u⟩ := p
    rw [List.lookup_cons] at h
    cases e : (b == x) with
    | true => rw [e] at h; cases h; rw [eq_of_beq e]; exact List.mem_cons_self ..
    | false => rw [e] at h; exact List.mem_cons_of_mem _ (ih h)
theorem lk_iff {k : Kn} {b : Lit} : (k.lookup b).isSome = true ↔ b ∈ k.map (·.1) := by
  induction k with
  | nil => simp
  | cons p k ih =>
    obtain ⟨x, w⟩ := p
    rw [List.lookup_cons]
    by_cases h : b = x
    · subst h; simp
    · have e : (b == x) = false := by simp [h]
      rw [e]
      show (k.lookup b).isSome = true ↔ _
      rw [ih, List.map_cons, List.mem_cons]
      exact ⟨.inr, fun q => q.resolve_left h⟩
theorem lits_len (l : List Str) : (lits l).length = 2 * l.length := by
  induction l with
  | nil => rfl
  | cons x l ih => rw [List.length_cons, lits, List.flatMap_cons, List.length_append]; unfold lits at ih; rw [ih]; simp; omega
theorem mem_lits {ss : List Str} {a : Lit} : a ∈ lits ss ↔ a.n ∈ ss := by
  unfold lits
  rw [List.mem_flatMap]
  constructor
  · rintro ⟨x, hx, h⟩
    simp only [List.mem_cons, List.not_mem_nil, or_false] at h
    rcases h with rfl | rfl <;> exact hx
  · intro h
    obtain ⟨n, s⟩ := a
    exact ⟨n, h, by cases s <;> simp⟩
theorem BI.len {ss : List Str} {rs : List Rule} {a : Lit} {k : Kn} (h : BI ss rs a k) : k.length ≤ 2 * ss.length := by
  have := List.Nodup.length_le_of_subset h.nd (l₂ := lits ss) fun b hb => mem_lits.mpr (h.ins b hb)
  rw [List.length_map, lits_len] at this
  exact this
/-- one step -/
theorem bfs1_keep {ss : List Str} {rs : List Rule} (ok : InS ss rs) {a one : Lit} {st : Kn × List Lit} {s : Nat × Lit} (h : BI ss rs a st.1) (ho : one ∈ st.1.map (·.1)) (hs : s ∈ stepsAt rs one) :
    BI ss rs a (bfs1 one st s).1 ∧ (∀ b ∈ st.1.map (·.1), b ∈ (bfs1 one st s).1.map (·.1)) ∧ s.2 ∈ (bfs1 one st s).1.map (·.1) ∧ (bfs1 one st s).1.length = st.1.length + ((bfs1 one st s).2.length - st.2.length) ∧ st.2.length ≤ (bfs1 one st s).2.length ∧
      ((∀ b ∈ (bfs1 one st s).1.map (·.1), b ∈ st.1.map (·.1) ∨ b ∈ (bfs1 one st s).2) ∧ ∀ b ∈ st.2, b ∈ (bfs1 one st s).2) ∧ ∀ b ∈ (bfs1 one st s).2, b ∈ st.2 ∨ b ∈ (bfs1 one st s).1.map (·.1) := by
  unfold bfs1
  by_cases q : (st.1.lookup s.2).isSome = true
  · rw [if_pos q]
    exact ⟨h, fun _ h => h, lk_iff.mp q, by omega, Nat.le_refl _, ⟨fun b hb => .inl hb, fun _ h => h⟩, fun b hb => .inl hb⟩
  · rw [if_neg q]
    have nq : s.2 ∉ st.1.map (·.1) := fun z => q (lk_iff.mpr z)
    have sp : StepP rs one s.2 := stepsAt_iff.mp ⟨s.1, hs⟩
    refine ⟨⟨?_, ?_, ?_, ?_⟩, ?_, ?_, ?_, ?_, ?_, ?_⟩
    · intro b hb
      simp only [List.map_append, List.map_cons, List.map_nil, List.mem_append, List.mem_singleton] at hb
      rcases hb with hb | rfl
      · exact h.need b hb
      · exact (h.need one ho).tail sp
    · rw [List.map_append, List.nodup_append]
      refine ⟨h.nd, by simp, ?_⟩
      intro x hx y hy e
      simp at hy
      subst hy; subst e
      exact nq hx
    · intro b hb
      simp only [List.map_append, List.map_cons, List.map_nil, List.mem_append, List.mem_singleton] at hb
      rcases hb with hb | rfl
      · exact h.ins b hb
      · exact (step_in ok sp).2
    · intro q hq
      rw [List.length_append]
      rcases List.mem_append.mp hq with m | m
      · have := h.wl q m
        omega
      · rw [List.mem_singleton.mp m]
        have l1 : ((st.1.lookup one).getD []).length ≤ st.1.length := by
          cases e : st.1.lookup one with
          | none => simp
          | some w => exact h.wl _ (lookup_mem e)
        simp
        omega
    · intro b hb; simp only [List.map_append, List.mem_append]; exact .inl hb
    · simp
    · simp
    · simp
    · refine ⟨fun b hb => ?_, fun b hb => by simp [hb]⟩
      simp only [List.map_append, List.map_cons, List.map_nil, List.mem_append, List.mem_singleton] at hb ⊢
      exact hb.imp id .inr
    · intro b hb
      simp only [List.map_append, List.map_cons, List.map_nil, List.mem_append, List.mem_singleton] at hb ⊢
      rcases hb with hb | hb
      · exact .inl hb
      · exact .inr (.inr hb)
/-- what a run of steps keeps, seen from where it began -/
structure Run (ss : List Str) (rs : List Rule) (a : Lit) (st st' : Kn × List Lit) : Prop where
  bi : BI ss rs a st'.1
  sub : ∀ b ∈ st.1.map (·.1), b ∈ st'.1.map (·.1)
  len : st'.1.length + st.2.length = st.1.length + st'.2.length
  new : ∀ b ∈ st'.1.map (·.1), b ∈ st.1.map (·.1) ∨ b ∈ st'.2
  mono : ∀ b ∈ st.2, b ∈ st'.2
  lay : (∀ b ∈ st.2, b ∈ st.1.map (·.1)) → ∀ b ∈ st'.2, b ∈ st'.1.map (·.1)
theorem Run.refl {ss : List Str} {rs : List Rule} {a : Lit} {st : Kn × List Lit} (h : BI ss rs a st.1) : Run ss rs a st st := ⟨h, fun _ h => h, by omega, fun b hb => .inl hb, fun _ h => h, fun h => h⟩
theorem Run.trans {ss : List Str} {rs : List Rule} {a : Lit} {s1 s2 s3 : Kn × List Lit} (h : Run ss rs a s1 s2) (k : Run ss rs a s2 s3) : Run ss rs a s1 s3 :=
  ⟨k.bi, fun b hb => k.sub b (h.sub b hb), by have := h.len; have := k.len; omega, fun b hb => by
    rcases k.new b hb with q | q
    · rcases h.new b q with q | q
      · exact .inl q
      · exact .inr (k.mono b q)
    · exact .inr q, fun b hb => k.mono b (h.mono b hb), fun q => k.lay (h.lay q)⟩
theorem run1 {ss : List Str} {rs : List Rule} (ok : InS ss rs) {a one : Lit} {st : Kn × List Lit} {s : Nat × Lit} (h : BI ss rs a st.1) (ho : one ∈ st.1.map (·.1)) (hs : s ∈ stepsAt rs one) :
    Run ss rs a st (bfs1 one st s) ∧ s.2 ∈ (bfs1 one st s).1.map (·.1) := by
  obtain ⟨h1, h2, h3, h4, h5, ⟨h6, h7⟩, h8⟩ := bfs1_keep ok h ho hs
  exact ⟨⟨h1, h2, by omega, h6, h7, fun q b hb => (h8 b hb).elim (fun z => h2 b (q b z)) id⟩, h3⟩
theorem runO {ss : List Str} {rs : List Rule} (ok : InS ss rs) {a one : Lit} : ∀ (l : Way) (_ : ∀ s ∈ l, s ∈ stepsAt rs one) (st : Kn × List Lit) (_ : BI ss rs a st.1) (_ : one ∈ st.1.map (·.1)),
    Run ss rs a st (l.foldl (bfs1 one) st) ∧ ∀ s ∈ l, s.2 ∈ (l.foldl (bfs1 one) st).1.map (·.1)
  | [], _, st, h, _ => ⟨.refl h, fun s hs => by cases hs⟩
  | s :: l, hl, st, h, ho => by
    obtain ⟨r1, m1⟩ := run1 ok h ho (hl s (List.mem_cons_self ..))
    obtain ⟨r2, m2⟩ := runO ok l (fun x hx => hl x (List.mem_cons_of_mem _ hx)) _ r1.bi (r1.sub _ ho)
    rw [List.foldl_cons]
    refine ⟨r1.trans r2, fun x hx => ?_⟩
    rcases List.mem_cons.mp hx with rfl | hx
    · exact r2.sub _ m1
    · exact m2 x hx
theorem runL {ss : List Str} {rs : List Rule} (ok : InS ss rs) {a : Lit} : ∀ (l : List Lit) (st : Kn × List Lit) (_ : BI ss rs a st.1) (_ : ∀ b ∈ l, b ∈ st.1.map (·.1)),
    Run ss rs a st (l.foldl (bfsO rs) st) ∧ ∀ one ∈ l, ∀ s ∈ stepsAt rs one, s.2 ∈ (l.foldl (bfsO rs) st).1.map (·.1)
  | [], st, h, _ => ⟨.refl h, fun s hs => by cases hs⟩
  | o :: l, st, h, hl => by
    obtain ⟨r1, m1⟩ := runO ok (stepsAt rs o) (fun _ h => h) st h (hl o (List.mem_cons_self ..))
    obtain ⟨r2, m2⟩ := runL ok l (bfsO rs st o) r1.bi fun b hb => r1.sub _ (hl b (List.mem_cons_of_mem _ hb))
    rw [List.foldl_cons]
    refine ⟨r1.trans r2, fun x hx s hs => ?_⟩
    rcases List.mem_cons.mp hx with rfl | hx
    · exact r2.sub _ (m1 s hs)
    · exact m2 x hx s hs
/-- the state between two layers -/
structure BW (ss : List Str) (rs : List Rule) (a : Lit) (n : Nat) (k : Kn) (layer : List Lit) : Prop where
  bi : BI ss rs a k
  here : a ∈ k.map (·.1)
  lay : ∀ b ∈ layer, b ∈ k.map (·.1)
  done : ∀ b ∈ k.map (·.1), b ∉ layer → ∀ s ∈ stepsAt rs b, s.2 ∈ k.map (·.1)
  fuel : layer ≠ [] → 2 * ss.length + 1 ≤ n + k.length
theorem BW.step {ss : List Str} {rs : List Rule} (ok : InS ss rs) {a : Lit} {n : Nat} {k : Kn} {layer : List Lit} (h : BW ss rs a (n + 1) k layer) (ne : layer ≠ []) : BW ss rs a n (bfsL rs k layer).1 (bfsL rs k layer).2 := by
  obtain ⟨r, m⟩ := runL ok layer (k, []) h.bi h.lay
  refine ⟨r.bi, r.sub _ h.here, r.lay (fun b hb => by cases hb), fun b hb nb s hs => ?_, fun nl => ?_⟩
  · rcases r.new b hb with q | q
    · by_cases hl : b ∈ layer
      · exact m b hl s hs
      · exact r.sub _ (h.done b q hl s hs)
    · exact absurd q nb
  · have := h.fuel ne
    have := r.len
    have l1 : 0 < (bfsL rs k layer).2.length := List.length_pos_iff.mpr nl
    unfold bfsL at l1 ⊢
    simp only [List.length_nil] at this
    omega
theorem BW.pos {ss : List Str} {rs : List Rule} {a : Lit} {n : Nat} {k : Kn} {layer : List Lit} (h : BW ss rs a n k layer) (ne : layer ≠ []) : ∃ m, n = m + 1 := by
  have := h.fuel ne
  have := h.bi.len
  exact ⟨n - 1, by omega⟩
theorem bw_end {ss : List Str} {rs : List Rule} (ok : InS ss rs) {a : Lit} : ∀ (n : Nat) (k : Kn) (layer : List Lit), BW ss rs a n k layer → BW ss rs a 0 (bfs rs n k layer) []
  | 0, k, layer, h => by
    by_cases ne : layer = []
    · subst ne; exact h
    · obtain ⟨m, e⟩ := h.pos ne
      omega
  | n + 1, k, layer, h => by
    unfold bfs
    by_cases ne : layer = []
    · rw [if_pos ne]; subst ne
      exact ⟨h.bi, h.here, h.lay, h.done, fun z => absurd rfl z⟩
    · rw [if_neg ne]
      exact bw_end ok n _ _ (h.step ok ne)
theorem bw_start {ss : List Str} {rs : List Rule} {a : Lit} (m : a.n ∈ ss) : BW ss rs a (2 * ss.length + 1) [(a, [])] [a] :=
  ⟨⟨fun b hb => by simp at hb; subst hb; exact .refl _, by simp, fun b hb => by simp at hb; subst hb; exact m, fun q hq => by simp at hq; subst hq; simp⟩, by simp, by simp, fun b hb nb => by simp at hb nb; exact absurd hb nb, fun _ => by simp⟩
def inW (ss : List Str) (rs : List Rule) (a b : Lit) : Bool := ((wf ss rs a).lookup b).isSome
theorem inW_iff {ss : List Str} {rs : List Rule} (ok : InS ss rs) {a b : Lit} (m : a.n ∈ ss) : inW ss rs a b = true ↔ Need rs a b := by
  have e := bw_end ok _ _ _ (bw_start (rs := rs) m)
  unfold inW wf
  rw [lk_iff]
  refine ⟨fun h => e.bi.need b h, fun h => ?_⟩
  induction h with
  | refl => exact e.here
  | tail _ s ih =>
    obtain ⟨i, hi⟩ := stepsAt_iff.mpr s
    exact e.done _ ih (by simp) _ hi
/-! ### what is told by ways -/
def hasGood (ss : List Str) (rs : List Rule) : Bool := !(lits ss).any fun a => inW ss rs a a.op && inW ss rs a.op a
theorem hasGood_iff {ss : List Str} {rs : List Rule} (ok : InS ss rs) : hasGood ss rs = true ↔ ∃ t : List Bool, t.length = ss.length ∧ good ss rs t = true := by
  unfold hasGood
  rw [Bool.not_eq_true', List.any_eq_false]
  constructor
  · intro h
    refine some_good ok fun a m n => ?_
    have := h a (mem_lits.mpr m)
    rw [Bool.and_eq_true, inW_iff ok m, inW_iff ok (a := a.op) m] at this
    exact this n
  · rintro ⟨t, _, g⟩ a m n
    rw [mem_lits] at m
    rw [Bool.and_eq_true, inW_iff ok m, inW_iff ok (a := a.op) m] at n
    rw [none_good n t] at g
    cases g
def fixedL (ss : List Str) (rs : List Rule) : List Lit := (lits ss).filter fun a => inW ss rs a.op a
def groupL (ss : List Str) (rs : List Rule) (a : Lit) : List Lit := (lits ss).filter fun b => inW ss rs a b && inW ss rs b a
abbrev TS := List (List Lit) × List Str
def tied1 (ss : List Str) (rs : List Rule) (st : TS) (x : Str) : TS :=
  if x ∉ (fixedL ss rs).map (·.n) ∧ x ∉ st.2 ∧ 1 < (groupL ss rs ⟨x, true⟩).length then (st.1 ++ [groupL ss rs ⟨x, true⟩], st.2 ++ (groupL ss rs ⟨x, true⟩).map (·.n)) else st
def tiedT (ss : List Str) (rs : List Rule) (l : List Str) : TS := l.foldl (tied1 ss rs) ([], [])
def tiedL (ss : List Str) (rs : List Rule) : List (List Lit) := (tiedT ss rs ss).1
def lockNames (ss : List Str) (rs : List Rule) : List Str := (fixedL ss rs ++ (tiedL ss rs).flatten).map (·.n)
def lockedL (ss : List Str) (rs : List Rule) : List Str := ss.filter fun x => decide (x ∈ lockNames ss rs)
theorem tied_seen {ss : List Str} {rs : List Rule} (l : List Str) : (tiedT ss rs l).2 = ((tiedT ss rs l).1.flatten).map (·.n) := by
  have key : ∀ (l : List Str) (st : TS), st.2 = (st.1.flatten).map (·.n) → (l.foldl (tied1 ss rs) st).2 = ((l.foldl (tied1 ss rs) st).1.flatten).map (·.n) := by
    intro l
    induction l with
    | nil => exact fun st h => h
    | cons x l ih =>
      intro st h
      rw [List.foldl_cons]
      refine ih _ ?_
      unfold tied1
      split
      · simp [h]
      · exact h
  exact key l _ rfl
theorem tied_sub {ss : List Str} {rs : List Rule} : ∀ (l : List Str) (st : TS) (y : Str), y ∈ st.2 → y ∈ (l.foldl (tied1 ss rs) st).2
  | [], st, y, h => h
  | x :: l, st, y, h => by
    rw [List.foldl_cons]
    refine tied_sub l _ y ?_
    unfold tied1
    split
    · simp [h]
    · exact h
theorem tied_mem {ss : List Str} {rs : List Rule} (ok : InS ss rs) : ∀ (l : List Str) (st : TS) (x : Str), x ∈ l → x ∈ ss → x ∉ (fixedL ss rs).map (·.n) → 1 < (groupL ss rs ⟨x, true⟩).length → x ∈ (l.foldl (tied1 ss rs) st).2
  | y :: l, st, x, hx, hs, hf, hg => by
    rw [List.foldl_cons]
    rcases List.mem_cons.mp hx with rfl | hx
    · refine tied_sub l _ x ?_
      unfold tied1
      by_cases h : x ∈ st.2
      · rw [if_neg (by simp [h])]; exact h
      · rw [if_pos ⟨hf, h, hg⟩]
        refine List.mem_append_right _ (List.mem_map.mpr ⟨⟨x, true⟩, ?_, rfl⟩)
        refine List.mem_filter.mpr ⟨mem_lits.mpr hs, ?_⟩
        have q := (inW_iff (b := ⟨x, true⟩) ok (a := ⟨x, true⟩) hs).mpr (.refl _)
        simp [q]
    · exact tied_mem ok l _ x hx hs hf hg
theorem tied_from {ss : List Str} {rs : List Rule} : ∀ (l : List Str) (st : TS) (y : Str), y ∈ (l.foldl (tied1 ss rs) st).2 → y ∈ st.2 ∨ ∃ x ∈ l, 1 < (groupL ss rs ⟨x, true⟩).length ∧ y ∈ (groupL ss rs ⟨x, true⟩).map (·.n)
  | [], st, y, h => .inl h
  | x :: l, st, y, h => by
    rw [List.foldl_cons] at h
    rcases tied_from l _ y h with q | ⟨z, hz, h1, h2⟩
    · unfold tied1 at q
      split at q
      · rename_i c
        rcases List.mem_append.mp q with q | q
        · exact .inl q
        · exact .inr ⟨x, List.mem_cons_self .., c.2.2, q⟩
      · exact .inl q
    · exact .inr ⟨z, List.mem_cons_of_mem _ hz, h1, h2⟩
theorem lits_nodup {ss : List Str} (h : ss.Nodup) : (lits ss).Nodup := by
  induction ss with
  | nil => simp [lits]
  | cons x ss ih =>
    rw [List.nodup_cons] at h
    unfold lits at ih ⊢
    rw [List.flatMap_cons, List.nodup_append]
    refine ⟨by simp, ih h.2, ?_⟩
    intro a ha b hb e
    subst e
    have : a ∈ lits ss := hb
    rw [mem_lits] at this
    simp at ha
    rcases ha with rfl | rfl <;> exact h.1 this
theorem long_iff {α : Type} {l : List α} (nd : l.Nodup) {a : α} (m : a ∈ l) : 1 < l.length ↔ ∃ b ∈ l, b ≠ a := by
  constructor
  · intro h
    match l, nd, m, h with
    | x :: y :: r, nd, m, _ =>
      by_cases e : x = a
      · refine ⟨y, by simp, fun z => ?_⟩
        rw [List.nodup_cons] at nd
        exact nd.1 (by rw [e, ← z]; simp)
      · exact ⟨x, by simp, e⟩
  · rintro ⟨b, hb, ne⟩
    match l, m, hb with
    | [x], m, hb => simp at m hb; exact absurd (hb.trans m.symm) ne
    | x :: y :: r, _, _ => simp
/-- the names that locked_switches tells -/
theorem locked_iff {ss : List Str} {rs : List Rule} (ok : InS ss rs) (nd : ss.Nodup) (hg : hasGood ss rs = true) {x : Str} (hx : x ∈ ss) : x ∈ lockNames ss rs ↔ Lock rs x := by
  have eg : ∀ y : Str, y ∈ ss → ∀ b : Lit, (b ∈ groupL ss rs ⟨y, true⟩ ↔ b.n ∈ ss ∧ Need rs ⟨y, true⟩ b ∧ Need rs b ⟨y, true⟩) := fun y hy b => by
    unfold groupL
    rw [List.mem_filter, mem_lits, Bool.and_eq_true, inW_iff ok (a := ⟨y, true⟩) hy]
    refine and_congr_right fun hb => ?_
    rw [inW_iff ok hb]
  have ef : ∀ a : Lit, a ∈ fixedL ss rs ↔ a.n ∈ ss ∧ Need rs a.op a := fun a => by
    unfold fixedL
    rw [List.mem_filter, mem_lits]
    refine and_congr_right fun ha => ?_
    rw [inW_iff ok (a := a.op) ha]
  unfold lockNames
  rw [List.map_append, List.mem_append]
  have et : (tiedL ss rs).flatten.map (·.n) = (tiedT ss rs ss).2 := (tied_seen ss).symm
  rw [et]
  constructor
  · rintro (h | h)
    · obtain ⟨a, ha, rfl⟩ := List.mem_map.mp h
      rw [ef] at ha
      obtain ⟨n, s⟩ := a
      cases s
      · exact .inl ha.2
      · exact .inr (.inl ha.2)
    · rcases tied_from ss _ x h with q | ⟨y, hy, h1, h2⟩
      · cases q
      · obtain ⟨b, hb, rfl⟩ := List.mem_map.mp h2
        have gb := (eg y hy b).mp hb
        have gnd : (groupL ss rs ⟨y, true⟩).Nodup := (lits_nodup nd).filter _
        obtain ⟨c, hc, ne⟩ := (long_iff gnd hb).mp h1
        have gc := (eg y hy c).mp hc
        have bc : Need rs b c := gb.2.2.trans gc.2.1
        have cb : Need rs c b := gc.2.2.trans gb.2.1
        obtain ⟨n, s⟩ := b
        cases s
        · exact .inr (.inr ⟨c.op, fun z => ne (op_inj (by rw [z]; rfl)), need_contra cb, need_contra bc⟩)
        · exact .inr (.inr ⟨c, ne, bc, cb⟩)
  · intro h
    by_cases hf : x ∈ (fixedL ss rs).map (·.n)
    · exact .inl hf
    · refine .inr (tied_mem ok ss _ x hx hx hf ?_)
      have nf : ∀ a : Lit, a.n = x → ¬ Need rs a.op a := fun a e n => hf (List.mem_map.mpr ⟨a, (ef a).mpr ⟨by rw [e]; exact hx, n⟩, e⟩)
      have gnd : (groupL ss rs ⟨x, true⟩).Nodup := (lits_nodup nd).filter _
      refine (long_iff gnd ((eg x hx ⟨x, true⟩).mpr ⟨hx, .refl _, .refl _⟩)).mpr ?_
      rcases h with h | h | ⟨b, ne, h1, h2⟩
      · exact absurd h (nf ⟨x, false⟩ rfl)
      · exact absurd h (nf ⟨x, true⟩ rfl)
      · exact ⟨b, (eg x hx b).mpr ⟨need_in ok h1 hx, h1, h2⟩, ne⟩
end FM

/-! panels and ways as trees; bags -/
namespace FM
open PySem PySem.Spec PyProof.Rows L2 FD
def stD (p : Nat × Lit) : D := .tup [.int (p.1 : Int), litD p.2]
def wayD (w : Way) : D := .tup (w.map stD)
def litK (a : Lit) : List Key := [.inr a.n, .inr (sg a.s)]
def knK (k : Kn) : List (List Key × D) := k.map fun p => (litK p.1, wayD p.2)
theorem keyT_lit {a : Lit} : keyT (litD a) = some (litK a) := rfl
theorem litK_inj {a b : Lit} : litK a = litK b ↔ a = b := by
  obtain ⟨n, s⟩ := a
  obtain ⟨m, t⟩ := b
  simp [litK, sg_inj]
theorem stD_inj {p q : Nat × Lit} : stD p = stD q ↔ p = q := by
  obtain ⟨n, s⟩ := p
  obtain ⟨m, t⟩ := q
  simp [stD, litD_inj]
  omega
theorem wayD_inj {p q : Way} : wayD p = wayD q ↔ p = q := by
  unfold wayD
  rw [D.tup.injEq]
  exact map_inj stD_inj
theorem val_kn {k : Kn} {b : Lit} : valD (knK k) (litK b) = (k.lookup b).map wayD := by
  induction k with
  | nil => rfl
  | cons p k ih =>
    obtain ⟨x, w⟩ := p
    show (if litK x = litK b then some (wayD w) else valD (knK k) (litK b)) = _
    rw [List.lookup_cons, ih]
    by_cases h : x = b
    · subst h; simp
    · have h2 : (b == x) = false := by rw [beq_eq_false_iff_ne]; exact fun z => h z.symm
      rw [if_neg (fun z => h (litK_inj.mp z)), h2]
theorem put_kn {k : Kn} {b : Lit} {w : Way} (h : (k.lookup b).isSome = false) : putD (knK k) (litK b) (wayD w) = knK (k ++ [(b, w)]) := by
  unfold putD
  rw [val_kn, Option.isSome_map, h]
  simp [knK]
/-! ### panels -/
def swOk (ss : List Str) : Prop := ss ≠ [] ∧ ss.length ≤ 10 ∧ ss.Nodup ∧ ∀ s ∈ ss, nameOk s = true
structure Pan where
  ss : List Str
  rs : List Rule
  sw : swOk ss
  ru : InS ss rs
  len : rs.length ≤ 240
def stepsKV (ss : List Str) (rs : List Rule) : List (List Key × D) := (lits ss).map fun a => (litK a, .lst ((stepsAt rs a).map stD))
def pfsF (fg : Bool) (p : Pan) : List (Str × D) := [("switches", strsF p.ss), ("rules", tp fg (p.rs.map ruleD)), ("steps", .dcT (stepsKV p.ss p.rs))]
abbrev pfs (p : Pan) : List (Str × D) := pfsF true p
def panF (K : PySem.W.Frag) (fg : Bool) (p : Pan) : D := .obj (He.ga K "Panel") (pfsF fg p)
abbrev panD (K : PySem.W.Frag) (p : Pan) : D := panF K true p
theorem Pan.ext' {p q : Pan} (h : p.ss = q.ss) (k : p.rs = q.rs) : p = q := by
  obtain ⟨a, b, _, _, _⟩ := p
  obtain ⟨c, d, _, _, _⟩ := q
  cases h; cases k; rfl
theorem panF_inj {K : PySem.W.Frag} {f g : Bool} {p q : Pan} : panF K f p = panF K g q ↔ f = g ∧ p = q := by
  refine ⟨fun h => ?_, fun h => by rw [h.1, h.2]⟩
  simp only [panF, pfsF, D.obj.injEq, List.cons.injEq, Prod.mk.injEq, D.ftp.injEq, true_and, strs_inj, tp_inj, rules_inj] at h
  exact ⟨h.2.1.1, Pan.ext' h.1 h.2.1.2⟩
theorem panD_inj {K : PySem.W.Frag} {p q : Pan} : panD K p = panD K q ↔ p = q := by rw [panF_inj]; simp
theorem ins_pan {K : PySem.W.Frag} {M : Mem} {fg : Bool} {p : Pan} {k : List (Str × D) → Prop} : insR M (He.ga K "Panel") (panF K fg p) k = k (pfsF fg p) := insR_obj
theorem lk_sw {fg : Bool} {p : Pan} : (pfsF fg p).lookup ("switches" : Str) = some (strsF p.ss) := rfl
theorem lk_ru {fg : Bool} {p : Pan} : (pfsF fg p).lookup ("rules" : Str) = some (tp fg (p.rs.map ruleD)) := rfl
theorem lk_st {fg : Bool} {p : Pan} : (pfsF fg p).lookup ("steps" : Str) = some (.dcT (stepsKV p.ss p.rs)) := rfl
theorem lk_place {fg : Bool} {p : Pan} : (pfsF fg p).lookup ("place" : Str) = none := rfl
theorem lk_has {fg : Bool} {p : Pan} : (pfsF fg p).lookup ("has" : Str) = none := rfl
theorem lk_keeps {fg : Bool} {p : Pan} : (pfsF fg p).lookup ("keeps" : Str) = none := rfl
theorem lk_wrongs {fg : Bool} {p : Pan} : (pfsF fg p).lookup ("wrongs" : Str) = none := rfl
theorem lk_goods {fg : Bool} {p : Pan} : (pfsF fg p).lookup ("goods" : Str) = none := rfl
theorem lk_ways_from {fg : Bool} {p : Pan} : (pfsF fg p).lookup ("ways_from" : Str) = none := rfl
theorem lk_text {fg : Bool} {p : Pan} : (pfsF fg p).lookup ("text" : Str) = none := rfl
theorem val_steps {rs : List Rule} {a : Lit} : ∀ {ls : List Lit}, a ∈ ls → valD (ls.map fun a => (litK a, D.lst ((stepsAt rs a).map stD))) (litK a) = some (.lst ((stepsAt rs a).map stD))
  | b :: ls, h => by
    show (if litK b = litK a then some (D.lst ((stepsAt rs b).map stD)) else valD (ls.map fun a => (litK a, D.lst ((stepsAt rs a).map stD))) (litK a)) = _
    by_cases e : b = a
    · subst e; rw [if_pos rfl]
    · rw [if_neg (fun z => e (litK_inj.mp z))]
      exact val_steps ((List.mem_cons.mp h).resolve_left (fun z => e z.symm))
theorem steps_at {M : Mem} {p : Pan} {a : Lit} {c : Option D → Prop} (h : a.n ∈ p.ss) : dAt M (.dcT (stepsKV p.ss p.rs)) (litD a) c = c (some (.lst ((stepsAt p.rs a).map stD))) := by
  rw [dAt_dcT, keyT_lit]
  show c (valD _ _) = _
  rw [stepsKV, val_steps (mem_lits.mpr h)]
def wfD (p : Pan) (a : Lit) : D := .dcT (knK (wf p.ss p.rs a))
theorem wf_at {M : Mem} {p : Pan} {a b : Lit} {c : Option D → Prop} : dAt M (wfD p a) (litD b) c = c (((wf p.ss p.rs a).lookup b).map wayD) := by
  unfold wfD
  rw [dAt_dcT, keyT_lit]
  show c (valD _ _) = _
  rw [val_kn]
theorem wf_some {p : Pan} {a b : Lit} : (((wf p.ss p.rs a).lookup b).map wayD).isSome = inW p.ss p.rs a b := by unfold inW; simp
/-! ### bags: three numbers -/
def jg (a b c : Int) : MO := .lst [.int a, .int b, .int c]
def Jg (M : Mem) (j : Addr) : Prop := ∃ a b c : Int, M j = some (jg a b c)
/-- M' is M, but for the bag -/
def Jm (j : Addr) (M M' : Mem) : Prop := ∃ a b c : Int, M' = M.upd j (jg a b c)
theorem Jm.trans {j : Addr} {M M1 M2 : Mem} (h : Jm j M M1) (k : Jm j M1 M2) : Jm j M M2 := by
  obtain ⟨a, b, c, rfl⟩ := h
  obtain ⟨a', b', c', rfl⟩ := k
  exact ⟨a', b', c', Mem.upd_upd⟩
theorem Jm.refl {j : Addr} {M : Mem} (h : Jg M j) : Jm j M M := by
  obtain ⟨a, b, c, e⟩ := h
  refine ⟨a, b, c, ?_⟩
  funext x
  unfold Mem.upd
  by_cases q : x = j
  · rw [if_pos q, q, e]
  · rw [if_neg q]
theorem Jm.jg {j : Addr} {M M' : Mem} (h : Jm j M M') : Jg M' j := by
  obtain ⟨a, b, c, rfl⟩ := h
  exact ⟨a, b, c, Mem.upd_same⟩
theorem Jm.other {j i : Addr} {M M' : Mem} (h : Jm j M M') (k : Jg M i) : Jg M' i := by
  obtain ⟨a, b, c, rfl⟩ := h
  obtain ⟨x, y, z, e⟩ := k
  by_cases q : i = j
  · rw [q]; exact ⟨a, b, c, Mem.upd_same⟩
  · exact ⟨x, y, z, by rw [Mem.upd_ne q]; exact e⟩
theorem Jm.upd {j : Addr} {M : Mem} {a b c : Int} : Jm j M (M.upd j (FM.jg a b c)) := ⟨a, b, c, rfl⟩
/-- all settings of so many switches, in their order -/
def every : Nat → List (List Bool)
  | 0 => [[]]
  | n + 1 => (every n).flatMap fun t => [t ++ [true], t ++ [false]]
theorem every_len : ∀ n, (every n).length = 2 ^ n
  | 0 => rfl
  | n + 1 => by
    have h : ∀ l : List (List Bool), (l.flatMap fun t => [t ++ [true], t ++ [false]]).length = 2 * l.length := fun l => by
      induction l with
      | nil => rfl
      | cons x l ih => rw [List.flatMap_cons, List.length_append, ih, List.length_cons]; simp; omega
    rw [every, h, every_len n]; omega
theorem mem_every : ∀ {n : Nat} {t : List Bool}, t ∈ every n ↔ t.length = n
  | 0, t => by simp [every]
  | n + 1, t => by
    rw [every, List.mem_flatMap]
    constructor
    · rintro ⟨u, hu, h⟩
      rw [mem_every] at hu
      simp only [List.mem_cons, List.not_mem_nil, or_false] at h
      rcases h with rfl | rfl <;> simp [hu]
    · intro h
      have ne : t ≠ [] := fun z => by rw [z] at h; cases h
      refine ⟨t.dropLast, mem_every.mpr (by rw [List.length_dropLast, h]; omega), ?_⟩
      have e := List.dropLast_concat_getLast ne
      cases q : t.getLast ne with
      | true => rw [q] at e; exact List.mem_cons.mpr (.inl e.symm)
      | false => rw [q] at e; exact List.mem_cons.mpr (.inr (List.mem_singleton.mpr e.symm))
/-- the rules that a setting breaks -/
def wrongIx (ss : List Str) (rs : List Rule) (t : List Bool) : List Nat := (rs.zipIdx.filter fun p => !keepsR ss t p.1).map (·.2)
theorem wrongIx_nil {ss : List Str} {rs : List Rule} {t : List Bool} : wrongIx ss rs t = [] ↔ good ss rs t = true := by
  unfold wrongIx good
  rw [List.map_eq_nil_iff, List.filter_eq_nil_iff, List.all_eq_true]
  constructor
  · intro h r hr
    obtain ⟨i, hi, rfl⟩ := List.mem_iff_getElem.mp hr
    have := h (rs[i], i) (by rw [List.mem_zipIdx_iff_getElem?]; simp [hi])
    simpa using this
  · intro h p hp
    have := (List.mem_zipIdx hp).2.2 ▸ List.getElem_mem (l := rs) _
    rw [h p.1 this]; simp
theorem wrongIx_emp {ss : List Str} {rs : List Rule} {t : List Bool} : ((wrongIx ss rs t).map fun (i : Nat) => D.int (i : Int)).isEmpty = good ss rs t := by
  have := wrongIx_nil (ss := ss) (rs := rs) (t := t)
  cases h : good ss rs t with
  | true => rw [this.mpr h]; rfl
  | false =>
    cases q : wrongIx ss rs t with
    | nil => rw [this.mp q] at h; cases h
    | cons a b => rfl
def wrongSw (ss : List Str) : Option Nat := (ss.zipIdx.find? fun p => decide (p.2 = 10) || !nameOk p.1 || decide (p.1 ∈ ss.take p.2)).map (·.2)
def wrongRu (ss : List Str) (rs : List Rule) : Option Nat := (rs.zipIdx.find? fun p => decide (p.2 = 240) || !ruleOk ss p.1).map (·.2)
theorem wrongSw_none {ss : List Str} (h : swOk ss) : wrongSw ss = none := by
  unfold wrongSw
  rw [Option.map_eq_none_iff, List.find?_eq_none]
  intro p hp
  obtain ⟨h1, h2, h3⟩ := List.mem_zipIdx hp
  obtain ⟨_, hl, nd, ok⟩ := h
  have e : ss[p.2]'(by omega) = p.1 := by rw [h3]; simp
  have hp1 : p.1 ∈ ss := by rw [← e]; exact List.getElem_mem _
  have n10 : p.2 ≠ 10 := by omega
  have nt : p.1 ∉ ss.take p.2 := by
    intro m
    obtain ⟨i, hi, e2⟩ := List.mem_iff_getElem.mp m
    rw [List.length_take] at hi
    rw [List.getElem_take] at e2
    have := (List.getElem_inj (h₀ := by omega) (h₁ := by omega) nd).mp (e2.trans e.symm)
    omega
  simp [n10, ok _ hp1, nt]
theorem wrongRu_none {ss : List Str} {rs : List Rule} (h : InS ss rs) (hl : rs.length ≤ 240) : wrongRu ss rs = none := by
  unfold wrongRu
  rw [Option.map_eq_none_iff, List.find?_eq_none]
  intro p hp
  obtain ⟨h1, h2, h3⟩ := List.mem_zipIdx hp
  have : p.1 ∈ rs := by rw [h3]; exact List.getElem_mem _
  have n : p.2 ≠ 240 := by omega
  simp [n, h _ this]
end FM

/-! more small words for the walk -/
namespace FM
open PySem PySem.Spec PyProof.Rows L2 FD
theorem cx_K {CX P w K mg base N q sc f cdv A outer s H E} : (cxOf CX P w K mg base N q sc f cdv A outer s H E).K = K := rfl
theorem nox_K {X : Cx} : X.nox.K = X.K := rfl
theorem blk_K {X : Cx} {s H scope env fp} : (X.blk s H scope env fp).K = X.K := rfl
theorem bx_K {P w K mg base N q sc f cdv A outer s H} : (bx P w K mg base N q sc f cdv A outer s H).K = K := rfl
theorem c1 : ((0 + 1 : Nat) : Int) = 1 := rfl
theorem c2 : ((0 + 1 + 1 : Nat) : Int) = 2 := rfl
theorem c3 : ((0 + 1 + 1 + 1 : Nat) : Int) = 3 := rfl
theorem c4 : ((0 + 1 + 1 + 1 + 1 : Nat) : Int) = 4 := rfl
theorem inL_cons {d x : D} {l : List D} : inL (d :: l) x = (eqd d x || inL l x) := by simp [inL]
theorem inL_nil {x : D} : inL [] x = false := rfl
theorem all_bools {α : Type} {M : Mem} {l : List α} {g : α → Bool} {post : WK} : gAll M [.lst (l.map fun x => D.bl (g x))] post = post (.bl (l.all g)) M := by rw [all_lst, bools_mapf, got_so, all_map]
theorem any_bools {α : Type} {M : Mem} {l : List α} {g : α → Bool} {post : WK} : gAny M [.lst (l.map fun x => D.bl (g x))] post = post (.bl (l.any g)) M := by rw [any_lst, bools_mapf, got_so, any_map]
theorem in_tp {M : Mem} {x : D} {f : Bool} {l : List D} {post : WK} : gIn M x (tp f l) post = (flatD x = true ∧ l.all flatD = true ∧ post (.bl (inL l x)) M) := by cases f <;> rfl
theorem nin_tp {M : Mem} {x : D} {f : Bool} {l : List D} {post : WK} : gNin M x (tp f l) post = (flatD x = true ∧ l.all flatD = true ∧ post (.bl (!inL l x)) M) := by cases f <;> rfl
theorem cutL_take {α : Type} {l : List α} {k : Nat} : cutL l none (some (k : Int)) = l.take k := by
  unfold cutL
  rw [HT.sIx_nat, HT.sIx_none, List.drop_zero, Nat.sub_zero]
  by_cases h : k ≤ l.length
  · rw [Nat.min_eq_left h]
  · rw [Nat.min_eq_right (by omega), List.take_length, List.take_of_length_le (by omega)]
theorem cutL_drop {α : Type} {l : List α} {k : Nat} : cutL l (some (k : Int)) none = l.drop k := by
  unfold cutL
  rw [HT.sIx_nat, HT.sIx_none]
  by_cases h : k ≤ l.length
  · rw [Nat.min_eq_left h, List.take_of_length_le (by simp)]
  · rw [Nat.min_eq_right (by omega), List.drop_of_length_le (Nat.le_refl _), List.drop_of_length_le (by omega)]
    simp
theorem whole_eq {α : Type} {l : List α} {lo hi : Option Int} (h : wholeB l lo hi = true) : cutL l lo hi = l := by
  obtain ⟨h1, h2⟩ := of_decide_eq_true h
  unfold cutL
  rw [h1, h2, List.drop_zero, Nat.sub_zero, List.take_length]
theorem sl_ftp {M : Mem} {l : List D} {lo hi : Option Int} {post : WK} : gSlice M (.ftp l) lo hi post = post (tp (wholeB l lo hi) (cutL l lo hi)) M := by
  show post (if wholeB l lo hi = true then .ftp l else .tup (cutL l lo hi)) M = _
  cases h : wholeB l lo hi with
  | true => rw [if_pos rfl, whole_eq h]; rfl
  | false => rfl
theorem sl_tup {M : Mem} {l : List D} {lo hi : Option Int} {post : WK} : gSlice M (.tup l) lo hi post = post (.tup (cutL l lo hi)) M := by
  show post (if wholeB l lo hi = true then .tup l else .tup (cutL l lo hi)) M = _
  cases h : wholeB l lo hi with
  | true => rw [if_pos rfl, whole_eq h]
  | false => rfl
theorem sl_lst {M : Mem} {l : List D} {lo hi : Option Int} {post : WK} : gSlice M (.lst l) lo hi post = post (.lst (cutL l lo hi)) M := rfl
theorem sl_scr {M : Mem} {l : List D} {lo hi : Option Int} {post : WK} : gSlice M (.scr l) lo hi post = post (.lst (cutL l lo hi)) M := rfl
theorem cutL_map {α β : Type} {f : α → β} {l : List α} {lo hi : Option Int} : cutL (l.map f) lo hi = (cutL l lo hi).map f := by
  unfold cutL; rw [List.length_map, ← List.map_drop, ← List.map_take]
theorem index_eq {ss : List Str} {k : List Str → Prop} : got (txs (ss.map D.str)) k = k ss := by rw [txs_map]; rfl
theorem find_eq {ss : List Str} {x : Str} {k : Nat → Prop} (h : x ∈ ss) : got (ss.findIdx? (· == x)) k = k (ss.idxOf x) := by rw [find_idx h]; rfl
theorem ex_ftp {l : List D} : (∃ l', D.ftp l = .ftp l') = True := eq_true ⟨l, rfl⟩
theorem natCast_succ' (k : Nat) : (k : Int) + 1 = ((k + 1 : Nat) : Int) := rfl
theorem isT_cl {c : Lit × Lit} {k : List D → Prop} : isT (clD c) k = k [litD c.1, litD c.2] := rfl
theorem isT_st {c : Nat × Lit} {k : List D → Prop} : isT (stD c) k = k [.int (c.1 : Int), litD c.2] := rfl
theorem isT_lit {a : Lit} {k : List D → Prop} : isT (litD a) k = k [.str a.n, .str (sg a.s)] := rfl
theorem ix_lit0 {M : Mem} {a : Lit} {post : WK} : gIx M (litD a) (.int 0) post = post (.str a.n) M := rfl
theorem ix_lit1 {M : Mem} {a : Lit} {post : WK} : gIx M (litD a) (.int 1) post = post (.str (sg a.s)) M := rfl
theorem len_lit {M : Mem} {a : Lit} : lenD M (litD a) = some 2 := rfl
theorem ty_lit {M : Mem} {a : Lit} : tyN M (litD a) = some "tuple" := rfl
theorem dp_lit {a : Lit} : (litD a).dp = 1 := by simp [litD, D.dp, dpAll]
theorem eq_of_dp {M : Mem} {d e : D} {post : WK} (h : rsv M d = d) (k : rsv M e = e) (hd : d.dp ≤ 64) (he : e.dp ≤ 64) : gEq M d e post = post (.bl (eqd d e)) M := by
  unfold gEq; rw [h, k]; exact propext ⟨fun q => q.2.2, fun q => ⟨hd, he, q⟩⟩
theorem ne_of_dp {M : Mem} {d e : D} {post : WK} (h : rsv M d = d) (k : rsv M e = e) (hd : d.dp ≤ 64) (he : e.dp ≤ 64) : gNe M d e post = post (.bl (!eqd d e)) M := by
  unfold gNe; rw [h, k]; exact propext ⟨fun q => q.2.2, fun q => ⟨hd, he, q⟩⟩
theorem eq_lit {M : Mem} {a b : Lit} {post : WK} : gEq M (litD a) (litD b) post = post (.bl (decide (a = b))) M := by
  rw [eq_of_dp rfl rfl (by rw [dp_lit]; omega) (by rw [dp_lit]; omega), eqd_lit]
theorem ne_lit {M : Mem} {a b : Lit} {post : WK} : gNe M (litD a) (litD b) post = post (.bl (!decide (a = b))) M := by
  rw [ne_of_dp rfl rfl (by rw [dp_lit]; omega) (by rw [dp_lit]; omega), eqd_lit]
theorem eq_set {M : Mem} {a b : List Bool} {post : WK} : gEq M (setD a) (setD b) post = post (.bl (decide (a = b))) M := by
  show gEq M (.str (setS a)) (.str (setS b)) post = _
  rw [FD.eq_str]
  simp only [setS_inj]
theorem ne_set {M : Mem} {a b : List Bool} {post : WK} : gNe M (setD a) (setD b) post = post (.bl (!decide (a = b))) M := by
  show gNe M (.str (setS a)) (.str (setS b)) post = _
  rw [FD.ne_str]
  simp only [setS_inj]
theorem sg_iff {a b : Bool} : (sg a = sg b) = (a = b) := propext sg_inj
theorem len_set {M : Mem} {t : List Bool} : lenD M (setD t) = some (t.length : Int) := by
  show some ((setS t).length : Int) = _
  rw [setS_len]
theorem ty_set {M : Mem} {t : List Bool} : tyN M (setD t) = some "str" := rfl
theorem isS_set {t : List Bool} {k : Str → Prop} : isS (setD t) k = k (setS t) := rfl
theorem isC_sg {b : Bool} {k : Nat → Prop} : isC (.str (sg b)) k = k (sgc b) := by rw [sg_eq]; rfl
theorem sg_in_pm {b : Bool} : (sgc b ∈ (Str.ofString "+-").cps.toList) = True := by
  rw [pm_cps]; cases b <;> simp [sgc]
theorem sNever_e : sNever = (fun _ _ _ => False : WS) := rfl
theorem isNon_opt {o : Option Nat} : FD.isNon (optD o) = o.isNone := by cases o <;> rfl
theorem isEmpty_map {α β : Type} {f : α → β} {l : List α} : (l.map f).isEmpty = l.isEmpty := by cases l <;> rfl
theorem ty_pan {K : PySem.W.Frag} {M : Mem} {fg : Bool} {p : Pan} : tyN M (panF K fg p) = none := rfl
end FM

/-! how a panel is made: the dict of lists of steps -/
namespace FM
open PySem PySem.Spec PyProof.Rows L2 FD
theorem fzAll_map {M M' : Mem} {α : Type} {f g : α → D} : ∀ {l : List α}, (∀ b ∈ l, Fz M M' (f b) (g b)) → FzAll M M' (l.map f) (l.map g)
  | [], _ => .nil
  | a :: l, h => .cons (h a (List.mem_cons_self ..)) (fzAll_map fun b hb => h b (List.mem_cons_of_mem _ hb))
theorem fzAll_same {M M' : Mem} : ∀ {l : List D}, FzAll M M' l l
  | [] => .nil
  | a :: l => .cons (.same a) fzAll_same
structure DictI (B : Mem) (a C : Addr) (fs : List (Str × D)) (d : Addr) (q : Lit → Addr) (ls : List Lit) (s : Lit → Way) (M : Mem) : Prop where
  inst : M a = some (.ins C fs)
  dict : M d = some (.dT (ls.map fun b => (litK b, D.ptr (q b))))
  da : d ≠ a
  ba : B a = none
  bd : B d = none
  cells : ∀ b ∈ ls, M (q b) = some (.lst ((s b).map stD)) ∧ B (q b) = none ∧ q b ≠ d ∧ q b ≠ a
  inj : ∀ b ∈ ls, ∀ c ∈ ls, q b = q c → b = c
  frame : ∀ x o, B x = some o → M x = some o
theorem val_map {q : Lit → Addr} {b : Lit} : ∀ {ls : List Lit}, (b ∈ ls → valD (ls.map fun b => (litK b, D.ptr (q b))) (litK b) = some (.ptr (q b))) ∧ (b ∉ ls → valD (ls.map fun b => (litK b, D.ptr (q b))) (litK b) = none)
  | [] => ⟨fun h => (by cases h), fun _ => rfl⟩
  | c :: ls => by
    have ih := val_map (q := q) (b := b) (ls := ls)
    have e : valD ((c :: ls).map fun b => (litK b, D.ptr (q b))) (litK b) = if litK c = litK b then some (D.ptr (q c)) else valD (ls.map fun b => (litK b, D.ptr (q b))) (litK b) := rfl
    rw [e]
    by_cases h : c = b
    · subst h; rw [if_pos rfl]; exact ⟨fun _ => rfl, fun n => absurd (List.mem_cons_self ..) n⟩
    · rw [if_neg (fun z => h (litK_inj.mp z))]
      exact ⟨fun m => ih.1 ((List.mem_cons.mp m).resolve_left (fun z => h z.symm)), fun n => ih.2 fun m => n (List.mem_cons_of_mem _ m)⟩
/-- a new list for a new literal -/
theorem DictI.new {B : Mem} {a C : Addr} {fs : List (Str × D)} {d : Addr} {q : Lit → Addr} {ls : List Lit} {M : Mem} (h : DictI B a C fs d q ls (fun _ => []) M) {b : Lit} (nb : b ∉ ls) {r : Addr} (hr : M r = none) :
    (M.upd r (.lst [])) d = some (.dT (ls.map fun b => (litK b, D.ptr (q b)))) ∧ ∃ q', DictI B a C fs d q' (ls ++ [b]) (fun _ => []) ((M.upd r (.lst [])).upd d (.dT (putD (ls.map fun b => (litK b, D.ptr (q b))) (litK b) (.ptr r)))) := by
  have rd : r ≠ d := fun e => by rw [e, h.dict] at hr; cases hr
  have ra : r ≠ a := fun e => by rw [e, h.inst] at hr; cases hr
  have rB : B r = none := by
    cases e : B r with
    | none => rfl
    | some o => rw [h.frame r o e] at hr; cases hr
  have hd : (M.upd r (.lst [])) d = some (.dT (ls.map fun b => (litK b, D.ptr (q b)))) := by rw [Mem.upd_ne (Ne.symm rd)]; exact h.dict
  refine ⟨hd, fun c => if c = b then r else q c, ?_, ?_, h.da, h.ba, h.bd, ?_, ?_, ?_⟩
  · rw [Mem.upd_ne (Ne.symm h.da), Mem.upd_ne (Ne.symm ra)]; exact h.inst
  · rw [Mem.upd_same]
    have ev := (val_map (q := q) (b := b) (ls := ls)).2 nb
    unfold putD
    rw [ev]
    simp only [Option.isSome_none, Bool.false_eq_true, if_false, List.map_append, List.map_cons, List.map_nil, if_true]
    congr 3
    refine List.map_congr_left fun c hc => ?_
    have : c ≠ b := fun e => nb (e ▸ hc)
    rw [if_neg this]
  · intro c hc
    by_cases e : c = b
    · simp only [e, if_true]
      exact ⟨by rw [Mem.upd_ne rd, Mem.upd_same]; rfl, rB, rd, ra⟩
    · simp only [e, if_false]
      have hc : c ∈ ls := by
        rcases List.mem_append.mp hc with m | m
        · exact m
        · exact absurd (List.mem_singleton.mp m) e
      obtain ⟨h1, h2, h3, h4⟩ := h.cells c hc
      have qr : q c ≠ r := fun z => by rw [z, hr] at h1; cases h1
      exact ⟨by rw [Mem.upd_ne h3, Mem.upd_ne qr]; exact h1, h2, h3, h4⟩
  · have qr : ∀ c ∈ ls, q c ≠ r := fun c hc z => by
      have := (h.cells c hc).1
      rw [z, hr] at this; cases this
    have un : ∀ c, c ∈ ls ++ [b] → c ≠ b → c ∈ ls := fun c hc e => by
      rcases List.mem_append.mp hc with m | m
      · exact m
      · exact absurd (List.mem_singleton.mp m) e
    intro c hc c' hc' e
    by_cases e1 : c = b <;> by_cases e2 : c' = b
    · rw [e1, e2]
    · simp only [e1, e2, if_true, if_false] at e
      exact absurd e.symm (qr c' (un c' hc' e2))
    · simp only [e1, e2, if_true, if_false] at e
      exact absurd e (qr c (un c hc e1))
    · simp only [e1, e2, if_false] at e
      exact h.inj c (un c hc e1) c' (un c' hc' e2) e
  · intro x o e
    have xd : x ≠ d := fun z => by rw [z, h.bd] at e; cases e
    have xr : x ≠ r := fun z => by rw [z, rB] at e; cases e
    rw [Mem.upd_ne xd, Mem.upd_ne xr]
    exact h.frame x o e
/-- a step more for a literal -/
theorem DictI.app {B : Mem} {a C : Addr} {fs : List (Str × D)} {d : Addr} {q : Lit → Addr} {ls : List Lit} {s : Lit → Way} {M : Mem} (h : DictI B a C fs d q ls s M) {b : Lit} (hb : b ∈ ls) (x : Nat × Lit) :
    DictI B a C fs d q ls (fun c => if c = b then s b ++ [x] else s c) (M.upd (q b) (.lst ((s b).map stD ++ [stD x]))) := by
  obtain ⟨h1, h2, h3, h4⟩ := h.cells b hb
  refine ⟨?_, ?_, h.da, h.ba, h.bd, ?_, h.inj, ?_⟩
  · rw [Mem.upd_ne (Ne.symm h4)]; exact h.inst
  · rw [Mem.upd_ne (Ne.symm h3)]; exact h.dict
  · intro c hc
    obtain ⟨k1, k2, k3, k4⟩ := h.cells c hc
    by_cases e : c = b
    · subst e
      simp only [if_true]
      exact ⟨by rw [Mem.upd_same, List.map_append]; rfl, k2, k3, k4⟩
    · simp only [e, if_false]
      have : q c ≠ q b := fun z => e (h.inj c hc b hb z)
      exact ⟨by rw [Mem.upd_ne this]; exact k1, k2, k3, k4⟩
  · intro y o e
    have : y ≠ q b := fun z => by rw [z, h2] at e; cases e
    rw [Mem.upd_ne this]
    exact h.frame y o e
theorem DictI.congr {B : Mem} {a C : Addr} {fs : List (Str × D)} {d : Addr} {q : Lit → Addr} {ls : List Lit} {s s' : Lit → Way} {M : Mem} (h : DictI B a C fs d q ls s M) (e : ∀ b ∈ ls, s b = s' b) : DictI B a C fs d q ls s' M :=
  ⟨h.inst, h.dict, h.da, h.ba, h.bd, fun b hb => by rw [← e b hb]; exact h.cells b hb, h.inj, h.frame⟩
theorem DictI.setf {B : Mem} {a C : Addr} {fs : List (Str × D)} {d : Addr} {q : Lit → Addr} {ls : List Lit} {s : Lit → Way} {M : Mem} (h : DictI B a C fs d q ls s M) (fs' : List (Str × D)) : DictI B a C fs' d q ls s (M.upd a (.ins C fs')) := by
  refine ⟨Mem.upd_same, by rw [Mem.upd_ne h.da]; exact h.dict, h.da, h.ba, h.bd, fun b hb => ?_, h.inj, fun x o e => ?_⟩
  · obtain ⟨h1, h2, h3, h4⟩ := h.cells b hb
    exact ⟨by rw [Mem.upd_ne h4]; exact h1, h2, h3, h4⟩
  · have : x ≠ a := fun z => by rw [z, h.ba] at e; cases e
    rw [Mem.upd_ne this]; exact h.frame x o e
def stP (l : List (Rule × Nat)) (a : Lit) : Way := l.flatMap fun p => ((steps p.1).filter fun q => decide (q.1 = a)).map fun q => (p.2, q.2)
theorem stP_eq {rs : List Rule} {a : Lit} : stP rs.zipIdx a = stepsAt rs a := rfl
theorem steps_len (r : Rule) : (steps r).length ≤ 4 := by
  have h : ∀ c : Lit × Lit, (steps1 c).length ≤ 2 := fun c => by unfold steps1; split <;> simp
  cases r <;> simp only [steps, clauses, List.flatMap_cons, List.flatMap_nil, List.length_append, List.length_nil]
  case same f x y => have := h (⟨x, false⟩, ⟨y, true⟩); have := h (⟨x, true⟩, ⟨y, false⟩); omega
  case unlike f x y => have := h (⟨x, true⟩, ⟨y, true⟩); have := h (⟨x, false⟩, ⟨y, false⟩); omega
  case be a => have := h (a, a); omega
  case either a b => have := h (a, b); omega
  case needs a b => have := h (a.op, b); omega
  case bars a b => have := h (a.op, b.op); omega
theorem stP_len (a : Lit) : ∀ l : List (Rule × Nat), (stP l a).length ≤ 4 * l.length
  | [] => by simp [stP]
  | p :: l => by
    have ih := stP_len a l
    have h1 := steps_len p.1
    have h2 : ((steps p.1).filter fun q => decide (q.1 = a)).length ≤ (steps p.1).length := List.length_filter_le ..
    unfold stP at ih ⊢
    rw [List.flatMap_cons, List.length_append, List.length_map, List.length_cons]
    omega
/-- the panel is there -/
theorem DictI.fz {K : PySem.W.Frag} {B : Mem} {a d : Addr} {fg : Bool} {p : Pan} {q : Lit → Addr} {M : Mem} (h : DictI B a (He.ga K "Panel") [("switches", strsF p.ss), ("rules", tp fg (p.rs.map ruleD)), ("steps", .ptr d)] d q (lits p.ss) (stepsAt p.rs) M) : Fz M B (.ptr a) (panF K fg p) := by
  refine .obj h.inst h.ba rfl (.cons (.same _) (.cons (.same _) (.cons (.dT h.dict h.bd ?_ ?_) .nil)))
  · rw [stepsKV, List.map_map, List.map_map]; rfl
  · rw [stepsKV, List.map_map, List.map_map]
    refine fzAll_map fun b hb => ?_
    obtain ⟨h1, h2, h3, h4⟩ := h.cells b hb
    exact .lst h1 h2 fzAll_same
theorem pf2 {x y : D} : putFD "rules" y [("switches", x)] = ([("switches", x), ("rules", y)] : List (Str × D)) := by
  unfold putFD; rw [if_neg (by decide +kernel)]; rfl
theorem pf3 {x y z : D} : putFD "steps" z [("switches", x), ("rules", y)] = ([("switches", x), ("rules", y), ("steps", z)] : List (Str × D)) := by
  unfold putFD; rw [if_neg (by decide +kernel)]
  unfold putFD; rw [if_neg (by decide +kernel)]; rfl
theorem wrongIx_em {ss : List Str} {rs : List Rule} {t : List Bool} : (wrongIx ss rs t).isEmpty = good ss rs t := by
  rw [← wrongIx_emp, isEmpty_map]
theorem add_way {w : Way} {x : Nat × Lit} {k : D → Prop} : got (addD (wayD w) (.tup [stD x])) k = (w.length + 1 ≤ 16777216 ∧ k (wayD (w ++ [x]))) := by
  unfold wayD
  rw [FD.add_tup, List.length_map, List.map_append]
  rfl
theorem ne_lst_nil {M : Mem} {l : List D} {post : WK} : gNe M (.lst l) (.lst []) post = (dpAll l + 1 ≤ 64 ∧ post (.bl (!l.isEmpty)) M) := by
  unfold gNe rsv
  have e : eqd (.lst l) (.lst []) = l.isEmpty := by cases l <;> simp [eqd, D.py, pyAll, PyData.eqv, PyData.eqvAll]
  simp only [e]
  have z : (D.lst []).dp ≤ 64 := by simp [D.dp, dpAll]
  have z2 : (D.lst l).dp = dpAll l + 1 := by simp [D.dp]
  rw [z2]
  exact propext ⟨fun q => ⟨q.1, q.2.2⟩, fun q => ⟨q.1, z, q.2⟩⟩
theorem eq_lst_nil {M : Mem} {l : List D} {post : WK} : gEq M (.lst l) (.lst []) post = (dpAll l + 1 ≤ 64 ∧ post (.bl l.isEmpty) M) := by
  unfold gEq rsv
  have e : eqd (.lst l) (.lst []) = l.isEmpty := by cases l <;> simp [eqd, D.py, pyAll, PyData.eqv, PyData.eqvAll]
  simp only [e]
  have z : (D.lst []).dp ≤ 64 := by simp [D.dp, dpAll]
  have z2 : (D.lst l).dp = dpAll l + 1 := by simp [D.dp]
  rw [z2]
  exact propext ⟨fun q => ⟨q.1, q.2.2⟩, fun q => ⟨q.1, z, q.2⟩⟩
theorem dpAll_lits : ∀ l : List Lit, dpAll (l.map litD) ≤ 1
  | [] => by simp [dpAll]
  | s :: ss => by rw [List.map_cons, dpAll, dp_lit]; have := dpAll_lits ss; omega
theorem upd_comm {M : Mem} {a b : Addr} {x y : MO} (h : a ≠ b) : (M.upd a x).upd b y = (M.upd b y).upd a x := by
  funext c
  unfold Mem.upd
  by_cases e1 : c = a <;> by_cases e2 : c = b
  · exact absurd (e1.symm.trans e2) h
  · rw [if_neg e2, if_pos e1, if_pos e1]
  · rw [if_pos e2, if_neg e1, if_pos e2]
  · rw [if_neg e2, if_neg e1, if_neg e1, if_neg e2]
/-! ### dicts of names -/
section
variable {κ : Type} [DecidableEq κ]
theorem valD_rep {k k' : κ} {v : D} : ∀ {l : List (κ × D)}, valD (repD k v l) k' = if k = k' then (if (valD l k).isSome = true then some v else none) else valD l k'
  | [] => by simp [repD, valD]
  | (x, d) :: l => by
    have ih := valD_rep (k := k) (k' := k') (v := v) (l := l)
    unfold repD
    by_cases e : x = k
    · subst e
      rw [if_pos rfl]
      unfold valD
      by_cases e2 : x = k'
      · subst e2; simp
      · rw [if_neg e2, if_neg e2, ih, if_neg e2, if_neg e2]
    · rw [if_neg e]
      unfold valD
      by_cases e2 : x = k'
      · subst e2
        have : ¬ k = x := fun z => e z.symm
        rw [if_pos rfl, if_neg this, if_pos rfl]
      · rw [if_neg e2, if_neg e, if_neg e2, ih]
theorem valD_app {k' : κ} {m : List (κ × D)} : ∀ {l : List (κ × D)}, valD (l ++ m) k' = if (valD l k').isSome = true then valD l k' else valD m k'
  | [] => by simp [valD]
  | (x, d) :: l => by
    have ih := valD_app (k' := k') (m := m) (l := l)
    show (if x = k' then some d else valD (l ++ m) k') = if ((if x = k' then some d else valD l k')).isSome = true then (if x = k' then some d else valD l k') else valD m k'
    by_cases e2 : x = k'
    · simp [e2]
    · simp only [e2, if_false]; exact ih
theorem valD_put {l : List (κ × D)} {k k' : κ} {v : D} : valD (putD l k v) k' = if k = k' then some v else valD l k' := by
  unfold putD
  by_cases h : (valD l k).isSome = true
  · rw [if_pos h, valD_rep, if_pos h]
  · rw [if_neg h, valD_app]
    by_cases e : k = k'
    · subst e; rw [if_neg h, if_pos rfl]; simp [valD]
    · rw [if_neg e]
      by_cases q : (valD l k').isSome = true
      · rw [if_pos q]
      · rw [if_neg q]
        simp only [Bool.not_eq_true, Option.isSome_eq_false_iff, Option.isNone_iff_eq_none] at q
        rw [q]; simp [valD, e]
theorem repD_len {k : κ} {v : D} : ∀ {l : List (κ × D)}, (repD k v l).length = l.length
  | [] => rfl
  | _ :: l => by unfold repD; rw [List.length_cons, List.length_cons, repD_len]
theorem putD_len {l : List (κ × D)} {k : κ} {v : D} : (putD l k v).length ≤ l.length + 1 := by
  unfold putD
  split
  · rw [repD_len]; omega
  · simp
end
theorem join_some {k : Key} : ∀ {m l : List (Key × D)}, (valD (joinD l m) k).isSome = ((valD l k).isSome || (valD m k).isSome)
  | [], l => by simp [joinD, valD]
  | (x, d) :: m, l => by
    have ih := join_some (k := k) (m := m) (l := putD l x d)
    unfold joinD at ih ⊢
    rw [List.foldl_cons, ih, valD_put]
    show _ = ((valD l k).isSome || (if x = k then some d else valD m k).isSome)
    by_cases e : x = k
    · simp [e]
    · simp [e]
theorem join_len : ∀ {m l : List (Key × D)}, (joinD l m).length ≤ l.length + m.length
  | [], l => by simp [joinD]
  | (x, d) :: m, l => by
    have ih := join_len (m := m) (l := putD l x d)
    have := putD_len (l := l) (k := x) (v := d)
    unfold joinD at ih ⊢
    rw [List.foldl_cons, List.length_cons]
    show (m.foldl (fun acc kv => putD acc kv.1 kv.2) (putD l x d)).length ≤ _
    omega
/-- {name: v for name in ..} -/
def nmK (v : D) (l : List Str) : List (Key × D) := l.foldl (fun acc n => putD acc (.inr n) v) []
theorem nmK_take {v : D} {l : List Str} {i : Nat} {x : Str} (h : l[i]? = some x) : nmK v (l.take (i + 1)) = putD (nmK v (l.take i)) (.inr x) v := by
  unfold nmK; rw [List.take_succ, h]; simp
theorem nmK_some {v : D} {y : Str} (l : List Str) : (valD (nmK v l) (.inr y)).isSome = decide (y ∈ l) := by
  have key : ∀ (l : List Str) (acc : List (Key × D)), (valD (l.foldl (fun acc n => putD acc (.inr n) v) acc) (.inr y)).isSome = ((valD acc (.inr y)).isSome || decide (y ∈ l)) := by
    intro l
    induction l with
    | nil => simp
    | cons n l ih =>
      intro acc
      rw [List.foldl_cons, ih, valD_put]
      by_cases e : n = y
      · subst e; simp
      · have e2 : ¬ (Sum.inr n : Key) = .inr y := fun z => e (by cases z; rfl)
        have e3 : ¬ y = n := fun z => e z.symm
        simp [e2, e3]
  have := key l []
  unfold nmK
  simpa [valD] using this
theorem nmK_len {v : D} (l : List Str) : (nmK v l).length ≤ l.length := by
  have key : ∀ (l : List Str) (acc : List (Key × D)), (l.foldl (fun acc n => putD acc (.inr n) v) acc).length ≤ acc.length + l.length := by
    intro l
    induction l with
    | nil => simp
    | cons n l ih =>
      intro acc
      have h1 := ih (putD acc (.inr n) v)
      have h2 := putD_len (l := acc) (k := (.inr n : Key)) (v := v)
      rw [List.foldl_cons, List.length_cons]; omega
  have := key l []
  unfold nmK
  simpa using this
def grpD (g : List Lit) : D := .ftp (g.map litD)
theorem isT_grp {g : List Lit} {k : List D → Prop} : isT (grpD g) k = k (g.map litD) := rfl
def lockS (p : Pan) : List Str := if hasGood p.ss p.rs = true then lockedL p.ss p.rs else []
def lockD (p : Pan) : D := tp (hasGood p.ss p.rs) ((lockS p).map D.str)
theorem update_eq {M : Mem} {a b : Addr} {l m : List (Key × D)} {post : WK} (h : M a = some (.dK l)) (k : M b = some (.dK m)) : gUpdate M (.ptr a) [.ptr b] post = (a ≠ b ∧ l.length + m.length ≤ 16777216 ∧ post .non (M.upd a (.dK (joinD l m)))) := by
  unfold gUpdate; rw [one_one]; unfold dkOf; simp only [h, k]
theorem group_len {ss : List Str} {rs : List Rule} {a : Lit} : (groupL ss rs a).length ≤ 2 * ss.length := by
  have : (groupL ss rs a).length ≤ (lits ss).length := List.length_filter_le ..
  rw [lits_len] at this; exact this
theorem tied_len {ss : List Str} {rs : List Rule} : ∀ (l : List Str) (st : TS), (l.foldl (tied1 ss rs) st).2.length ≤ st.2.length + l.length * (2 * ss.length) ∧ (l.foldl (tied1 ss rs) st).1.length ≤ st.1.length + l.length
  | [], st => by simp
  | x :: l, st => by
    obtain ⟨h1, h2⟩ := tied_len (ss := ss) (rs := rs) l (tied1 ss rs st x)
    have h3 : (tied1 ss rs st x).2.length ≤ st.2.length + 2 * ss.length ∧ (tied1 ss rs st x).1.length ≤ st.1.length + 1 := by
      unfold tied1
      split
      · have := group_len (ss := ss) (rs := rs) (a := ⟨x, true⟩)
        simp; omega
      · omega
    rw [List.foldl_cons, List.length_cons, Nat.add_mul]
    omega
theorem tiedL_len {ss : List Str} {rs : List Rule} : (tiedL ss rs).flatten.length ≤ ss.length * (2 * ss.length) := by
  have h := (tied_len (ss := ss) (rs := rs) ss ([], [])).1
  have e : (tiedT ss rs ss).2 = _ := tied_seen ss
  unfold tiedT at e
  rw [e, List.length_map] at h
  simpa [tiedL, tiedT] using h
theorem fold_lit {x : Str} {b : Bool} : D.tup [.str x, .str (sg b)] = litD ⟨x, b⟩ := rfl
theorem fold_litp {x : Str} : D.tup [.str x, .str (Str.ofString "+")] = litD ⟨x, true⟩ := rfl
theorem fold_litm {x : Str} : D.tup [.str x, .str (Str.ofString "-")] = litD ⟨x, false⟩ := rfl
theorem len_grp {M : Mem} {g : List Lit} : lenD M (grpD g) = some (g.length : Int) := by
  show some (((g.map litD).length : Nat) : Int) = _
  rw [List.length_map]
/-- two loops, the second one over what the first one hands -/
theorem lc2_flat {gd : GD} {wj : WI} {ge : GD} {te : WE} {Γ : FD.Env} {M : Mem} {post : WK} {G : Mem → Prop} {α : Type} (xs : List α) (enc : α → D) (ys : α → List D) (iG : G M) (hz : (xs.flatMap ys).length ≤ 16777216)
    (inner : ∀ x ∈ xs, ∀ (acc : List D) (nx : List D → Mem → Prop), acc.length + (ys x).length ≤ 16777216 → nx (acc ++ ys x) M → gd (enc x) Γ fun Γ2 => wj Γ2 M fun jtems G' M4 => Lc2J jtems G' ge tYesD te acc Γ2 M4 nx)
    (fin : post (.lst (xs.flatMap ys)) M) : Lc2I (xs.map enc) G gd tYesD wj ge tYesD te Γ M post := by
  refine ⟨fun i acc M' => acc = ((xs.take i).flatMap ys) ∧ M' = M, ⟨rfl, rfl⟩, fun i acc M' h => h.2 ▸ iG, ?_, ?_⟩
  · rintro i d acc M' hd ⟨rfl, rfl⟩
    obtain ⟨x, e, rfl⟩ := map_at hd
    simp only [tYesD, if_true]
    have e1 := tk_fm (g := ys) e
    refine inner x (List.mem_of_getElem? e) _ _ ?_ ⟨e1.symm, rfl⟩
    refine Nat.le_trans ?_ hz
    rw [← List.length_append, ← e1]
    conv => rhs; rw [← List.take_append_drop (i + 1) xs, List.flatMap_append, List.length_append]
    exact Nat.le_add_right _ _
  · rintro acc M' ⟨rfl, rfl⟩
    rw [List.length_map, List.take_length]
    exact fin
/-- the inner loop: pure -/
theorem lc2j_map {ge : GD} {te : WE} {Γ : FD.Env} {M : Mem} {G : Mem → Prop} {β : Type} (ys : List β) (enb : β → D) (f : β → D) (acc : List D) (nx : List D → Mem → Prop) (iG : G M) (hz : acc.length + ys.length ≤ 16777216)
    (step : ∀ y ∈ ys, ∀ yes : WK, yes (f y) M → ge (enb y) Γ fun Γ3 => te Γ3 M yes) (fin : nx (acc ++ ys.map f) M) : Lc2J (ys.map enb) G ge tYesD te acc Γ M nx := by
  refine ⟨fun j acc' M2 => acc' = acc ++ (ys.take j).map f ∧ M2 = M, ⟨by simp, rfl⟩, fun j acc' M2 h => h.2 ▸ iG, ?_, ?_⟩
  · rintro j d acc' M2 hd ⟨rfl, rfl⟩
    obtain ⟨y, e, rfl⟩ := map_at hd
    simp only [tYesD, if_true]
    refine step y (List.mem_of_getElem? e) _ ⟨?_, ?_, rfl⟩
    · have := (List.getElem?_eq_some_iff.mp e).1
      rw [List.length_append, List.length_map, List.length_take]; omega
    · rw [tk_map e, List.append_assoc]
  · rintro acc' M2 ⟨rfl, rfl⟩
    rw [List.length_map, List.take_length]
    exact fin
structure TiI (K : PySem.W.Frag) (fg : Bool) (p : Pan) (M : Mem) (fp sp : Addr) (st : TS) (n : Nat) (G : FD.Env) (N : Mem) : Prop where
  env : ∃ u v z, G = [some (panF K fg p), some (strsL ((fixedL p.ss p.rs).map (·.n))), some (.ptr fp), some (.ptr sp), u, v, z]
  le : M.le N
  hf : N fp = some (.lst (st.1.map grpD))
  hn : st.1.length ≤ n
  hs : ∃ kvs, N sp = some (.dK kvs) ∧ (∀ y : Str, (valD kvs (.inr y)).isSome = decide (y ∈ st.2)) ∧ kvs.length ≤ 20 * n
end FM

/-! bags, names, all settings: what the laws' own defs want -/
namespace FM
open PySem PySem.Spec PyProof.Rows L2 FD
theorem ixN30 : ixN 3 0 = some 0 := rfl
theorem ixN31 : ixN 3 1 = some 1 := rfl
theorem ixN32 : ixN 3 2 = some 2 := rfl
theorem ix_upd {M : Mem} {j : Addr} {l : List D} {i : Int} {post : WK} : gIx (M.upd j (.lst l)) (.ptr j) (.int i) post = got (atI l i) fun d => post d (M.upd j (.lst l)) := by
  show (got (seqOf (M.upd j (.lst l)) (.ptr j)) fun l' => got (atI l' i) fun d => post d (M.upd j (.lst l))) = _
  unfold seqOf
  simp only [Mem.upd_same]
  rfl
theorem jg_upd {M : Mem} {j : Addr} {a b c : Int} (h : M j = some (jg a b c)) : M = M.upd j (.lst [.int a, .int b, .int c]) := by
  funext x
  unfold Mem.upd
  by_cases q : x = j
  · rw [if_pos q, q, h]; rfl
  · rw [if_neg q]
theorem eq_bl {M : Mem} {a b : Bool} {post : WK} : gEq M (.bl a) (.bl b) post = post (.bl (decide (a = b))) M := by
  rw [eq_of_dp rfl rfl (by simp [D.dp]) (by simp [D.dp]), eqd_bl]
theorem ne_bl {M : Mem} {a b : Bool} {post : WK} : gNe M (.bl a) (.bl b) post = post (.bl (!decide (a = b))) M := by
  rw [ne_of_dp rfl rfl (by simp [D.dp]) (by simp [D.dp]), eqd_bl]
theorem sl_tp {M : Mem} {f : Bool} {l : List D} {lo hi : Option Int} {post : WK} : gSlice M (tp f l) lo hi post = post (tp (f && wholeB l lo hi) (cutL l lo hi)) M := by
  cases f
  · exact sl_tup
  · exact sl_ftp
/-- range(n) -/
def rngE (i : Nat) : D := .int (i : Int)
theorem rng_eq (n : Nat) : rng 0 n = (List.range n).map rngE := by
  unfold rng
  refine List.map_congr_left fun i _ => ?_
  show D.int (0 + (i : Int)) = .int (i : Int)
  rw [Int.zero_add]
theorem rng_int (n : Nat) : rng 0 ((n : Int).toNat) = (List.range n).map rngE := by rw [Int.toNat_natCast, rng_eq]
/-- l[i], 0 ≤ i < len -/
theorem atI_lt {α : Type} {l : List α} {i : Nat} (h : i < l.length) {k : α → Prop} : got (atI l (i : Int)) k = k l[i] := by
  rw [atI_nat (List.getElem?_eq_getElem h)]; rfl
theorem atI_getD {α : Type} {l : List α} {i : Nat} (d : α) (h : i < l.length) {k : α → Prop} : got (atI l (i : Int)) k = k (l.getD i d) := by
  rw [atI_lt h, List.getD_eq_getElem?_getD, List.getElem?_eq_getElem h]; rfl
/-! ### names -/
def known13 : List Str := ["a", "b", "c", "lamp", "pump", "door", "switches", "order", "good", "zzzzzzzz", "x", "on", "off"]
def nmA (i : Nat) : Str := known13.getD i ""
def nmB (g i : Nat) : Str := Txt.mul "q" (g : Int) ++ ⟨#[97 + i]⟩
theorem nmA_ok : ∀ i : Fin 13, nameOk (nmA i.1) = true := by decide +kernel
theorem nmA_inj : ∀ i j : Fin 13, nmA i.1 = nmA j.1 → i = j := by decide +kernel
theorem nmB_ok : ∀ (g : Fin 8) (i : Fin 26), nameOk (nmB g.1 i.1) = true := by decide +kernel
theorem nmB_inj : ∀ (g : Fin 8) (i j : Fin 26), nmB g.1 i.1 = nmB g.1 j.1 → i = j := by decide +kernel
theorem leap13 : ∀ (s : Fin 26) (l : Fin 12) (i j : Fin 10), (s.1 + (1 + l.1) * i.1) % 13 = (s.1 + (1 + l.1) * j.1) % 13 → i = j := by decide +kernel
theorem leap26 : ∀ (s : Fin 26) (l : Fin 6) (i j : Fin 10), (s.1 + (1 + 2 * l.1) * i.1) % 26 = (s.1 + (1 + 2 * l.1) * j.1) % 26 → i = j := by decide +kernel
theorem stem_ok : ∀ g : Fin 8, sOk (Txt.mul "q" (g.1 : Int)) = true ∧ (Txt.mul "q" (g.1 : Int)).length ≤ 8 := by decide +kernel
theorem stem_mul (g : Fin 8) : MulOk "q" (g.1 : Int) := by
  refine ⟨by revert g; decide +kernel, ?_, ?_⟩
  · revert g; decide +kernel
  · revert g; decide +kernel
theorem abc_cps : (Str.ofString "abcdefghijklmnopqrstuvwxyz").cps.toList = (List.range 26).map (97 + ·) := by decide +kernel
theorem map_nodup {α β : Type} {f : α → β} : ∀ {l : List α}, l.Nodup → (∀ a ∈ l, ∀ b ∈ l, f a = f b → a = b) → (l.map f).Nodup
  | [], _, _ => by simp
  | a :: l, nd, h => by
    rw [List.nodup_cons] at nd
    rw [List.map_cons, List.nodup_cons]
    refine ⟨fun m => ?_, map_nodup nd.2 fun x hx y hy => h x (List.mem_cons_of_mem _ hx) y (List.mem_cons_of_mem _ hy)⟩
    obtain ⟨b, hb, e⟩ := List.mem_map.mp m
    exact nd.1 (h b (List.mem_cons_of_mem _ hb) a (List.mem_cons_self ..) e ▸ hb)
def tagsA (s l n : Nat) : List Str := (List.range n).map fun k => nmA ((s + (1 + l) * k) % 13)
def tagsB (g s l n : Nat) : List Str := (List.range n).map fun k => nmB g ((s + (1 + 2 * l) * k) % 26)
theorem tagsA_ok {s l n : Nat} (hs : s < 26) (hl : l < 12) (hn : n ≤ 10) : (tagsA s l n).length = n ∧ (tagsA s l n).Nodup ∧ ∀ x ∈ tagsA s l n, nameOk x = true := by
  refine ⟨by simp [tagsA], map_nodup List.nodup_range fun i hi j hj e => ?_, fun x hx => ?_⟩
  · rw [List.mem_range] at hi hj
    have := nmA_inj ⟨_, Nat.mod_lt _ (by omega)⟩ ⟨_, Nat.mod_lt _ (by omega)⟩ e
    have := leap13 ⟨s, hs⟩ ⟨l, hl⟩ ⟨i, by omega⟩ ⟨j, by omega⟩ (congrArg Fin.val this)
    exact congrArg Fin.val this
  · obtain ⟨k, _, rfl⟩ := List.mem_map.mp hx
    exact nmA_ok ⟨_, Nat.mod_lt _ (by omega)⟩
theorem tagsB_ok {g s l n : Nat} (hg : g < 8) (hs : s < 26) (hl : l < 6) (hn : n ≤ 10) : (tagsB g s l n).length = n ∧ (tagsB g s l n).Nodup ∧ ∀ x ∈ tagsB g s l n, nameOk x = true := by
  refine ⟨by simp [tagsB], map_nodup List.nodup_range fun i hi j hj e => ?_, fun x hx => ?_⟩
  · rw [List.mem_range] at hi hj
    have := nmB_inj ⟨g, hg⟩ ⟨_, Nat.mod_lt _ (by omega)⟩ ⟨_, Nat.mod_lt _ (by omega)⟩ e
    have := leap26 ⟨s, hs⟩ ⟨l, hl⟩ ⟨i, by omega⟩ ⟨j, by omega⟩ (congrArg Fin.val this)
    exact congrArg Fin.val this
  · obtain ⟨k, _, rfl⟩ := List.mem_map.mp hx
    exact nmB_ok ⟨g, hg⟩ ⟨_, Nat.mod_lt _ (by omega)⟩
theorem every_small {n : Nat} (h : n ≤ 12) : (every n).length ≤ 4096 := by
  rw [every_len]
  calc 2 ^ n ≤ 2 ^ 12 := Nat.pow_le_pow_right (by omega) h
    _ = 4096 := by decide
theorem every_mem_len {n : Nat} {t : List Bool} (h : t ∈ every n) : t.length = n := mem_every.mp h
theorem steps1_len (l : List (Lit × Lit)) : (l.flatMap steps1).length ≤ 2 * l.length := by
  induction l with
  | nil => simp
  | cons c l ih =>
    have : (steps1 c).length ≤ 2 := by unfold steps1; split <;> simp
    rw [List.flatMap_cons, List.length_append, List.length_cons]; omega
theorem clauses_len (r : Rule) : (clauses r).length ≤ 2 := by cases r <;> simp [clauses]
theorem val_at {ss : List Str} {t : List Bool} {n : Str} (h : n ∈ ss) (l : t.length = ss.length) : t[ss.idxOf n]? = some (val ss t n) := by
  have hi : ss.idxOf n < t.length := by rw [l]; exact List.idxOf_lt_length_of_mem h
  unfold val
  rw [List.getElem?_eq_getElem hi, List.getD_eq_getElem?_getD, List.getElem?_eq_getElem hi]
  rfl
theorem getD_at {t : List Bool} {k : Nat} (h : k < t.length) : t[k]? = some (t.getD k false) := by
  rw [List.getElem?_eq_getElem h, List.getD_eq_getElem?_getD, List.getElem?_eq_getElem h]
  rfl
theorem ints_inj {l m : List Int} : l.map D.int = m.map D.int ↔ l = m := map_inj fun {a b} => by rw [D.int.injEq]
theorem lstOf_lst {M : Mem} {l : List D} : lstOf M (.lst l) = some l := rfl
theorem okL_lst {M : Mem} {l : List D} : okL M (.lst l) = True := eq_true ⟨l, rfl⟩
theorem atI_map {α β : Type} {l : List α} {f : α → β} {i : Nat} (d : α) (h : i < l.length) {k : β → Prop} : got (atI (l.map f) (i : Int)) k = k (f (l.getD i d)) := by
  rw [atI_lt (by rw [List.length_map]; exact h), List.getElem_map, List.getD_eq_getElem?_getD, List.getElem?_eq_getElem h]; rfl
theorem gMulS_eq {M : Mem} {s : Str} {n : Int} {post : WK} : gMulS M (.str s) (.int n) post = (MulOk s n ∧ sOk (Txt.mul s n) = true ∧ post (.str (Txt.mul s n)) M) := rfl
theorem add_sets {t u : List Bool} {k : D → Prop} : got (addD (setD t) (setD u)) k = (t.length + u.length ≤ 16777216 ∧ k (setD (t ++ u))) := by
  show got (addD (.str (setS t)) (.str (setS u))) k = _
  rw [FD.add_str, setS_len, setS_len, setS_app]; rfl
theorem add_setb {t : List Bool} {b : Bool} {k : D → Prop} : got (addD (setD t) (.str (sg b))) k = (t.length + 1 ≤ 16777216 ∧ k (setD (t ++ [b]))) := by
  rw [setS_one]; exact add_sets
theorem add_setp {t : List Bool} {k : D → Prop} : got (addD (setD t) (.str (Str.ofString "+"))) k = (t.length + 1 ≤ 16777216 ∧ k (setD (t ++ [true]))) := add_setb (b := true)
theorem add_setm {t : List Bool} {k : D → Prop} : got (addD (setD t) (.str (Str.ofString "-"))) k = (t.length + 1 ≤ 16777216 ∧ k (setD (t ++ [false]))) := add_setb (b := false)
theorem emod_nat {a n : Int} (h : 0 < n) : ((a % n).toNat : Int) = a % n ∧ a % n < n := ⟨Int.toNat_of_nonneg (Int.emod_nonneg _ (by omega)), Int.emod_lt_of_pos _ h⟩
theorem rngE_e {i : Nat} : rngE i = D.int (i : Int) := rfl
theorem pick_nil {l : List D} : pick [] l = [] := rfl
theorem pick_cons {i : Nat} {ix : List Nat} {l : List D} : pick (i :: ix) l = (match l[i]? with
  | some a => a :: pick ix l
  | none => pick ix l) := by
  unfold pick
  rw [List.filterMap_cons]
  cases l[i]? <;> rfl
def rtag : Rule → Str
  | .be _ => "be"
  | .either _ _ => "either"
  | .needs _ _ => "needs"
  | .bars _ _ => "bars"
  | .same _ _ _ => "same"
  | .unlike _ _ _ => "unlike"
theorem ix_rule0 {M : Mem} {r : Rule} {post : WK} : gIx M (ruleD r) (.int 0) post = post (.str (rtag r)) M := by
  cases r <;> first | rfl | (unfold ruleD; rw [ix_tp]; rfl)
theorem getD_mem {α : Type} {l : List α} {i : Nat} (d : α) (h : i < l.length) : l.getD i d ∈ l := by
  rw [List.getD_eq_getElem?_getD, List.getElem?_eq_getElem h]
  exact List.getElem_mem h
theorem getD_inj {α : Type} {l : List α} (nd : l.Nodup) {i j : Nat} (d : α) (h : i < l.length) (k : j < l.length) (e : l.getD i d = l.getD j d) : i = j := by
  rw [List.getD_eq_getElem?_getD, List.getElem?_eq_getElem h, List.getD_eq_getElem?_getD, List.getElem?_eq_getElem k] at e
  exact (List.getElem_inj (h₀ := h) (h₁ := k) nd).mp e
theorem idx_getD {l : List Str} (nd : l.Nodup) {i : Nat} (d : Str) (h : i < l.length) : l.idxOf (l.getD i d) = i := by
  have m := getD_mem d h
  have hi := List.idxOf_lt_length_of_mem m
  refine getD_inj nd d hi h ?_
  rw [List.getD_eq_getElem?_getD, List.getElem?_eq_getElem hi]
  exact List.getElem_idxOf hi
theorem good_app {ss : List Str} {rs rs' : List Rule} {t : List Bool} : good ss (rs ++ rs') t = (good ss rs t && good ss rs' t) := by unfold good; rw [List.all_append]
theorem InS.app {ss : List Str} {rs rs' : List Rule} (h : InS ss rs) (k : InS ss rs') : InS ss (rs ++ rs') := fun r hr => (List.mem_append.mp hr).elim (h r) (k r)
/-! ### flips -/
theorem flip_get {t : List Bool} {k i : Nat} (h : k < t.length) : (flip t k).getD i false = if i = k then !(t.getD k false) else t.getD i false := by
  unfold flip
  simp only [List.getD_eq_getElem?_getD]
  by_cases e : i = k
  · subst e
    rw [if_pos rfl, List.getElem?_append_left (by simp; omega), List.getElem?_append_right (by simp; omega)]
    simp [Nat.min_eq_left (Nat.le_of_lt h)]
  · rw [if_neg e]
    congr 1
    by_cases l : i < k
    · rw [List.getElem?_append_left (by simp; omega), List.getElem?_append_left (by simp; omega), List.getElem?_take_of_lt l]
    · rw [List.getElem?_append_right (by simp; omega), List.getElem?_drop]
      congr 1
      simp [Nat.min_eq_left (Nat.le_of_lt h)]; omega
theorem flip_flip {t : List Bool} {k : Nat} (h : k < t.length) : flip (flip t k) k = t := by
  have h2 : k < (flip t k).length := by rw [flip_len h]; exact h
  refine List.ext_getElem (by rw [flip_len h2, flip_len h]) fun i h1 h3 => ?_
  have e := flip_get (i := i) h2
  have e1 := flip_get (i := i) h
  have e2 := flip_get (i := k) h
  rw [if_pos rfl] at e2
  simp only [List.getD_eq_getElem?_getD] at e e1 e2
  rw [List.getElem?_eq_getElem h1] at e
  by_cases q : i = k
  · subst q
    rw [if_pos rfl] at e
    rw [e2, List.getElem?_eq_getElem h3] at e
    simpa using e
  · rw [if_neg q] at e e1
    rw [e1, List.getElem?_eq_getElem h3] at e
    simpa using e
theorem val_flip {ss : List Str} (nd : ss.Nodup) {t : List Bool} (l : t.length = ss.length) {k : Nat} (h : k < ss.length) (n : Str) (hn : n ∈ ss) : val ss (flip t k) n = if n = ss.getD k "" then !(val ss t n) else val ss t n := by
  unfold val
  rw [flip_get (by omega)]
  by_cases e : n = ss.getD k ""
  · rw [if_pos e, e, idx_getD nd _ h, if_pos rfl]
  · rw [if_neg e, if_neg]
    intro q
    apply e
    have hi := List.idxOf_lt_length_of_mem hn
    rw [← q, List.getD_eq_getElem?_getD, List.getElem?_eq_getElem hi]
    exact (List.getElem_idxOf hi).symm
/-- a switch that can be flipped is not locked -/
theorem flip_free {p : Pan} {t : List Bool} (l : t.length = p.ss.length) {k : Nat} (h : k < p.ss.length) (g : good p.ss p.rs t = true) (g2 : good p.ss p.rs (flip t k) = true) : p.ss.getD k "" ∉ lockedL p.ss p.rs := by
  intro m
  have nd := p.sw.2.2.1
  obtain ⟨m1, m2⟩ := List.mem_filter.mp m
  have hg : hasGood p.ss p.rs = true := (hasGood_iff p.ru).mpr ⟨t, l, g⟩
  have lk := (locked_iff p.ru nd hg m1).mp (of_decide_eq_true m2)
  have d : val p.ss t (p.ss.getD k "") ≠ val p.ss (flip t k) (p.ss.getD k "") := by
    rw [val_flip nd l h _ m1, if_pos rfl]
    cases val p.ss t (p.ss.getD k "") <;> simp
  refine lock_stuck g g2 d (fun x hx => ?_) lk
  by_cases q : x ∈ p.ss
  · rw [val_flip nd l h _ q, if_neg hx]
  · have : p.ss.idxOf x = p.ss.length := List.idxOf_eq_length q
    unfold val
    rw [this]
    simp only [List.getD_eq_getElem?_getD]
    rw [List.getElem?_eq_none (by omega), List.getElem?_eq_none (by rw [flip_len (by omega)]; omega)]
theorem cutL_mem {α : Type} {l : List α} {lo hi : Option Int} {x : α} (h : x ∈ cutL l lo hi) : x ∈ l := by
  unfold cutL at h
  exact List.mem_of_mem_drop (List.mem_of_mem_take h)
def reprBB (a b : Bool) : Str := (D.lst [.bl a, .bl b]).py.shown
theorem repr_bb {M : Mem} {a b : Bool} {post : WK} : gRepr M [.lst [.bl a, .bl b]] post = post (.str (reprBB a b)) M := by
  unfold gRepr
  rw [one_one]
  have h : (D.lst [.bl a, .bl b]).dp ≤ 16 := by simp [D.dp, dpAll]
  have h2 : (D.lst [.bl a, .bl b]).py.showable = true ∧ sOk (D.lst [.bl a, .bl b]).py.shown = true := by cases a <;> cases b <;> decide +kernel
  exact propext ⟨fun q => q.2.2.2.2, fun q => ⟨rfl, h, h2.1, h2.2, q⟩⟩
theorem isB_isD {a b : Bool} : isBD (.bl a) (.bl b) = some (.bl (decide (a = b))) := rfl
theorem isB_notD {a b : Bool} : notBD (.bl a) (.bl b) = some (.bl (!decide (a = b))) := rfl
end FM

/-! texts that repr tells; locked switches: the other direction -/
namespace FM
open PySem PySem.Spec PyProof.Rows L2 FD
def cOk (s : Str) : Prop := ∀ c ∈ s.cps.toList, c < 0x110000
def cOkB (s : Str) : Bool := s.cps.toList.all fun c => decide (c < 0x110000)
theorem cOkB_iff {s : Str} : cOkB s = true ↔ cOk s := by unfold cOkB cOk; rw [List.all_eq_true]; exact ⟨fun h c hc => of_decide_eq_true (h c hc), fun h c hc => decide_eq_true (h c hc)⟩
theorem cOk.app {s t : Str} (h : cOk s) (k : cOk t) : cOk (s ++ t) := fun c hc => by
  have q : c ∈ (s.cps ++ t.cps).toList := hc
  rw [Array.toList_append] at q
  exact (List.mem_append.mp q).elim (h c) (k c)
theorem cOk_nil : cOk (Str.ofString "") := by unfold cOk; decide +kernel
theorem cOk_comma : cOk (Str.ofString ", ") := by unfold cOk; decide +kernel
theorem cOk.join {sep : Str} (h : cOk sep) : ∀ {ts : List Str}, (∀ t ∈ ts, cOk t) → cOk (Str.join sep ts)
  | [], _ => fun c hc => by cases hc
  | [t], k => k t (by simp)
  | t :: u :: r, k => ((k t (by simp)).app h).app (cOk.join h fun x hx => k x (List.mem_cons_of_mem _ hx))
theorem cOk.from {ts : List Str} : ∀ {k : Nat} {acc : Str}, cOk acc → (∀ t ∈ ts, cOk t) → cOk (textFrom k acc ts) := by
  induction ts with
  | nil => exact fun h _ => h
  | cons t ts ih =>
    intro k acc h q
    refine ih ((h.app ?_).app (q t (by simp))) fun x hx => q x (List.mem_cons_of_mem _ hx)
    split
    · exact cOk_comma
    · exact cOk_nil
theorem cOk_list {ts : List Str} (h : ∀ t ∈ ts, cOk t) : cOk (listText ts) := (cOk.from (by unfold cOk; decide +kernel) h).app (by unfold cOk; decide +kernel)
theorem cOk_tuple {ts : List Str} (h : ∀ t ∈ ts, cOk t) : cOk (tupleText ts) := by
  unfold tupleText
  refine (cOk.app (by unfold cOk; decide +kernel) (cOk_comma.join h)).app ?_
  split <;> (unfold cOk; decide +kernel)
theorem char_lt (c : Char) : c.toNat < 0x110000 := by
  have := c.valid
  unfold UInt32.isValidChar Nat.isValidChar at this
  show c.val.toNat < _
  omega
theorem repr_char {q c : Nat} (hq : q < 0x110000) (hc : c < 0x110000) : ∀ x ∈ Builtin.Str.reprChar q c, x < 0x110000 := by
  have hex : ∀ (w : Nat) (x : Nat), x ∈ List.replicate (w - ((Nat.toDigits 16 c).map Char.toNat).length) 48 ++ (Nat.toDigits 16 c).map Char.toNat → x < 0x110000 := fun w x hx => by
    rcases List.mem_append.mp hx with h | h
    · have := (List.mem_replicate.mp h).2; omega
    · obtain ⟨d, _, rfl⟩ := List.mem_map.mp h
      exact char_lt d
  intro x hx
  unfold Builtin.Str.reprChar at hx
  simp only at hx
  split at hx
  · simp at hx; omega
  split at hx
  · simp at hx; omega
  split at hx
  · simp at hx; omega
  split at hx
  · simp at hx; omega
  split at hx
  · simp at hx; omega
  split at hx
  · rcases List.mem_append.mp hx with h | h
    · simp at h; omega
    · exact hex 2 x h
  split at hx
  · rcases List.mem_append.mp hx with h | h
    · simp at h; omega
    · exact hex 4 x h
  · rcases List.mem_append.mp hx with h | h
    · simp at h; omega
    · exact hex 8 x h
theorem repr_quote (x : Str) : PySem.reprQuote x < 0x110000 := by unfold PySem.reprQuote; split <;> omega
theorem cOk_repr {x : Str} (h : cOk x) : cOk (PySem.reprText x) := by
  have key : ∀ (l : List Nat) (acc : Array Nat), (∀ c ∈ l, c < 0x110000) → (∀ c ∈ acc.toList, c < 0x110000) → ∀ c ∈ (l.foldl (fun out c => out ++ (Builtin.Str.reprChar (PySem.reprQuote x) c).toArray) acc).toList, c < 0x110000 := by
    intro l
    induction l with
    | nil => exact fun acc _ k => k
    | cons d l ih =>
      intro acc hl ha
      rw [List.foldl_cons]
      refine ih _ (fun c hc => hl c (List.mem_cons_of_mem _ hc)) fun c hc => ?_
      rw [Array.toList_append] at hc
      rcases List.mem_append.mp hc with q | q
      · exact ha c q
      · exact repr_char (repr_quote x) (hl d (by simp)) c q
  intro c hc
  unfold PySem.reprText at hc
  simp only [Array.toList_push] at hc
  rcases List.mem_append.mp hc with q | q
  · rw [← Array.foldl_toList] at q
    refine key x.cps.toList #[PySem.reprQuote x] h (fun c hc => ?_) c q
    have e : c = PySem.reprQuote x := by simpa using hc
    rw [e]; exact repr_quote x
  · rw [List.mem_singleton.mp q]; exact repr_quote x
mutual
/-- how long the text is at most; none: not known -/
def rz : D → Option Nat
  | .non => some 4
  | .bl _ => some 5
  | .int i => if 0 ≤ i ∧ i ≤ 300 then some 3 else none
  | .str s => if cOkB s then some (10 * s.length + 2) else none
  | .tup l => (rzAll l).map (· + 3)
  | .ftp l => (rzAll l).map (· + 3)
  | .ktp l => (rzAll l).map (· + 3)
  | .lst l => (rzAll l).map (· + 3)
  | .scr l => (rzAll l).map (· + 3)
  | _ => none
def rzAll : List D → Option Nat
  | [] => some 0
  | d :: l => match rz d, rzAll l with
    | some a, some b => some (a + 2 + b)
    | _, _ => none
end
theorem int_shown : ∀ i : Fin 301, (PyData.int (i.1 : Int)).showable = true ∧ cOkB (PyData.int (i.1 : Int)).shown = true ∧ (PyData.int (i.1 : Int)).shown.length ≤ 3 := by decide +kernel
mutual
theorem rz_ok : ∀ (d : D) (n : Nat), rz d = some n → d.py.showable = true ∧ cOk d.py.shown ∧ d.py.shown.length ≤ n
  | .non, n, h => by cases h; exact ⟨by simp [D.py, PyData.showable], by unfold cOk; decide +kernel, by decide +kernel⟩
  | .bl b, n, h => by cases h; cases b <;> exact ⟨by simp [D.py, PyData.showable], by unfold cOk; decide +kernel, by decide +kernel⟩
  | .int i, n, h => by
    unfold rz at h
    obtain ⟨c, rfl⟩ := ite_some h
    obtain ⟨h1, h2, h3⟩ := int_shown ⟨i.toNat, by omega⟩
    have e : ((i.toNat : Nat) : Int) = i := Int.toNat_of_nonneg c.1
    simp only [e] at h1 h2 h3
    exact ⟨h1, cOkB_iff.mp h2, h3⟩
  | .str s, n, h => by
    unfold rz at h
    obtain ⟨c, rfl⟩ := ite_some h
    have c := cOkB_iff.mp c
    have e : (D.str s).py.shown = reprText s := by simp only [D.py, PyData.shown]
    rw [e]
    exact ⟨by simp [D.py, PyData.showable], cOk_repr c, StrLaws.reprText_len s fun x hx => Nat.lt_trans (c x hx) (by decide)⟩
  | .tup l, n, h => by
    unfold rz at h
    obtain ⟨m, hm, rfl⟩ := Option.map_eq_some_iff.mp h
    obtain ⟨h1, h2, h3, h4⟩ := rzAll_ok l m hm
    have h5 := tupleText_len_le (PyData.shownAll (pyAll l))
    have e : (D.tup l).py.shown = tupleText (PyData.shownAll (pyAll l)) := by simp only [D.py, PyData.shown]
    rw [e]
    exact ⟨by simp [D.py, PyData.showable, h1], cOk_tuple h2, by omega⟩
  | .ftp l, n, h => by
    unfold rz at h
    obtain ⟨m, hm, rfl⟩ := Option.map_eq_some_iff.mp h
    obtain ⟨h1, h2, h3, h4⟩ := rzAll_ok l m hm
    have h5 := tupleText_len_le (PyData.shownAll (pyAll l))
    have e : (D.ftp l).py.shown = tupleText (PyData.shownAll (pyAll l)) := by simp only [D.py, PyData.shown]
    rw [e]
    exact ⟨by simp [D.py, PyData.showable, h1], cOk_tuple h2, by omega⟩
  | .ktp l, n, h => by
    unfold rz at h
    obtain ⟨m, hm, rfl⟩ := Option.map_eq_some_iff.mp h
    obtain ⟨h1, h2, h3, h4⟩ := rzAll_ok l m hm
    have h5 := tupleText_len_le (PyData.shownAll (pyAll l))
    have e : (D.ktp l).py.shown = tupleText (PyData.shownAll (pyAll l)) := by simp only [D.py, PyData.shown]
    rw [e]
    exact ⟨by simp [D.py, PyData.showable, h1], cOk_tuple h2, by omega⟩
  | .lst l, n, h => by
    unfold rz at h
    obtain ⟨m, hm, rfl⟩ := Option.map_eq_some_iff.mp h
    obtain ⟨h1, h2, h3, h4⟩ := rzAll_ok l m hm
    have h5 := listText_len_le (PyData.shownAll (pyAll l))
    have e : (D.lst l).py.shown = listText (PyData.shownAll (pyAll l)) := by simp only [D.py, PyData.shown]
    rw [e]
    exact ⟨by simp [D.py, PyData.showable, h1], cOk_list h2, by omega⟩
  | .scr l, n, h => by
    unfold rz at h
    obtain ⟨m, hm, rfl⟩ := Option.map_eq_some_iff.mp h
    obtain ⟨h1, h2, h3, h4⟩ := rzAll_ok l m hm
    have h5 := listText_len_le (PyData.shownAll (pyAll l))
    have e : (D.scr l).py.shown = listText (PyData.shownAll (pyAll l)) := by simp only [D.py, PyData.shown]
    rw [e]
    exact ⟨by simp [D.py, PyData.showable, h1], cOk_list h2, by omega⟩
  | .ptr _, n, h => by cases h
  | .obj _ _, n, h => by cases h
  | .dcK _, n, h => by cases h
  | .dcT _, n, h => by cases h
theorem rzAll_ok : ∀ (l : List D) (n : Nat), rzAll l = some n → PyData.showableAll (pyAll l) = true ∧ (∀ t ∈ PyData.shownAll (pyAll l), cOk t) ∧ ((PyData.shownAll (pyAll l)).map (·.length)).sum + 2 * (PyData.shownAll (pyAll l)).length ≤ n ∧ (PyData.shownAll (pyAll l)).length = l.length
  | [], n, h => by cases h; exact ⟨by simp [pyAll, PyData.showableAll], fun t ht => by simp [pyAll, PyData.shownAll] at ht, by simp [pyAll, PyData.shownAll], by simp [pyAll, PyData.shownAll]⟩
  | d :: l, n, h => by
    unfold rzAll at h
    split at h
    · rename_i a b e1 e2
      cases h
      obtain ⟨h1, h2, h3⟩ := rz_ok d a e1
      obtain ⟨k1, k2, k3, k4⟩ := rzAll_ok l b e2
      have e : PyData.shownAll (pyAll (d :: l)) = d.py.shown :: PyData.shownAll (pyAll l) := by simp only [pyAll, PyData.shownAll]
      rw [e]
      refine ⟨by simp [pyAll, PyData.showableAll, h1, k1], fun t ht => ?_, ?_, by simp [k4]⟩
      · rcases List.mem_cons.mp ht with rfl | q
        · exact h2
        · exact k2 t q
      · simp only [List.map_cons, List.sum_cons, List.length_cons]; omega
    · cases h
end
def shD (d : D) : Str := d.py.shown
/-- repr of a list or a tuple -/
theorem repr_rz {M : Mem} {d : D} {n : Nat} {post : WK} (hs : isSeqD d = true) (hd : d.dp ≤ 16) (h : rz d = some n) (hn : n ≤ 16777216) : gRepr M [d] post = post (.str (shD d)) M := by
  obtain ⟨h1, h2, h3⟩ := rz_ok d n h
  unfold gRepr
  rw [one_one]
  exact propext ⟨fun q => q.2.2.2.2, fun q => ⟨hs, hd, h1, sOk_of (by have : d.py.shown.cps.size = d.py.shown.length := rfl; omega) h2, q⟩⟩
def RepOk (d : D) : Prop := isSeqD d = true ∧ d.dp ≤ 16 ∧ ∃ n, rz d = some n ∧ n ≤ 16777216
theorem repr_ok {M : Mem} {d : D} {post : WK} (h : RepOk d) : gRepr M [d] post = post (.str (shD d)) M := let ⟨a, b, _, c, e⟩ := h; repr_rz a b c e
theorem rz_names {ss : List Str} (h : ∀ s ∈ ss, nameOk s = true) : ∃ n, rzAll (ss.map D.str) = some n ∧ n ≤ 84 * ss.length := by
  induction ss with
  | nil => exact ⟨0, rfl, by simp⟩
  | cons s ss ih =>
    obtain ⟨n, hn, ln⟩ := ih fun x hx => h x (List.mem_cons_of_mem _ hx)
    have hs := h s (by simp)
    unfold nameOk at hs
    simp only [Bool.and_eq_true, decide_eq_true_eq] at hs
    have c : cOkB s = true := by
      unfold cOkB
      rw [List.all_eq_true]
      intro x hx
      have := List.all_eq_true.mp hs.2 x hx
      have hm := of_decide_eq_true this
      have el : ∀ x ∈ letters.cps.toList, x < 0x110000 := by decide +kernel
      exact decide_eq_true (el x hm)
    have e : rz (.str s) = some (10 * s.length + 2) := by unfold rz; rw [if_pos c]
    refine ⟨10 * s.length + 2 + 2 + n, ?_, ?_⟩
    · rw [List.map_cons, rzAll, e, hn]
    · have := hs.1.1.2; rw [List.length_cons]; omega
/-! ### a switch that is not locked can be flipped in some good setting -/
theorem free_flip {ss : List Str} {rs : List Rule} (ok : InS ss rs) {t : List Bool} (h : t.length = ss.length) (g : good ss rs t = true) {n : Str} (m : n ∈ ss) (nl : ¬ Lock rs n) :
    ∃ t1 t2 : List Bool, t1.length = ss.length ∧ t2.length = ss.length ∧ good ss rs t1 = true ∧ good ss rs t2 = true ∧ val ss t1 n = true ∧ val ss t2 n = false ∧ ∀ x ∈ ss, x ≠ n → val ss t1 x = val ss t2 x := by
  let a : Lit := ⟨n, true⟩
  have na : ¬ Need rs a a.op := fun z => nl (.inl z)
  have nb : ¬ Need rs a.op a := fun z => nl (.inr (.inl z))
  have tie : ∀ b : Lit, b ≠ a → Need rs a b → Need rs b a → False := fun b hb h1 h2 => nl (.inr (.inr ⟨b, hb, h1, h2⟩))
  let C : Lit → Prop := fun b => (Need rs a b ∧ b ≠ a) ∨ (Need rs a.op b ∧ b ≠ a.op)
  have Cn : ∀ b, C b → b.n ≠ n := fun b hb e => by
    rcases hb with ⟨h1, h2⟩ | ⟨h1, h2⟩
    · rcases lit_cases (b := a) (show b.n = a.n from e) with q | q
      · exact h2 q
      · rw [q] at h1; exact na h1
    · rcases lit_cases (b := a) (show b.n = a.n from e) with q | q
      · rw [q] at h1; exact nb h1
      · exact h2 q
  have Cc : ∀ b, C b → ¬ C b.op := fun b hb hc => by
    rcases hb with ⟨h1, h2⟩ | ⟨h1, h2⟩ <;> rcases hc with ⟨k1, k2⟩ | ⟨k1, k2⟩
    · have := need_contra k1; rw [op_op] at this; exact na (h1.trans this)
    · have := need_contra k1; rw [op_op, op_op] at this; exact tie b h2 h1 this
    · have := need_contra h1; rw [op_op] at this
      exact tie b.op (fun z => h2 (by rw [← z, op_op])) k1 this
    · have := need_contra k1; rw [op_op] at this; exact nb (by have q := h1.trans this; rwa [op_op] at q)
  have Cs : ∀ b c, C b → StepP rs b c → C c := fun b c hb s => by
    rcases hb with ⟨h1, h2⟩ | ⟨h1, h2⟩
    · refine .inl ⟨h1.tail s, fun z => ?_⟩
      rw [z] at s
      exact tie b h2 h1 (.one s)
    · refine .inr ⟨h1.tail s, fun z => ?_⟩
      rw [z] at s
      have k1 := need_contra h1; rw [op_op] at k1
      have k2 := need_contra (Need.one s); rw [op_op] at k2
      exact tie b.op (fun z => h2 (by rw [← z, op_op])) k2 k1
  have full : ∀ l : Lit, (l = a ∨ l = a.op) → (∀ b, (C b ∨ b = l) → ¬ (C b.op ∨ b.op = l)) ∧ (∀ b c, (C b ∨ b = l) → StepP rs b c → (C c ∨ c = l)) := fun l hl => by
    have ln : l.n = n := by rcases hl with rfl | rfl <;> rfl
    refine ⟨fun b hb hc => ?_, fun b c hb s => ?_⟩
    · rcases hb with hb | rfl <;> rcases hc with hc | hc
      · exact Cc b hb hc
      · exact Cn b hb (by rw [← op_n b, hc]; exact ln)
      · exact Cn _ hc ln
      · exact op_ne _ hc
    · rcases hb with hb | rfl
      · exact .inl (Cs b c hb s)
      · by_cases e : c = b
        · exact .inr e
        · rcases hl with rfl | rfl
          · exact .inl (.inl ⟨.one s, e⟩)
          · exact .inl (.inr ⟨.one s, e⟩)
  obtain ⟨c1, s1⟩ := full a (.inl rfl)
  obtain ⟨c2, s2⟩ := full a.op (.inr rfl)
  refine ⟨over ss t fun b => C b ∨ b = a, over ss t fun b => C b ∨ b = a.op, over_len h, over_len h, over_good ok h c1 s1 (.inr g), over_good ok h c2 s2 (.inr g), ?_, ?_, fun x hx ne => ?_⟩
  · exact (val_over (C := fun b => C b ∨ b = a) h m).1 (.inr rfl)
  · refine (val_over (C := fun b => C b ∨ b = a.op) h m).2.1 (fun z => ?_) (.inr rfl)
    rcases z with z | z
    · exact Cn _ z rfl
    · exact absurd z.symm (op_ne a)
  · have v1 := val_over (C := fun b => C b ∨ b = a) h hx
    have v2 := val_over (C := fun b => C b ∨ b = a.op) h hx
    have e1 : ∀ sb : Bool, (C ⟨x, sb⟩ ∨ (⟨x, sb⟩ : Lit) = a) ↔ C ⟨x, sb⟩ := fun sb => ⟨fun z => z.resolve_right fun q => ne (congrArg Lit.n q), .inl⟩
    have e2 : ∀ sb : Bool, (C ⟨x, sb⟩ ∨ (⟨x, sb⟩ : Lit) = a.op) ↔ C ⟨x, sb⟩ := fun sb => ⟨fun z => z.resolve_right fun q => ne (congrArg Lit.n q), .inl⟩
    simp only [e1] at v1
    simp only [e2] at v2
    by_cases q1 : C ⟨x, true⟩
    · rw [v1.1 q1, v2.1 q1]
    · by_cases q2 : C ⟨x, false⟩
      · rw [v1.2.1 q1 q2, v2.2.1 q1 q2]
      · rw [v1.2.2 q1 q2, v2.2.2 q1 q2]
end FM

/-! locked switches by all flips -/
namespace FM
open PySem PySem.Spec PyProof.Rows L2 FD
def stuckL (ss : List Str) (gs : List (List Bool)) : List Str := ((List.range ss.length).filter fun k => !(gs.any fun t => decide (flip t k ∈ gs))).map fun k => ss.getD k ""
/-- all good settings, in their order -/
def goodsL (ss : List Str) (rs : List Rule) : List (List Bool) := (every ss.length).filter (good ss rs)
theorem mem_goods {ss : List Str} {rs : List Rule} {t : List Bool} : t ∈ goodsL ss rs ↔ t.length = ss.length ∧ good ss rs t = true := by
  unfold goodsL; rw [List.mem_filter, mem_every]
theorem val_getD {ss : List Str} (nd : ss.Nodup) {t : List Bool} {k : Nat} (h : k < ss.length) : val ss t (ss.getD k "") = t.getD k false := by unfold val; rw [idx_getD nd _ h]
theorem ext_val {ss : List Str} (nd : ss.Nodup) {t u : List Bool} (ht : t.length = ss.length) (hu : u.length = ss.length) (h : ∀ x ∈ ss, val ss t x = val ss u x) : t = u := by
  refine List.ext_getElem (by omega) fun i h1 h2 => ?_
  have hi : i < ss.length := by omega
  have := h _ (getD_mem ("" : Str) hi)
  rw [val_getD nd hi, val_getD nd hi, List.getD_eq_getElem?_getD, List.getD_eq_getElem?_getD, List.getElem?_eq_getElem h1, List.getElem?_eq_getElem h2] at this
  exact this
/-- not locked: there is a flip that is let -/
theorem free_some {p : Pan} (hg : hasGood p.ss p.rs = true) {k : Nat} (h : k < p.ss.length) (nl : ¬ Lock p.rs (p.ss.getD k "")) : ∃ t, t ∈ goodsL p.ss p.rs ∧ flip t k ∈ goodsL p.ss p.rs := by
  have nd := p.sw.2.2.1
  obtain ⟨t0, l0, g0⟩ := (hasGood_iff p.ru).mp hg
  have mm := getD_mem ("" : Str) h
  obtain ⟨t1, t2, l1, l2, g1, g2, v1, v2, same⟩ := free_flip p.ru l0 g0 mm nl
  refine ⟨t1, mem_goods.mpr ⟨l1, g1⟩, ?_⟩
  have e : flip t1 k = t2 := by
    refine ext_val nd (by rw [flip_len (by omega)]; exact l1) l2 fun x hx => ?_
    rw [val_flip nd l1 h x hx]
    by_cases q : x = p.ss.getD k ""
    · rw [if_pos q, q, v1, v2]; rfl
    · rw [if_neg q]; exact same x hx q
  rw [e]
  exact mem_goods.mpr ⟨l2, g2⟩
theorem range_map {ss : List Str} : (List.range ss.length).map (fun k => ss.getD k "") = ss := by
  refine List.ext_getElem (by simp) fun i h1 h2 => ?_
  simp only [List.getElem_map, List.getElem_range]
  rw [List.getD_eq_getElem?_getD, List.getElem?_eq_getElem h2]; rfl
theorem stuck_eq (p : Pan) (hg : hasGood p.ss p.rs = true) : stuckL p.ss (goodsL p.ss p.rs) = lockedL p.ss p.rs := by
  have nd := p.sw.2.2.1
  unfold stuckL lockedL
  conv => rhs; rw [← range_map (ss := p.ss), List.filter_map]
  congr 1
  refine List.filter_congr fun k hk => ?_
  have hk2 := List.mem_range.mp hk
  have mm := getD_mem ("" : Str) hk2
  rw [Bool.eq_iff_iff]
  have rm : List.map (fun k => p.ss.getD k "") (List.range p.ss.length) = p.ss := range_map
  show _ ↔ decide (p.ss.getD k "" ∈ lockNames (List.map (fun k => p.ss.getD k "") (List.range p.ss.length)) p.rs) = true
  rw [rm, decide_eq_true_eq, locked_iff p.ru nd hg mm, Bool.not_eq_true', List.any_eq_false]
  constructor
  · intro h
    by_cases lk : Lock p.rs (p.ss.getD k "")
    · exact lk
    · obtain ⟨t, ht, hf⟩ := free_some hg hk2 lk
      exact absurd (decide_eq_true hf) (h t ht)
  · intro lk t ht hf
    obtain ⟨tl, tg⟩ := mem_goods.mp ht
    obtain ⟨fl, fg⟩ := mem_goods.mp (of_decide_eq_true hf)
    exact flip_free tl hk2 tg fg (List.mem_filter.mpr ⟨mm, decide_eq_true ((locked_iff p.ru nd hg mm).mpr lk)⟩)
/-- the same rules in another order, some of them twice -/
theorem StepP.same {rs rs' : List Rule} (h : ∀ r, r ∈ rs ↔ r ∈ rs') {a b : Lit} : StepP rs a b ↔ StepP rs' a b := by
  unfold StepP
  exact exists_congr fun r => and_congr_left fun _ => h r
theorem Need.same {rs rs' : List Rule} (h : ∀ r, r ∈ rs ↔ r ∈ rs') {a b : Lit} (n : Need rs a b) : Need rs' a b := by
  induction n with
  | refl => exact .refl _
  | tail _ s ih => exact ih.tail ((StepP.same h).mp s)
theorem Need.same_iff {rs rs' : List Rule} (h : ∀ r, r ∈ rs ↔ r ∈ rs') {a b : Lit} : Need rs a b ↔ Need rs' a b := ⟨.same h, .same fun r => (h r).symm⟩
theorem lock_same {rs rs' : List Rule} (h : ∀ r, r ∈ rs ↔ r ∈ rs') {n : Str} : Lock rs n ↔ Lock rs' n := by
  unfold Lock
  simp only [Need.same_iff h]
theorem good_same {ss : List Str} {rs rs' : List Rule} (h : ∀ r, r ∈ rs ↔ r ∈ rs') {t : List Bool} : good ss rs t = good ss rs' t := by
  unfold good
  rw [Bool.eq_iff_iff, List.all_eq_true, List.all_eq_true]
  exact ⟨fun k r hr => k r ((h r).mpr hr), fun k r hr => k r ((h r).mp hr)⟩
theorem hasGood_same {ss : List Str} {rs rs' : List Rule} (h : ∀ r, r ∈ rs ↔ r ∈ rs') (ok : InS ss rs) (ok' : InS ss rs') : hasGood ss rs = hasGood ss rs' := by
  rw [Bool.eq_iff_iff, hasGood_iff ok, hasGood_iff ok']
  simp only [good_same h]
theorem locked_same {ss : List Str} {rs rs' : List Rule} (h : ∀ r, r ∈ rs ↔ r ∈ rs') (ok : InS ss rs) (ok' : InS ss rs') (nd : ss.Nodup) (hg : hasGood ss rs = true) : lockedL ss rs = lockedL ss rs' := by
  unfold lockedL
  refine List.filter_congr fun x hx => ?_
  rw [Bool.eq_iff_iff, decide_eq_true_eq, decide_eq_true_eq, locked_iff ok nd hg hx, locked_iff ok' nd (by rw [← hasGood_same h ok ok']; exact hg) hx, lock_same h]
theorem locked_len {ss : List Str} {rs : List Rule} : (lockedL ss rs).length ≤ ss.length := List.length_filter_le ..
theorem locked_names {p : Pan} : ∀ s ∈ lockedL p.ss p.rs, nameOk s = true := fun s hs => p.sw.2.2.2 s (List.mem_filter.mp hs).1
theorem rep_names {l : List Str} (h : ∀ s ∈ l, nameOk s = true) (k : l.length ≤ 100) : RepOk (strsF l) := by
  obtain ⟨n, hn, ln⟩ := rz_names h
  exact ⟨rfl, by simp [D.dp, dpAll_strs], n + 3, by unfold rz; rw [hn]; rfl, by omega⟩
theorem rep_names2 {l : List Str} (h : ∀ s ∈ l, nameOk s = true) (k : l.length ≤ 100) : RepOk (.lst [strsF l, strsF l]) := by
  obtain ⟨n, hn, ln⟩ := rz_names h
  have e : rz (strsF l) = some (n + 3) := by unfold rz; rw [hn]; rfl
  exact ⟨rfl, by simp [D.dp, dpAll, dpAll_strs], (n + 3) + 2 + ((n + 3) + 2 + 0) + 3, by unfold rz rzAll; rw [e]; unfold rzAll; rw [e]; rfl, by omega⟩
theorem InS.sub {ss : List Str} {rs rs' : List Rule} (h : InS ss rs) (k : ∀ r ∈ rs', r ∈ rs) : InS ss rs' := fun r hr => h r (k r hr)
end FM

/-! rules that follow -/
namespace FM
open PySem PySem.Spec PyProof.Rows L2 FD
def optW : Option Way → D
  | none => .non
  | some w => wayD w
theorem isNon_optW {o : Option Way} : FD.isNon (optW o) = o.isNone := by cases o <;> rfl
theorem optW_inj {o q : Option Way} : optW o = optW q ↔ o = q := by
  cases o <;> cases q <;> simp [optW, wayD, map_inj stD_inj]
def wayFor (p : Pan) (c : Lit × Lit) : Option Way :=
  (((wf p.ss p.rs c.1.op).lookup c.2).orElse fun _ => (wf p.ss p.rs c.1.op).lookup c.1).orElse fun _ => ((wf p.ss p.rs c.2.op).lookup c.1).orElse fun _ => (wf p.ss p.rs c.2.op).lookup c.2
theorem wayFor_some {p : Pan} {c : Lit × Lit} : (wayFor p c).isSome = (inW p.ss p.rs c.1.op c.2 || inW p.ss p.rs c.1.op c.1 || inW p.ss p.rs c.2.op c.1 || inW p.ss p.rs c.2.op c.2) := by
  unfold wayFor inW
  cases (wf p.ss p.rs c.1.op).lookup c.2 <;> cases (wf p.ss p.rs c.1.op).lookup c.1 <;> cases (wf p.ss p.rs c.2.op).lookup c.1 <;> cases (wf p.ss p.rs c.2.op).lookup c.2 <;> rfl
/-- two literals that hold together in some good setting -/
theorem both_good {ss : List Str} {rs : List Rule} (ok : InS ss rs) {t : List Bool} (h : t.length = ss.length) (g : good ss rs t = true) {a b : Lit} (ma : a.n ∈ ss) (mb : b.n ∈ ss) (na : ¬ Need rs a a.op) (nb : ¬ Need rs b b.op) (nab : ¬ Need rs a b.op) :
    ∃ u : List Bool, u.length = ss.length ∧ good ss rs u = true ∧ hasL ss u a = true ∧ hasL ss u b = true := by
  have co : ∀ c, (Need rs a c ∨ Need rs b c) → ¬ (Need rs a c.op ∨ Need rs b c.op) := by
    rintro c (h1 | h1) (h2 | h2)
    · exact closure_co na c h1 h2
    · have := need_contra h2; rw [op_op] at this; exact nab (h1.trans this)
    · have := need_contra h1; exact nab (h2.trans this)
    · exact closure_co nb c h1 h2
  refine ⟨over ss t fun c => Need rs a c ∨ Need rs b c, over_len h, over_good ok h co ?_ (.inr g), ?_, ?_⟩
  · rintro x y (h1 | h1) s
    · exact .inl (h1.tail s)
    · exact .inr (h1.tail s)
  · exact (has_over h co ma).1 (.inl (.refl _))
  · exact (has_over h co mb).1 (.inr (.refl _))
/-- a clause that holds in all good settings -/
theorem clause_iff {p : Pan} (hg : hasGood p.ss p.rs = true) {c : Lit × Lit} (h1 : c.1.n ∈ p.ss) (h2 : c.2.n ∈ p.ss) : (wayFor p c).isSome = true ↔ ∀ t, t ∈ goodsL p.ss p.rs → keepsC p.ss t c = true := by
  rw [wayFor_some]
  simp only [Bool.or_eq_true, inW_iff p.ru (a := c.1.op) h1, inW_iff p.ru (a := c.2.op) h2]
  obtain ⟨t0, l0, g0⟩ := (hasGood_iff p.ru).mp hg
  constructor
  · intro h t ht
    obtain ⟨tl, tg⟩ := mem_goods.mp ht
    unfold keepsC
    cases q1 : hasL p.ss t c.1 with
    | true => rfl
    | false =>
      cases q2 : hasL p.ss t c.2 with
      | true => rfl
      | false =>
        exfalso
        have o1 : hasL p.ss t c.1.op = true := by rw [has_op, q1]; rfl
        have o2 : hasL p.ss t c.2.op = true := by rw [has_op, q2]; rfl
        rcases h with ((h | h) | h) | h
        · rw [sound tg h o1] at q2; cases q2
        · rw [sound tg h o1] at q1; cases q1
        · rw [sound tg h o2] at q1; cases q1
        · rw [sound tg h o2] at q2; cases q2
  · intro h
    by_cases n1 : Need p.rs c.1.op c.2
    · exact .inl (.inl (.inl n1))
    · by_cases n2 : Need p.rs c.1.op c.1
      · exact .inl (.inl (.inr n2))
      · by_cases n3 : Need p.rs c.2.op c.2
        · exact .inr n3
        · exfalso
          obtain ⟨u, ul, ug, k1, k2⟩ := both_good p.ru l0 g0 (a := c.1.op) (b := c.2.op) h1 h2 (by rw [op_op]; exact n2) (by rw [op_op]; exact n3) (by rw [op_op]; exact n1)
          have := h u (mem_goods.mpr ⟨ul, ug⟩)
          unfold keepsC at this
          rw [has_op] at k1 k2
          cases q1 : hasL p.ss u c.1 <;> cases q2 : hasL p.ss u c.2 <;> simp [q1, q2] at k1 k2 this
def impliesB (p : Pan) (r : Rule) : Bool := !hasGood p.ss p.rs || (clauses r).all fun c => (wayFor p c).isSome
theorem implies_iff {p : Pan} {r : Rule} (h : ruleOk p.ss r = true) : impliesB p r = (goodsL p.ss p.rs).all fun t => keepsR p.ss t r := by
  rw [Bool.eq_iff_iff, List.all_eq_true]
  unfold impliesB
  cases hg : hasGood p.ss p.rs with
  | false =>
    refine ⟨fun _ t ht => ?_, fun _ => rfl⟩
    have := (hasGood_iff p.ru).mpr ⟨t, mem_goods.mp ht⟩
    rw [hg] at this; cases this
  | true =>
    show (false || _) = true ↔ _
    rw [Bool.false_or, List.all_eq_true]
    unfold keepsR
    constructor
    · intro k t ht
      rw [List.all_eq_true]
      intro c hc
      obtain ⟨m1, m2⟩ := cl_in h hc
      exact (clause_iff hg m1 m2).mp (k c hc) t ht
    · intro k c hc
      obtain ⟨m1, m2⟩ := cl_in h hc
      exact (clause_iff hg m1 m2).mpr fun t ht => List.all_eq_true.mp (k t ht) c hc
def Pan.without (p : Pan) (ix : List Nat) : Pan := ⟨p.ss, (p.rs.zipIdx.filter fun q => !decide (q.2 ∈ ix)).map (·.1), p.sw, fun r hr => by
  obtain ⟨q, hq, rfl⟩ := List.mem_map.mp hr
  have := (List.mem_filter.mp hq).1
  obtain ⟨_, _, e⟩ := List.mem_zipIdx this
  refine p.ru _ ?_
  rw [e]; exact List.getElem_mem _, by
  rw [List.length_map]
  refine Nat.le_trans (List.length_filter_le ..) ?_
  rw [List.length_zipIdx]; exact p.len⟩
def needlessL (p : Pan) : List Nat := (p.rs.zipIdx.filter fun q => impliesB (p.without [q.2]) q.1).map (·.2)
theorem inL_ints {l : List Nat} {k : Nat} : inL (l.map rngE) (.int (k : Int)) = decide (k ∈ l) := by
  induction l with
  | nil => rfl
  | cons x l ih =>
    unfold inL at ih ⊢
    rw [List.map_cons, List.any_cons, ih]
    show (eqd (.int (x : Int)) (.int (k : Int)) || _) = _
    rw [eqd_int]
    by_cases h : x = k
    · subst h; simp
    · have h2 : ¬ k = x := fun z => h z.symm
      have h3 : ¬ (x : Int) = (k : Int) := by omega
      simp [h, h2, h3]
theorem flatInts (l : List Nat) : (l.map rngE).all flatD = true := by
  rw [List.all_eq_true]
  intro d hd
  obtain ⟨s, _, rfl⟩ := List.mem_map.mp hd
  rfl
theorem rngE_inj {a b : Nat} : rngE a = rngE b ↔ a = b := by unfold rngE; rw [D.int.injEq]; omega
theorem rngs_inj {l m : List Nat} : l.map rngE = m.map rngE ↔ l = m := map_inj rngE_inj
end FM

namespace FD
open PySem PySem.Spec PyProof.Rows L2
section
variable {X : Cx} {o e f : Expr} {apos cpos : Pos} {wo wi wx : WE}
/-- a dict, whatever its keys -/
def isDc (M : Mem) (d : D) : Prop := match d with
  | .ptr a => (∃ l, M a = some (.dK l)) ∨ ∃ l, M a = some (.dT l)
  | .dcK _ => True
  | .dcT _ => True
  | _ => False
theorem isDc_of {K : PySem.W.Frag} {H : Hp} {H0 : F} {M : Mem} {v : V} {d : D} (f : Fr K H H0 M) (r : Rp K H0 v d) (h : isDc M d) : ∃ a, v = .ref a ∧ IsD H a := by
  cases r with
  | ptr a =>
    refine ⟨a, rfl, ?_⟩
    rcases h with ⟨l, hm⟩ | ⟨l, hm⟩
    · obtain ⟨_, o, ho, ro⟩ := f.mem a _ hm
      cases ro with
      | @dK xs _ kv => exact .inl ⟨xs, .inl ho⟩
    · obtain ⟨_, o, ho, ro⟩ := f.mem a _ hm
      cases ro with
      | @dT xs _ kv => exact .inr ⟨xs, .inl ho⟩
  | @dcK a xs _ h1 _ _ => exact ⟨a, rfl, .inl ⟨xs, .inl (f.sub _ _ h1)⟩⟩
  | @dcT a xs _ h1 _ _ => exact ⟨a, rfl, .inr ⟨xs, .inl (f.sub _ _ h1)⟩⟩
  | _ => exact h.elim
def wDGetD (wo wi wx : WE) : WE := fun Γ M post => wo Γ M fun d M1 => isDc M1 d ∧ wi Γ M1 fun y M2 => wx Γ M2 fun z M3 => dAt M3 d y fun r => post (r.getD z) M3
theorem wDGetD_e (wo wi wx : WE) : FD.wDGetD wo wi wx = (fun Γ M post => wo Γ M fun d M1 => isDc M1 d ∧ wi Γ M1 fun y M2 => wx Γ M2 fun z M3 => dAt M3 d y fun r => post (r.getD z) M3 : WE) := rfl
theorem de_dgetD {k : Nat} (hr : Room k X.A) (ho : DE X o wo) (he : DE X e wi) (hf : DE X f wx)
    (base : attributeBase o "get" X.env (eval o X.env) = eval o X.env := by rfl)
    (few : ((backTo cpos (starEach [e, f] X.env)).all (fun x => !x.1) && (backToKw cpos (keywordEach [] X.env)).all (fun x => x.1.isSome)
      && decide (([e, f] : List Expr).length + ([] : List Keyword).length + (if ([] : List Keyword).isEmpty then 0 else 1) < 30)) = true := by rfl)
    (line : (apos.endLine == cpos.line) = true := by rfl)
    (trees : backTo cpos (starEach [e, f] X.env) = [(false, eval e X.env), (false, eval f X.env)] := by rfl) :
    DE X (.Call (.Attribute o "get" apos) [e, f] [] cpos) (wDGetD wo wi wx) :=
  PE.weak (pe_dget2 (hu_of hr) ho he hf ⟨base, few, line, trees⟩) fun σ H Q h => by
    refine up_bind (k := fun d Γ M1 post => isDc M1 d ∧ wi Γ M1 fun y M2 => wx Γ M2 fun z M3 => dAt M3 d y fun r => post (r.getD z) M3) h fun v d H1 H0 Γ M post f en r q p => ?_
    obtain ⟨hd, q⟩ := q
    obtain ⟨a, rfl, hD⟩ := isDc_of f r hd
    refine ⟨a, rfl, hD, H0, Γ, M, _, f, en, q, fun u y H2 H02 M2 q2 f2 s2 r2 => ⟨H02, Γ, M2, _, f2, en.mono s2, q2, fun u3 z H3 H03 M3 q3 f3 s3 r3 => ?_⟩⟩
    obtain ⟨a', ov, od, ea, g, rl, q4⟩ := dAt_of f3 ((r.mono s2).mono s3) (r2.mono s3) q3
    cases ea
    refine ⟨ov, g, ?_⟩
    cases od with
    | none =>
      have e0 : ov = none := by
        cases ov with
        | none => rfl
        | some x => exact absurd rl.isSome (by simp)
      subst e0
      exact (p.mono (s2.trans s3)).now f3 r3 q4
    | some z' =>
      obtain ⟨w, rfl, rw⟩ := rl.some_of
      exact (p.mono (s2.trans s3)).now f3 rw q4
theorem any_py {x : D} : ∀ l : List D, ((pyAll l).any fun z => PyData.eqv z x.py) = l.any fun z => eqd z x
  | [] => rfl
  | d :: l => by
    show (PyData.eqv d.py x.py || (pyAll l).any fun z => PyData.eqv z x.py) = (eqd d x || l.any fun z => eqd z x)
    rw [any_py l]
    rfl
/-- x in l, where items are data of any depth -/
def gInD : G2 := fun M x y post => ∃ l, rsv M y = .lst l ∧ (rsv M x).dp ≤ 64 ∧ (D.lst l).dp ≤ 64 ∧ post (.bl (l.any fun z => eqd z (rsv M x))) M
def gNinD : G2 := fun M x y post => ∃ l, rsv M y = .lst l ∧ (rsv M x).dp ≤ 64 ∧ (D.lst l).dp ≤ 64 ∧ post (.bl (!l.any fun z => eqd z (rsv M x))) M
theorem o_inD {k : Nat} (hr : Room k X.A) : OpR X (compareOp .In) (rU2 X.K gInD) := OpR.imp (op_inD (by have := hr.un; omega)) fun x y H Q q => by
  obtain ⟨H0, M, d, e, post, fr, rx, ry, ⟨l, el, z1, z2, w⟩, p⟩ := q
  have h2 := rsv_data fr ry (by rw [el]; exact z2)
  rw [el] at h2
  refine ⟨_, pyAll l, (rsv_data fr rx z1).1, h2.1, (rsv_data fr rx z1).2, h2.2, ?_⟩
  rw [any_py]
  exact p.now fr (.bl _) w
theorem o_ninD {k : Nat} (hr : Room k X.A) : OpR X (compareOp .NotIn) (rU2 X.K gNinD) := OpR.imp (op_notInD (by have := hr.un; omega)) fun x y H Q q => by
  obtain ⟨H0, M, d, e, post, fr, rx, ry, ⟨l, el, z1, z2, w⟩, p⟩ := q
  have h2 := rsv_data fr ry (by rw [el]; exact z2)
  rw [el] at h2
  refine ⟨_, pyAll l, (rsv_data fr rx z1).1, h2.1, (rsv_data fr rx z1).2, h2.2, ?_⟩
  rw [any_py]
  exact p.now fr (.bl _) w
end
end FD

/-! the law's own layers: ways by their lengths; ways are ways -/
namespace FM
open PySem PySem.Spec PyProof.Rows L2 FD
def lawSteps (r : Rule) (a : Lit) : List Lit := ((steps r).filter fun q => decide (q.1 = a)).map (·.2)
abbrev KnN := List (Lit × Nat)
def abN (k : Kn) : KnN := k.map fun p => (p.1, p.2.length)
def ab (st : Kn × List Lit) : KnN × List Lit := (abN st.1, st.2)
def nK (k : KnN) : List (List Key × D) := k.map fun p => (litK p.1, D.int (p.2 : Int))
theorem lk_ab {k : Kn} {b : Lit} : (abN k).lookup b = (k.lookup b).map (·.length) := by
  induction k with
  | nil => rfl
  | cons p k ih =>
    obtain ⟨x, w⟩ := p
    show ((x, w.length) :: abN k).lookup b = _
    rw [List.lookup_cons, List.lookup_cons, ih]
    cases b == x <;> rfl
theorem val_nK {k : KnN} {b : Lit} : valD (nK k) (litK b) = (k.lookup b).map fun (n : Nat) => D.int (n : Int) := by
  induction k with
  | nil => rfl
  | cons p k ih =>
    obtain ⟨x, w⟩ := p
    show (if litK x = litK b then some (D.int (w : Int)) else valD (nK k) (litK b)) = _
    rw [List.lookup_cons, ih]
    by_cases h : x = b
    · subst h; simp
    · have h2 : (b == x) = false := by rw [beq_eq_false_iff_ne]; exact fun z => h z.symm
      rw [if_neg (fun z => h (litK_inj.mp z)), h2]
theorem put_nK {k : KnN} {b : Lit} {w : Nat} (h : (k.lookup b).isSome = false) : putD (nK k) (litK b) (.int (w : Int)) = nK (k ++ [(b, w)]) := by
  unfold putD
  rw [val_nK, Option.isSome_map, h]
  simp [nK]
def bN1 (one : Lit) (st : KnN × List Lit) (far : Lit) : KnN × List Lit :=
  if (st.1.lookup far).isSome = true then st else (st.1 ++ [(far, (st.1.lookup one).getD 0 + 1)], st.2 ++ [far])
def bNR (one : Lit) (st : KnN × List Lit) (r : Rule) : KnN × List Lit := (lawSteps r one).foldl (bN1 one) st
def bNO (rs : List Rule) (st : KnN × List Lit) (one : Lit) : KnN × List Lit := rs.foldl (bNR one) st
def bNL (rs : List Rule) (st : KnN × List Lit) : KnN × List Lit := st.2.foldl (bNO rs) (st.1, [])
theorem ab1 {one : Lit} {st : Kn × List Lit} {s : Nat × Lit} : bN1 one (ab st) s.2 = ab (bfs1 one st s) := by
  unfold bN1 bfs1 ab
  simp only [lk_ab, Option.isSome_map]
  cases hq : (st.1.lookup s.2).isSome with
  | true => simp
  | false =>
    simp only [Bool.false_eq_true, if_false]
    cases hw : st.1.lookup one <;> simp [abN]
theorem abF {one : Lit} : ∀ {l : Way} {st : Kn × List Lit}, (l.map (·.2)).foldl (bN1 one) (ab st) = ab (l.foldl (bfs1 one) st)
  | [], st => rfl
  | s :: l, st => by
    rw [List.map_cons, List.foldl_cons, ab1, abF]
    rfl
theorem abR {one : Lit} : ∀ {l : List (Rule × Nat)} {st : Kn × List Lit}, (l.map (·.1)).foldl (bNR one) (ab st) = ab ((stP l one).foldl (bfs1 one) st)
  | [], st => rfl
  | (r, i) :: l, st => by
    have e : stP ((r, i) :: l) one = (((steps r).filter fun q => decide (q.1 = one)).map fun q => (i, q.2)) ++ stP l one := rfl
    have e2 : lawSteps r one = (((steps r).filter fun q => decide (q.1 = one)).map fun q => (i, q.2)).map (·.2) := by unfold lawSteps; rw [List.map_map]; rfl
    rw [List.map_cons, List.foldl_cons, e, List.foldl_append]
    show List.foldl (bNR one) ((lawSteps r one).foldl (bN1 one) (ab st)) _ = _
    rw [e2, abF, abR]
theorem abO {rs : List Rule} {one : Lit} {st : Kn × List Lit} : bNO rs (ab st) one = ab (bfsO rs st one) := by
  unfold bNO bfsO
  have e : rs = rs.zipIdx.map (·.1) := by simp
  conv => lhs; rw [e]
  rw [abR, stP_eq]
theorem abL {rs : List Rule} : ∀ {l : List Lit} {st : Kn × List Lit}, l.foldl (bNO rs) (ab st) = ab (l.foldl (bfsO rs) st)
  | [], st => rfl
  | s :: l, st => by
    rw [List.foldl_cons, abO, abL]
    rfl
theorem abLL {rs : List Rule} {st : Kn × List Lit} : bNL rs (ab st) = ab (bfsL rs st.1 st.2) := by
  unfold bNL bfsL
  exact abL (st := (st.1, []))
/-- the states behind so many layers -/
def bIt (rs : List Rule) (a : Lit) : Nat → Kn × List Lit
  | 0 => ([(a, [])], [a])
  | n + 1 => bfsL rs (bIt rs a n).1 (bIt rs a n).2
def bNIt (rs : List Rule) (a : Lit) : Nat → KnN × List Lit
  | 0 => ([(a, 0)], [a])
  | n + 1 => bNL rs (bNIt rs a n)
theorem abIt {rs : List Rule} {a : Lit} : ∀ n, bNIt rs a n = ab (bIt rs a n)
  | 0 => rfl
  | n + 1 => by
    show bNL rs (bNIt rs a n) = _
    rw [abIt n, abLL]
    rfl
/-- the layers one after another, whatever is left -/
def bRun (rs : List Rule) : Nat → Kn × List Lit → Kn × List Lit
  | 0, st => st
  | n + 1, st => bRun rs n (bfsL rs st.1 st.2)
theorem bRun_nil {rs : List Rule} : ∀ {n : Nat} {k : Kn}, bRun rs n (k, []) = (k, [])
  | 0, k => rfl
  | n + 1, k => bRun_nil (n := n)
theorem bfs_run {rs : List Rule} : ∀ {n : Nat} {k : Kn} {layer : List Lit}, bfs rs n k layer = (bRun rs n (k, layer)).1
  | 0, k, layer => rfl
  | n + 1, k, layer => by
    unfold bfs
    by_cases h : layer = []
    · subst h
      rw [if_pos rfl, bRun_nil]
    · rw [if_neg h, bfs_run]
      rfl
theorem bRun_succ {rs : List Rule} : ∀ {n : Nat} {st : Kn × List Lit}, bRun rs (n + 1) st = bfsL rs (bRun rs n st).1 (bRun rs n st).2
  | 0, st => rfl
  | n + 1, st => by
    show bRun rs (n + 1) (bfsL rs st.1 st.2) = _
    rw [bRun_succ]
    rfl
theorem bIt_run {rs : List Rule} {a : Lit} : ∀ n, bIt rs a n = bRun rs n ([(a, [])], [a])
  | 0 => rfl
  | n + 1 => by
    rw [bRun_succ, ← bIt_run n]
    rfl
theorem wf_it {ss : List Str} {rs : List Rule} {a : Lit} : wf ss rs a = (bIt rs a (2 * ss.length + 1)).1 := by
  unfold wf
  rw [bfs_run, bIt_run]
theorem it_bw {ss : List Str} {rs : List Rule} (ok : InS ss rs) {a : Lit} (m : a.n ∈ ss) : ∀ n, BI ss rs a (bIt rs a n).1 ∧ ∀ b ∈ (bIt rs a n).2, b ∈ (bIt rs a n).1.map (·.1)
  | 0 => ⟨(bw_start (rs := rs) m).bi, (bw_start (rs := rs) m).lay⟩
  | n + 1 => by
    obtain ⟨h1, h2⟩ := it_bw ok m n
    obtain ⟨r, _⟩ := runL ok (bIt rs a n).2 ((bIt rs a n).1, []) h1 h2
    exact ⟨r.bi, r.lay fun b hb => by cases hb⟩
/-! ### ways are ways -/
inductive Path (rs : List Rule) : Lit → Way → Lit → Prop
  | nil (a : Lit) : Path rs a [] a
  | cons {a b : Lit} {s : Nat × Lit} {w : Way} (h : s ∈ stepsAt rs a) (t : Path rs s.2 w b) : Path rs a (s :: w) b
theorem Path.snoc {rs : List Rule} {a b : Lit} {w : Way} (h : Path rs a w b) {s : Nat × Lit} (hs : s ∈ stepsAt rs b) : Path rs a (w ++ [s]) s.2 := by
  induction h with
  | nil a => exact .cons hs (.nil _)
  | cons h t ih => exact .cons h (ih hs)
def PI (rs : List Rule) (a : Lit) (k : Kn) : Prop := ∀ q ∈ k, Path rs a q.2 q.1
theorem pi1 {rs : List Rule} {a one : Lit} {st : Kn × List Lit} {s : Nat × Lit} (h : PI rs a st.1) (ho : one ∈ st.1.map (·.1)) (hs : s ∈ stepsAt rs one) : PI rs a (bfs1 one st s).1 := by
  unfold bfs1
  cases hq : (st.1.lookup s.2).isSome with
  | true => simpa using h
  | false =>
    simp only [Bool.false_eq_true, if_false]
    intro q hq2
    rcases List.mem_append.mp hq2 with z | z
    · exact h q z
    · obtain ⟨w, hw⟩ := Option.isSome_iff_exists.mp (lk_iff.mpr ho)
      rw [List.mem_singleton.mp z, hw]
      exact (h _ (lookup_mem hw)).snoc hs
theorem piO {ss : List Str} {rs : List Rule} (ok : InS ss rs) {a one : Lit} : ∀ (l : Way) (_ : ∀ s ∈ l, s ∈ stepsAt rs one) (st : Kn × List Lit) (_ : BI ss rs a st.1) (_ : one ∈ st.1.map (·.1)) (_ : PI rs a st.1), PI rs a (l.foldl (bfs1 one) st).1
  | [], _, st, _, _, h => h
  | s :: l, hl, st, b, ho, h => by
    have r := (run1 ok b ho (hl s (List.mem_cons_self ..))).1
    exact piO ok l (fun x hx => hl x (List.mem_cons_of_mem _ hx)) _ r.bi (r.sub _ ho) (pi1 h ho (hl s (List.mem_cons_self ..)))
theorem piL {ss : List Str} {rs : List Rule} (ok : InS ss rs) {a : Lit} : ∀ (l : List Lit) (st : Kn × List Lit) (_ : BI ss rs a st.1) (_ : ∀ b ∈ l, b ∈ st.1.map (·.1)) (_ : PI rs a st.1), PI rs a (l.foldl (bfsO rs) st).1
  | [], st, _, _, h => h
  | o :: l, st, b, hl, h => by
    have r := (runO ok (stepsAt rs o) (fun _ h => h) st b (hl o (List.mem_cons_self ..))).1
    exact piL ok l _ r.bi (fun x hx => r.sub _ (hl x (List.mem_cons_of_mem _ hx))) (piO ok _ (fun _ h => h) st b (hl o (List.mem_cons_self ..)) h)
theorem it_pi {ss : List Str} {rs : List Rule} (ok : InS ss rs) {a : Lit} (m : a.n ∈ ss) : ∀ n, PI rs a (bIt rs a n).1
  | 0 => fun q hq => by
    rw [List.mem_singleton.mp hq]
    exact .nil _
  | n + 1 => by
    obtain ⟨h1, h2⟩ := it_bw ok m n
    exact piL ok (bIt rs a n).2 ((bIt rs a n).1, []) h1 h2 (it_pi ok m n)
theorem wf_path {ss : List Str} {rs : List Rule} (ok : InS ss rs) {a b : Lit} (m : a.n ∈ ss) {w : Way} (h : (wf ss rs a).lookup b = some w) : Path rs a w b := by
  rw [wf_it] at h
  exact it_pi ok m _ _ (lookup_mem h)
theorem step_law {rs : List Rule} {a : Lit} {s : Nat × Lit} (h : s ∈ stepsAt rs a) : ∃ r, rs[s.1]? = some r ∧ s.2 ∈ lawSteps r a := by
  unfold stepsAt at h
  simp only [List.mem_flatMap, List.mem_map, List.mem_filter, decide_eq_true_eq] at h
  obtain ⟨⟨r, k⟩, hp, q, ⟨hq, e⟩, rfl⟩ := h
  refine ⟨r, ?_, ?_⟩
  · have := List.mem_zipIdx_iff_getElem?.mp hp
    simpa using this
  · unfold lawSteps
    rw [List.mem_map]
    exact ⟨q, List.mem_filter.mpr ⟨hq, decide_eq_true e⟩, rfl⟩
theorem law_step {rs : List Rule} {a b : Lit} {r : Rule} (hr : r ∈ rs) (h : b ∈ lawSteps r a) : ∃ i, (i, b) ∈ stepsAt rs a := by
  unfold lawSteps at h
  simp only [List.mem_map, List.mem_filter, decide_eq_true_eq] at h
  obtain ⟨q, ⟨hq, rfl⟩, rfl⟩ := h
  exact stepsAt_iff.mpr ⟨r, hr, hq⟩
theorem wf_self {ss : List Str} {rs : List Rule} {a : Lit} (ok : InS ss rs) (m : a.n ∈ ss) : (wf ss rs a).lookup a = some [] := by
  have key : ∀ n, ∃ l, (bIt rs a n).1 = (a, []) :: l := by
    intro n
    induction n with
    | zero => exact ⟨[], rfl⟩
    | succ n ih =>
      have k1 : ∀ (one : Lit) (s : Nat × Lit) (st : Kn × List Lit), (∃ l, st.1 = (a, []) :: l) → ∃ l, (bfs1 one st s).1 = (a, []) :: l := by
        rintro one s st ⟨l, e⟩
        unfold bfs1
        split
        · exact ⟨l, e⟩
        · rw [e]; exact ⟨_, rfl⟩
      have k2 : ∀ (one : Lit) (w : Way) (st : Kn × List Lit), (∃ l, st.1 = (a, []) :: l) → ∃ l, (w.foldl (bfs1 one) st).1 = (a, []) :: l := by
        intro one w
        induction w with
        | nil => exact fun st h => h
        | cons s w iw => exact fun st h => iw _ (k1 one s st h)
      have k3 : ∀ (w : List Lit) (st : Kn × List Lit), (∃ l, st.1 = (a, []) :: l) → ∃ l, (w.foldl (bfsO rs) st).1 = (a, []) :: l := by
        intro w
        induction w with
        | nil => exact fun st h => h
        | cons s w iw => exact fun st h => iw _ (k2 s _ st h)
      exact k3 _ _ ih
  rw [wf_it]
  obtain ⟨l, e⟩ := key (2 * ss.length + 1)
  rw [e, List.lookup_cons]
  simp
theorem isDc_wf {M : Mem} {p : Pan} {a : Lit} : isDc M (wfD p a) = True := eq_true trivial
theorem optW_get {p : Pan} {a b : Lit} : (((wf p.ss p.rs a).lookup b).map wayD).getD .non = optW ((wf p.ss p.rs a).lookup b) := by
  cases (wf p.ss p.rs a).lookup b <;> rfl
def wnD (p : Pan) (a : Lit) : D := .dcT (nK (abN (wf p.ss p.rs a)))
theorem wn_at {M : Mem} {p : Pan} {a b : Lit} {c : Option D → Prop} : dAt M (wnD p a) (litD b) c = c (((wf p.ss p.rs a).lookup b).map fun w => D.int (w.length : Int)) := by
  unfold wnD
  rw [dAt_dcT, keyT_lit, got_so, val_nK, lk_ab, Option.map_map]
  rfl
theorem wn_some {p : Pan} {a b : Lit} : (((wf p.ss p.rs a).lookup b).map fun w => D.int (w.length : Int)).isSome = inW p.ss p.rs a b := by unfold inW; simp
def neededL (p : Pan) (a : Lit) : List Lit := (lits p.ss).filter fun b => inW p.ss p.rs a b
def RuleOk1 (r : Rule) : Prop := ∃ ss, ruleOk ss r = true
theorem isT_way {w : Way} {k : List D → Prop} : isT (wayD w) k = k (w.map stD) := rfl
theorem len_way {M : Mem} {w : Way} : lenD M (wayD w) = some (w.length : Int) := by
  unfold wayD
  rw [len_tup, List.length_map]
theorem ty_way {M : Mem} {w : Way} : tyN M (wayD w) = some "tuple" := rfl
theorem ty_st {M : Mem} {s : Nat × Lit} : tyN M (stD s) = some "tuple" := rfl
theorem len_st {M : Mem} {s : Nat × Lit} : lenD M (stD s) = some 2 := rfl
theorem ix_st0 {M : Mem} {s : Nat × Lit} {post : WK} : gIx M (stD s) (.int 0) post = post (.int (s.1 : Int)) M := rfl
theorem ix_st1 {M : Mem} {s : Nat × Lit} {post : WK} : gIx M (stD s) (.int 1) post = post (litD s.2) M := rfl
theorem steps_be {b : Lit} : steps (.be b) = [(b.op, b)] := by simp [steps, clauses, steps1]
theorem steps_either {b c : Lit} (h : b.n ≠ c.n) : steps (.either b c) = [(b.op, c), (c.op, b)] := by
  have h1 : b ≠ c := fun e => h (by rw [e])
  simp [steps, clauses, steps1, h1]
theorem steps_needs {b c : Lit} (h : b.n ≠ c.n) : steps (.needs b c) = [(b, c), (c.op, b.op)] := by
  have h1 : b.op ≠ c := fun e => h (by rw [← e]; rfl)
  simp [steps, clauses, steps1, h1, op_op]
theorem steps_bars {b c : Lit} (h : b.n ≠ c.n) : steps (.bars b c) = [(b, c.op), (c, b.op)] := by
  have h1 : b.op ≠ c.op := fun e => h (by rw [← op_n b, e]; rfl)
  simp [steps, clauses, steps1, h1, op_op]
theorem lawSteps_same {f : Bool} {x y : Str} (h : x ≠ y) {a : Lit} : lawSteps (.same f x y) a = if a.n = x then [⟨y, a.s⟩] else if a.n = y then [⟨x, a.s⟩] else [] := by
  obtain ⟨n, s⟩ := a
  have h2 : ¬ y = x := fun e => h e.symm
  have e : steps (.same f x y) = [(⟨x, true⟩, ⟨y, true⟩), (⟨y, false⟩, ⟨x, false⟩), (⟨x, false⟩, ⟨y, false⟩), (⟨y, true⟩, ⟨x, true⟩)] := by simp [steps, clauses, steps1, Lit.op, h]
  unfold lawSteps
  rw [e]
  by_cases h1 : n = x
  · subst h1
    cases s <;> simp [h2]
  · by_cases h3 : n = y
    · subst h3
      cases s <;> simp [h, h2]
    · have q1 : ¬ x = n := fun e => h1 e.symm
      have q2 : ¬ y = n := fun e => h3 e.symm
      simp [h1, h3, q1, q2]
theorem lawSteps_unlike {f : Bool} {x y : Str} (h : x ≠ y) {a : Lit} : lawSteps (.unlike f x y) a = if a.n = x then [⟨y, !a.s⟩] else if a.n = y then [⟨x, !a.s⟩] else [] := by
  obtain ⟨n, s⟩ := a
  have h2 : ¬ y = x := fun e => h e.symm
  have e : steps (.unlike f x y) = [(⟨x, false⟩, ⟨y, true⟩), (⟨y, false⟩, ⟨x, true⟩), (⟨x, true⟩, ⟨y, false⟩), (⟨y, true⟩, ⟨x, false⟩)] := by simp [steps, clauses, steps1, Lit.op, h]
  unfold lawSteps
  rw [e]
  by_cases h1 : n = x
  · subst h1
    cases s <;> simp [h2]
  · by_cases h3 : n = y
    · subst h3
      cases s <;> simp [h, h2]
    · have q1 : ¬ x = n := fun e => h1 e.symm
      have q2 : ¬ y = n := fun e => h3 e.symm
      simp [h1, h3, q1, q2]
end FM

/-! cells, draws of the first family -/
namespace FM
open PySem PySem.Spec PyProof.Rows L2 FD
section
variable {M : Mem} {a : Addr} {l : List D} {post : WK}
theorem seq_cell (h : M a = some (.lst l)) : seqOf M (.ptr a) = some l := by unfold seqOf; simp only [h]
theorem len_cell (h : M a = some (.lst l)) : lenD M (.ptr a) = some (l.length : Int) := by
  show (seqOf M (.ptr a)).map _ = _
  rw [seq_cell h]; rfl
theorem tuple_cell (h : M a = some (.lst l)) : gTuple M [.ptr a] post = post (.ftp l) M := by
  show (got (seqOf M (.ptr a)) fun l => post (.ftp l) M) = _
  rw [seq_cell h]; rfl
theorem ix_cell (h : M a = some (.lst l)) {i : Int} : gIx M (.ptr a) (.int i) post = got (atI l i) fun d => post d M := by
  show (got (seqOf M (.ptr a)) fun l' => got (atI l' i) fun d => post d M) = _
  rw [seq_cell h]; rfl
theorem ixN_lt {n k : Nat} (h : k < n) : ixN n (k : Int) = some k := by
  unfold ixN
  rw [if_pos (by omega), if_pos (by omega)]
  rfl
theorem pop_eq (h : M a = some (.lst l)) {i : Nat} (hi : i < l.length) : gPop M (.ptr a) [.int (i : Int)] post = post l[i] (M.upd a (.lst (l.eraseIdx i))) := by
  unfold gPop
  rw [one_one, isI_int, cell_eq h, ixN_lt hi, got_so, List.getElem?_eq_getElem hi, got_so]
end
theorem ix_pm {M : Mem} {v : Nat} {post : WK} (h : v < 2) : gIx M (.str (Str.ofString "+-")) (.int (v : Int)) post = post (.str (sg (decide (v = 0)))) M := by
  rw [FD.ix_str, pm_cps]
  have hv : v = 0 ∨ v = 1 := by omega
  rcases hv with rfl | rfl <;> (simp [sg_eq, sgc]; rfl)
theorem at_pm {v : Nat} {k : Nat → Prop} (h : v < 2) : got (atI (Str.ofString "+-").cps.toList (v : Int)) k = k (sgc (decide (v = 0))) := by
  rw [pm_cps]
  have hv : v = 0 ∨ v = 1 := by omega
  rcases hv with rfl | rfl <;> rfl
theorem join_signs : ∀ ts : List Bool, Str.join (Str.ofString "") (ts.map sg) = setS ts
  | [] => by decide +kernel
  | [b] => setS_one b
  | b :: c :: r => by
    have e : sg b ++ Str.ofString "" = sg b := by cases b <;> decide +kernel
    show sg b ++ Str.ofString "" ++ Str.join (Str.ofString "") ((c :: r).map sg) = _
    rw [join_signs (c :: r), e, setS_one b, setS_app]
    rfl
theorem sum_ones : ∀ ts : List Bool, ((ts.map sg).map (·.length)).sum = ts.length
  | [] => rfl
  | b :: r => by
    have e : (sg b).length = 1 := by cases b <;> decide +kernel
    rw [List.map_cons, List.map_cons, List.sum_cons, sum_ones r, e, List.length_cons, Nat.add_comm]
theorem jn_signs {M : Mem} {ts : List Bool} {post : WK} (h : ts.length ≤ 16777216) : gJn M (.str (Str.ofString "")) [.lst (ts.map fun b => D.str (sg b))] post = post (setD ts) M := by
  have e : (ts.map fun b => D.str (sg b)) = (ts.map sg).map D.str := by rw [List.map_map]; rfl
  have z : (Str.ofString "").length = 0 := by decide +kernel
  have ok := setS_ok h
  unfold gJn
  rw [one_one, isS_str]
  show (got (seqOf M (.lst (ts.map fun b => D.str (sg b)))) _) = _
  rw [seq_lst, got_so, e, txs_map, got_so, show Txt.join (Str.ofString "") (ts.map sg) = Str.join (Str.ofString "") (ts.map sg) from StrLaws.glued_eq_join _ _, join_signs, sum_ones, z]
  simp only [ok, Nat.mul_zero, Nat.add_zero, h, true_and]
  rfl
/-- M with another bag, and a cell more -/
def PJ (j p : Addr) (o : MO) (M M' : Mem) : Prop := ∃ a b c : Int, M' = (M.upd j (jg a b c)).upd p o
section
variable {j p : Addr} {o o' : MO} {M M' M2 : Mem}
theorem PJ.new (h : Jm j M M') : PJ j p o M (M'.upd p o) := let ⟨a, b, c, e⟩ := h; ⟨a, b, c, by rw [e]⟩
theorem PJ.step (ne : p ≠ j) (h : PJ j p o M M') (k : Jm j M' M2) : PJ j p o M M2 := by
  obtain ⟨a, b, c, rfl⟩ := h
  obtain ⟨a', b', c', rfl⟩ := k
  exact ⟨a', b', c', by rw [upd_comm ne, Mem.upd_upd]⟩
theorem PJ.set (h : PJ j p o M M') : PJ j p o' M (M'.upd p o') := by
  obtain ⟨a, b, c, rfl⟩ := h
  exact ⟨a, b, c, by rw [Mem.upd_upd]⟩
theorem PJ.jg (ne : p ≠ j) (h : PJ j p o M M') : Jg M' j := by
  obtain ⟨a, b, c, rfl⟩ := h
  exact ⟨a, b, c, by rw [Mem.upd_ne (Ne.symm ne), Mem.upd_same]⟩
theorem PJ.cell (h : PJ j p o M M') : M' p = some o := by
  obtain ⟨a, b, c, rfl⟩ := h
  exact Mem.upd_same
theorem PJ.out (ne : p ≠ j) (hp : M p = none) (h : PJ j p o M M') : ∃ M2, M2.le M' ∧ Jm j M M2 ∧ M2 p = none := by
  obtain ⟨a, b, c, rfl⟩ := h
  refine ⟨M.upd j (FM.jg a b c), Mem.le_upd ?_, ⟨a, b, c, rfl⟩, ?_⟩ <;> (rw [Mem.upd_ne ne]; exact hp)
theorem Jg.ne (h : Jg M j) (hp : M p = none) : p ≠ j := fun z => by
  obtain ⟨a, b, c, e⟩ := h
  rw [z, e] at hp; cases hp
theorem Jm.none (h : Jm j M M') (hp : M' p = none) : M p = none := by
  obtain ⟨a, b, c, rfl⟩ := h
  by_cases e : p = j
  · rw [e, Mem.upd_same] at hp; cases hp
  · rwa [Mem.upd_ne e] at hp
end
theorem any_lits {a : Lit} : ∀ ls : List Lit, ((ls.map litD).any fun z => eqd z (litD a)) = decide (a ∈ ls)
  | [] => by simp
  | b :: ls => by
    rw [List.map_cons, List.any_cons, any_lits ls, eqd_lit]
    by_cases h : b = a
    · subst h; simp
    · have h2 : ¬ a = b := fun z => h z.symm
      simp [h, h2]
theorem inD_lits {M : Mem} {a : Lit} {ls : List Lit} {post : WK} : gInD M (litD a) (.lst (ls.map litD)) post = post (.bl (decide (a ∈ ls))) M := by
  have d := dpAll_lits ls
  refine propext ⟨fun ⟨l, e, _, _, h⟩ => ?_, fun h => ⟨_, rfl, by show (litD a).dp ≤ 64; rw [dp_lit]; omega, by unfold D.dp; omega, ?_⟩⟩
  · cases (show D.lst (ls.map litD) = .lst l from e)
    rw [← any_lits]; exact h
  · show post (.bl ((ls.map litD).any fun z => eqd z (litD a))) M
    rw [any_lits]; exact h
theorem ninD_lits {M : Mem} {a : Lit} {ls : List Lit} {post : WK} : gNinD M (litD a) (.lst (ls.map litD)) post = post (.bl (!decide (a ∈ ls))) M := by
  have d := dpAll_lits ls
  refine propext ⟨fun ⟨l, e, _, _, h⟩ => ?_, fun h => ⟨_, rfl, by show (litD a).dp ≤ 64; rw [dp_lit]; omega, by unfold D.dp; omega, ?_⟩⟩
  · cases (show D.lst (ls.map litD) = .lst l from e)
    rw [← any_lits]; exact h
  · show post (.bl (!(ls.map litD).any fun z => eqd z (litD a))) M
    rw [any_lits]; exact h
theorem optW_some {w : Way} : optW (some w) = wayD w := rfl
theorem optW_none : optW none = D.non := rfl
theorem isNon_way {w : Way} : FD.isNon (wayD w) = false := rfl
theorem ne_way0 {M : Mem} {post : WK} : gNe M (wayD []) (.tup []) post = post (.bl false) M := by
  have e : eqd (wayD []) (.tup []) = true := by decide +kernel
  rw [ne_of_dp rfl rfl (by decide) (by decide), e]
  rfl
def pool14 : List Str := ["a", "b", "c", "ab", "lamp", "on", "switches", "x", "abcdefgh", "aa", "z", "not", "y", "ba"]
theorem pool_nd : pool14.Nodup := by decide +kernel
theorem pool_ok : ∀ s ∈ pool14, nameOk s = true := by decide +kernel
/-- drawn names: what was drawn and what is left -/
def Drawn (ss pool : List Str) : Prop := (ss ++ pool).Perm pool14
theorem erase_perm {α : Type} : ∀ (l : List α) (i : Nat) (h : i < l.length), ([l[i]] ++ l.eraseIdx i).Perm l
  | x :: l, 0, _ => .refl _
  | x :: l, i + 1, h => by
    have := erase_perm l i (by simpa using h)
    show (l[i]'(by simpa using h) :: x :: l.eraseIdx i).Perm (x :: l)
    exact (List.Perm.swap x _ _).trans (this.cons x)
theorem Drawn.pop {ss pool : List Str} (h : Drawn ss pool) {i : Nat} (hi : i < pool.length) : Drawn (ss ++ [pool[i]]) (pool.eraseIdx i) := by
  unfold Drawn at h ⊢
  refine List.Perm.trans ?_ h
  rw [List.append_assoc]
  refine List.Perm.append_left ss ?_
  exact erase_perm pool i hi
theorem Drawn.len {ss pool : List Str} (h : Drawn ss pool) : ss.length + pool.length = 14 := by
  have := h.length_eq
  rw [List.length_append] at this
  exact this
theorem Drawn.nd {ss pool : List Str} (h : Drawn ss pool) : ss.Nodup := (List.nodup_append.mp (h.nodup_iff.mpr pool_nd)).1
theorem Drawn.ok {ss pool : List Str} (h : Drawn ss pool) : ∀ s ∈ ss, nameOk s = true := fun s hs => pool_ok s (h.mem_iff.mp (List.mem_append_left _ hs))
theorem map_erase {α β : Type} {f : α → β} {l : List α} {i : Nat} : (l.map f).eraseIdx i = (l.eraseIdx i).map f := by
  induction l generalizing i with
  | nil => rfl
  | cons x l ih => cases i with
    | zero => rfl
    | succ i => simp [ih]
end FM

namespace FD
open PySem PySem.Spec PyProof.Rows L2
section
variable {X : Cx}
theorem rp_repl {K : PySem.W.Frag} {H : F} {xs : List V} {ds : List D} (h : RpAll K H xs ds) : ∀ n : Nat, RpAll K H (List.replicate n xs).flatten (List.replicate n ds).flatten
  | 0 => .nil
  | n + 1 => by
    rw [List.replicate_succ, List.replicate_succ, List.flatten_cons, List.flatten_cons]
    exact h.append (rp_repl h n)
theorem rep_len {α : Type} {l : List α} : ∀ n : Nat, (List.replicate n l).flatten.length = n * l.length
  | 0 => by simp
  | n + 1 => by rw [List.replicate_succ, List.flatten_cons, List.length_append, rep_len n, Nat.succ_mul, Nat.add_comm]
/-- l * n -/
def gMulL : G2 := fun M x y post => isI y fun n => match x with
  | .lst l => (0 ≤ n ∧ n ≤ 1000000 ∧ l.length * n.toNat ≤ 16777216) ∧ post (.lst (List.replicate n.toNat l).flatten) M
  | _ => False
theorem o_mulL : OpR X (binaryOp .Mult) (rU2 X.K gMulL) := OpR.imp op_rep fun x y H Q q => by
  obtain ⟨H0, M, d, e, post, fr, rx, ry, w, p⟩ := q
  obtain ⟨n, rfl, w⟩ := isI_of w
  cases ry
  cases rx with
  | @lst pa xs ds h ha hza =>
    obtain ⟨⟨h1, h2, h3⟩, w⟩ := w
    refine ⟨pa, n, xs, rfl, rfl, fr.sub _ _ h, by omega, by omega, by rw [ha.length]; exact line_of h3, fun q hq => ?_⟩
    have s0 : F.le H0 (H0.put q (.ice (.lst (List.replicate n.toNat xs).flatten))) := F.le_put (fr.fresh hq).1
    refine p _ _ _ _ M w (fr.ice hq) s0 (.lst (F.ice_eq F.put_same) ((rp_repl ha _).mono s0) ?_)
    rw [rep_len]
    exact line_of (by rw [Nat.mul_comm]; exact h3)
  | _ => exact w.elim
end
end FD
namespace FM
open PySem PySem.Spec PyProof.Rows L2 FD
theorem mulL2 {M : Mem} {d : D} {post : WK} : gMulL M (.lst [d]) (.int 2) post = post (.lst [d, d]) M := by
  show (((0 : Int) ≤ 2 ∧ (2 : Int) ≤ 1000000 ∧ [d].length * (2 : Int).toNat ≤ 16777216) ∧ post (.lst (List.replicate (2 : Int).toNat [d]).flatten) M) = _
  have e : (List.replicate (2 : Int).toNat [d]).flatten = [d, d] := rfl
  rw [e]
  simp
theorem rz_lit {a : Lit} (h : nameOk a.n = true) : ∃ n, rz (litD a) = some n ∧ n ≤ 200 := by
  obtain ⟨n, hn, ln⟩ := rz_names (ss := [a.n]) (fun s hs => by rw [List.mem_singleton.mp hs]; exact h)
  have e2 : rz (.str (sg a.s)) = some 12 := by cases a.s <;> decide +kernel
  have e1 : ∃ m, rz (.str a.n) = some m ∧ m ≤ 100 := by
    rw [List.map_cons, List.map_nil, rzAll] at hn
    cases q : rz (.str a.n) with
    | none => rw [q] at hn; cases hn
    | some m =>
      rw [q] at hn
      simp only [rzAll, Option.some.injEq] at hn
      simp only [List.length_cons, List.length_nil] at ln
      exact ⟨m, rfl, by omega⟩
  obtain ⟨m, e1, lm⟩ := e1
  refine ⟨m + 2 + (12 + 2 + 0) + 3, ?_, by omega⟩
  unfold litD rz rzAll
  rw [e1]
  unfold rzAll
  rw [e2]
  rfl
theorem rz_lits {ls : List Lit} (h : ∀ a ∈ ls, nameOk a.n = true) : ∃ n, rzAll (ls.map litD) = some n ∧ n ≤ 202 * ls.length := by
  induction ls with
  | nil => exact ⟨0, rfl, by simp⟩
  | cons a ls ih =>
    obtain ⟨n, hn, ln⟩ := ih fun x hx => h x (List.mem_cons_of_mem _ hx)
    obtain ⟨m, hm, lm⟩ := rz_lit (h a (by simp))
    exact ⟨m + 2 + n, by rw [List.map_cons, rzAll, hm, hn], by rw [List.length_cons]; omega⟩
theorem rep_lits2 {ls : List Lit} (h : ∀ a ∈ ls, nameOk a.n = true) (k : ls.length ≤ 1000) : RepOk (.lst [.ftp (ls.map litD), .ftp (ls.map litD)]) := by
  obtain ⟨n, hn, ln⟩ := rz_lits h
  have e : rz (.ftp (ls.map litD)) = some (n + 3) := by unfold rz; rw [hn]; rfl
  have d := dpAll_lits ls
  refine ⟨rfl, ?_, (n + 3) + 2 + ((n + 3) + 2 + 0) + 3, by unfold rz rzAll; rw [e]; unfold rzAll; rw [e]; rfl, by omega⟩
  simp only [D.dp, dpAll]
  omega
theorem needed_names {p : Pan} {a : Lit} : ∀ b ∈ neededL p a, nameOk b.n = true := fun b hb => p.sw.2.2.2 b.n (mem_lits.mp (List.mem_filter.mp hb).1)
theorem needed_len {p : Pan} {a : Lit} : (neededL p a).length ≤ 2 * p.ss.length := by
  have : (neededL p a).length ≤ (lits p.ss).length := List.length_filter_le ..
  rw [lits_len] at this
  exact this
theorem has_not {ss : List Str} {t : List Bool} {a : Lit} (h : hasL ss t a = false) : hasL ss t a.op = true := by rw [has_op, h]; rfl
/-- where a literal can hold, and another one need not, the one needs the other just if it always comes with it -/
theorem need_all {p : Pan} {a b : Lit} (ha : a.n ∈ p.ss) (hb : b.n ∈ p.ss) (h1 : ∃ t, t ∈ goodsL p.ss p.rs ∧ hasL p.ss t a = true) (h2 : ∃ t, t ∈ goodsL p.ss p.rs ∧ hasL p.ss t b = false) :
    inW p.ss p.rs a b = true ↔ ∀ t ∈ goodsL p.ss p.rs, hasL p.ss t a = true → hasL p.ss t b = true := by
  obtain ⟨t1, g1, k1⟩ := h1
  obtain ⟨t2, g2, k2⟩ := h2
  obtain ⟨l1, g1⟩ := mem_goods.mp g1
  obtain ⟨l2, g2⟩ := mem_goods.mp g2
  rw [inW_iff p.ru ha]
  refine ⟨fun n t ht h => sound (mem_goods.mp ht).2 n h, fun h => ?_⟩
  refine Classical.byContradiction fun nn => ?_
  have na : ¬ Need p.rs a a.op := fun z => by
    have := sound g1 z k1
    rw [has_op, k1] at this; cases this
  have nb : ¬ Need p.rs b.op b.op.op := fun z => by
    rw [op_op] at z
    have := sound g2 z (has_not k2)
    rw [k2] at this; cases this
  obtain ⟨t, lt, gt, ka, kb⟩ := both_good p.ru l1 g1 ha (show b.op.n ∈ p.ss from hb) na nb (by rw [op_op]; exact nn)
  have := h t (mem_goods.mpr ⟨lt, gt⟩) ka
  rw [has_op, this] at kb; cases kb
theorem every_succ {n : Nat} : every (n + 1) = (every n).flatMap fun t => [t ++ [true], t ++ [false]] := rfl
theorem flat2_len {l : List (List Bool)} : (l.flatMap fun t => [t ++ [true], t ++ [false]]).length = 2 * l.length := by
  induction l with
  | nil => rfl
  | cons a l ih => rw [List.flatMap_cons, List.length_append, ih, List.length_cons]; simp; omega
theorem wrong_from {ss : List Str} {t : List Bool} (d : Rule) : ∀ (rs : List Rule) (k : Nat) (full : List Rule), (∀ i, i < rs.length → full.getD (k + i) d = rs.getD i d) →
    ((rs.zipIdx k).filter fun p => !keepsR ss t p.1).map (·.2) = ((List.range' k rs.length).filter fun i => !keepsR ss t (full.getD i d))
  | [], k, full, _ => rfl
  | r :: rs, k, full, h => by
    have h0 : full.getD k d = r := by have := h 0 (by simp); simpa using this
    have ih := wrong_from (ss := ss) (t := t) d rs (k + 1) full (fun i hi => by
      have := h (i + 1) (by simp; omega)
      rw [show k + (i + 1) = k + 1 + i by omega] at this
      simpa using this)
    rw [List.zipIdx_cons, List.length_cons, List.range'_succ, List.filter_cons, List.filter_cons, h0]
    cases hk : keepsR ss t r
    · simp only [Bool.not_false, if_true, List.map_cons]
      rw [ih]
    · simp only [Bool.not_true, Bool.false_eq_true, if_false]
      rw [ih]
theorem wrongIx_range {ss : List Str} {rs : List Rule} {t : List Bool} {d : Rule} : wrongIx ss rs t = (List.range rs.length).filter fun i => !keepsR ss t (rs.getD i d) := by
  unfold wrongIx
  rw [List.range_eq_range']
  exact wrong_from d rs 0 rs fun i hi => by simp
theorem dpAll_sets : ∀ l : List (List Bool), dpAll (l.map setD) = 0
  | [] => rfl
  | a :: l => by
    rw [List.map_cons]
    show max (setD a).dp (dpAll (l.map setD)) = 0
    rw [dpAll_sets l]
    rfl
theorem ne_nil_iff {α : Type} {l : List α} : l.isEmpty = false ↔ ∃ x, x ∈ l := by
  cases l with
  | nil => simp
  | cons a l => simp
/-- what the law asks of needs -/
theorem need_law {p : Pan} {a b : Lit} (ha : a.n ∈ p.ss) (hb : b.n ∈ p.ss) (h1 : ((goodsL p.ss p.rs).filter fun t => hasL p.ss t a).isEmpty = false) (h2 : ((goodsL p.ss p.rs).filter fun t => !hasL p.ss t b).isEmpty = false) :
    inW p.ss p.rs a b = (((goodsL p.ss p.rs).filter fun t => hasL p.ss t a).filter fun t => !hasL p.ss t b).isEmpty := by
  obtain ⟨t1, h1⟩ := ne_nil_iff.mp h1
  obtain ⟨t2, h2⟩ := ne_nil_iff.mp h2
  rw [List.mem_filter] at h1 h2
  have key := need_all ha hb ⟨t1, h1⟩ ⟨t2, h2.1, by simpa using h2.2⟩
  rw [Bool.eq_iff_iff, key, List.isEmpty_iff, List.filter_eq_nil_iff]
  constructor
  · intro q t ht
    rw [List.mem_filter] at ht
    simp [q t ht.1 ht.2]
  · intro q t ht ka
    have := q t (List.mem_filter.mpr ⟨ht, ka⟩)
    simpa using this
end FM

namespace FD
open PySem PySem.Spec PyProof.Rows L2
/-- a loop over a few items, one after another -/
def unr (g : WG) (tb : WS) (E : DEnds) : List D → Env → Mem → Prop
  | [], Γ, M => E.nx Γ M
  | d :: ds, Γ, M => g d Γ M fun Γ2 M2 => tb { E with nx := unr g tb E ds, ct := unr g tb E ds, bk := E.nx } Γ2 M2
theorem unr_nil {g : WG} {tb : WS} {E : DEnds} : unr g tb E [] = E.nx := rfl
theorem unr_cons {g : WG} {tb : WS} {E : DEnds} {d : D} {ds : List D} {Γ : Env} {M : Mem} : unr g tb E (d :: ds) Γ M = g d Γ M fun Γ2 M2 => tb { E with nx := unr g tb E ds, ct := unr g tb E ds, bk := E.nx } Γ2 M2 := rfl
theorem for_unr {items : List D} {g : WG} {tb : WS} {E : DEnds} {Γ : Env} {M : Mem} (h : unr g tb E items Γ M) : ForI items noG g tb E Γ M := by
  refine ⟨fun i Γ' M' => unr g tb E (items.drop i) Γ' M', by simpa using h, fun _ _ _ _ => trivial, fun i d Γ' M' hd h => ?_, fun Γ' M' h => ?_⟩
  · obtain ⟨hi, e⟩ := List.getElem?_eq_some_iff.mp hd
    have h : unr g tb E (items.drop i) Γ' M' := h
    rw [List.drop_eq_getElem_cons hi, e] at h
    exact h
  · have h : unr g tb E (items.drop items.length) Γ' M' := h
    rw [List.drop_length] at h
    exact h
end FD
namespace FM
open PySem PySem.Spec PyProof.Rows L2 FD
theorem dp_rule {r : Rule} : (ruleD r).dp ≤ 2 := by
  cases r <;> simp [ruleD, D.dp, dpAll, dp_lit, dp_tp]
theorem dpAll_rules : ∀ l : List Rule, dpAll (l.map ruleD) ≤ 2
  | [] => by simp [dpAll]
  | r :: l => by
    have h := dp_rule (r := r)
    have h2 := dpAll_rules l
    simp only [List.map_cons, dpAll]
    omega
theorem ne_rules {M : Mem} {l : List Rule} {post : WK} : gNe M (.lst (l.map ruleD)) (.lst []) post = post (.bl (!l.isEmpty)) M := by
  have := dpAll_rules l
  rw [ne_lst_nil, isEmpty_map]
  exact propext ⟨fun h => h.2, fun h => ⟨by omega, h⟩⟩
theorem zip_without {k : Nat} : ∀ (rs : List Rule) (n : Nat), ((rs.zipIdx n).filter fun q => !decide (q.2 ∈ [n + k])).map (·.1) = rs.take k ++ rs.drop (k + 1) := by
  induction k with
  | zero =>
    intro rs n
    cases rs with
    | nil => rfl
    | cons r rs =>
      have key : ∀ (rs : List Rule) (m : Nat), n < m → ((rs.zipIdx m).filter fun q => !decide (q.2 ∈ [n + 0])).map (·.1) = rs := by
        intro rs
        induction rs with
        | nil => intro m _; rfl
        | cons r rs ih =>
          intro m hm
          rw [List.zipIdx_cons, List.filter_cons]
          have : (!decide (m ∈ [n + 0])) = true := by simp; omega
          rw [if_pos this, List.map_cons, ih (m + 1) (by omega)]
      rw [List.zipIdx_cons, List.filter_cons]
      have : ¬ ((!decide (n ∈ [n + 0])) = true) := by simp
      rw [if_neg this, key rs (n + 1) (by omega)]
      simp
  | succ k ih =>
    intro rs n
    cases rs with
    | nil => rfl
    | cons r rs =>
      rw [List.zipIdx_cons, List.filter_cons]
      have : (!decide (n ∈ [n + (k + 1)])) = true := by simp
      rw [if_pos this, List.map_cons]
      have h := ih rs (n + 1)
      rw [show n + 1 + k = n + (k + 1) by omega] at h
      rw [h]
      simp
theorem without_one {p : Pan} {k : Nat} : (p.without [k]).rs = p.rs.take k ++ p.rs.drop (k + 1) := by
  have := zip_without (k := k) p.rs 0
  rw [Nat.zero_add] at this
  exact this
theorem needless_mem {p : Pan} : ∀ i ∈ needlessL p, i < p.rs.length := fun i hi => by
  obtain ⟨q, hq, rfl⟩ := List.mem_map.mp hi
  have := List.mem_zipIdx (List.mem_filter.mp hq).1
  omega
theorem needless_len {p : Pan} : (needlessL p).length ≤ p.rs.length := by
  unfold needlessL
  rw [List.length_map]
  refine Nat.le_trans (List.length_filter_le ..) ?_
  rw [List.length_zipIdx]; exact Nat.le_refl _
theorem zip_filter {α : Type} (d : α) (f : α → Nat → Bool) : ∀ (l : List α) (k : Nat) (full : List α), (∀ i, i < l.length → full.getD (k + i) d = l.getD i d) →
    ((l.zipIdx k).filter fun q => f q.1 q.2).map (·.2) = (List.range' k l.length).filter fun i => f (full.getD i d) i
  | [], k, full, _ => rfl
  | r :: l, k, full, h => by
    have h0 : full.getD k d = r := by have := h 0 (by simp); simpa using this
    have ih := zip_filter d f l (k + 1) full (fun i hi => by
      have := h (i + 1) (by simp; omega)
      rw [show k + (i + 1) = k + 1 + i by omega] at this
      simpa using this)
    rw [List.zipIdx_cons, List.length_cons, List.range'_succ, List.filter_cons, List.filter_cons, h0]
    cases hk : f r k
    · simp only [Bool.false_eq_true, if_false]
      rw [ih]
    · simp only [if_true, List.map_cons]
      rw [ih]
def r0 : Rule := .be ⟨"", true⟩
def ndB (p : Pan) (k : Nat) : Bool := (goodsL p.ss (p.rs.take k ++ p.rs.drop (k + 1))).all fun t => keepsR p.ss t (p.rs.getD k r0)
theorem needless_range {p : Pan} : needlessL p = (List.range p.rs.length).filter (ndB p) := by
  unfold needlessL
  rw [List.range_eq_range', zip_filter r0 (fun r k => impliesB (p.without [k]) r) p.rs 0 p.rs fun i hi => by simp]
  refine List.filter_congr fun k hk => ?_
  have hk2 : k < p.rs.length := by rw [List.mem_range'] at hk; omega
  rw [implies_iff (p := p.without [k]) (p.ru _ (getD_mem _ hk2)), without_one]
  rfl
theorem rz_ints {l : List Nat} (h : ∀ i ∈ l, i ≤ 300) : ∃ n, rzAll (l.map rngE) = some n ∧ n ≤ 5 * l.length := by
  induction l with
  | nil => exact ⟨0, rfl, by simp⟩
  | cons a l ih =>
    obtain ⟨n, hn, ln⟩ := ih fun x hx => h x (List.mem_cons_of_mem _ hx)
    have ha := h a (by simp)
    have e : rz (rngE a) = some 3 := by
      unfold rngE rz
      rw [if_pos (by omega)]
    exact ⟨3 + 2 + n, by rw [List.map_cons, rzAll, e, hn], by rw [List.length_cons]; omega⟩
theorem dpAll_ints : ∀ l : List Nat, dpAll (l.map rngE) = 0
  | [] => rfl
  | a :: l => by
    rw [List.map_cons]
    show max (rngE a).dp (dpAll (l.map rngE)) = 0
    rw [dpAll_ints l]
    rfl
theorem rep_ints2 {l : List Nat} (h : ∀ i ∈ l, i ≤ 300) (k : l.length ≤ 1000) : RepOk (.lst [.ftp (l.map rngE), .ftp (l.map rngE)]) := by
  obtain ⟨n, hn, ln⟩ := rz_ints h
  have e : rz (.ftp (l.map rngE)) = some (n + 3) := by unfold rz; rw [hn]; rfl
  refine ⟨rfl, ?_, (n + 3) + 2 + ((n + 3) + 2 + 0) + 3, by unfold rz rzAll; rw [e]; unfold rzAll; rw [e]; rfl, by omega⟩
  simp only [D.dp, dpAll, dpAll_ints]
  omega
theorem implied_own {p : Pan} {r : Rule} (h : r ∈ p.rs) : impliesB p r = true := by
  rw [implies_iff (p.ru r h), List.all_eq_true]
  intro t ht
  have := (mem_goods.mp ht).2
  unfold good at this
  exact List.all_eq_true.mp this r h
theorem tup1_int {k : Nat} : D.tup [.int (k : Int)] = .tup ([k].map rngE) := rfl
end FM

/-! zip(t, x, y): a tuple and two texts -/
namespace FD
open PySem PySem.Spec PyProof.Rows L2
/-- the tuple at a as it stands at each turn, the signs of x and y; new triples -/
def Itz3 (K : PySem.W.Frag) (a : Addr) (x y : Str) : It :=
  ⟨fun i H => ∃ (xs : List V) (v : V), SqT K H a xs ∧ xs[i]? = some v ∧ i < x.cps.size ∧ i < y.cps.size,
   fun i H v H' => ∃ T u c d, v = .ref T ∧ H T = none ∧ H' = upd H T (.tup [u, .str ⟨#[c]⟩, .str ⟨#[d]⟩]) ∧ (∀ xs, SqT K H a xs → xs[i]? = some u) ∧ x.cps[i]? = some c ∧ y.cps[i]? = some d,
   fun i H => ∃ xs : List V, SqT K H a xs ∧ xs.length = i ∧ x.cps.size = i ∧ y.cps.size = i⟩
def Zt3 (z TI TO i1 i2 i3 a : Addr) (x y : Str) (tx ty : Tok) (i : Nat) (h : Heap) : Prop :=
  IsZip h z TI TO .none ∧ IsTupOf3 h TI (.ref i1) (.ref i2) (.ref i3) ∧ (∃ p q r, IsTupOf3 h TO p q r) ∧ h.IsTupleIter i1 a i ∧ h.IsStrIter i2 (strIterType x) x tx i ∧ h.IsStrIter i3 (strIterType y) y ty i
theorem turn_zip3 {P : Program} {w : World} {K : PySem.W.Frag} {elts : List Expr} {kk : Nat} {tpos : Pos} {z TI TO i1 i2 i3 a : Addr} {x y : Str} {tx ty : Tok} (S : ZipSep3 z TI TO i1 i2 i3 [i1, a] [i2] [i3]) (hai : a ≠ i1) :
    Turn P w K (.Tuple elts kk tpos) (Itz3 K a x y) [z, TI, TO, i1, i2, i3] z (Zt3 z TI TO i1 i2 i3 a x y tx ty) where
  mem := List.mem_cons_self ..
  obj := fun i h st c hc => by
    obtain ⟨hz, hTI, ⟨_, _, _, hTO⟩, ⟨o1, e1, _, d1⟩, ⟨o2, e2, _, d2⟩, ⟨o3, e3, _, d3⟩⟩ := st
    simp only [List.mem_cons, List.not_mem_nil, or_false] at hc
    rcases hc with rfl | rfl | rfl | rfl | rfl | rfl
    · exact ⟨_, hz, fun v z => nomatch z⟩
    · exact ⟨_, hTI, fun v z => nomatch z⟩
    · exact ⟨_, hTO, fun v z => nomatch z⟩
    · exact ⟨o1, e1, fun v z => by rw [d1] at z; cases z⟩
    · exact ⟨o2, e2, fun v z => by rw [d2] at z; cases z⟩
    · exact ⟨o3, e3, fun v z => by rw [d3] at z; cases z⟩
  keep := fun i h h' st k => by
    obtain ⟨hz, hTI, ⟨p, q, r, hTO⟩, h1, ⟨o2, e2, r2⟩, ⟨o3, e3, r3⟩⟩ := st
    exact ⟨k z (by simp) _ hz, k TI (by simp) _ hTI, ⟨p, q, r, k TO (by simp) _ hTO⟩, h1.at fun o e => k i1 (by simp) o e, ⟨o2, k i2 (by simp) o2 e2, r2⟩, ⟨o3, k i3 (by simp) o3 e3, r3⟩⟩
  item := by
    intro X hP hw hK hc i pins s σ H E I hf st hg
    subst hP hw hK
    obtain ⟨hz, hTI, ⟨p0, q0, r0, hTO⟩, h1, h2, h3⟩ := st
    obtain ⟨xs, v, hq, hv, lx, ly⟩ := hg
    obtain ⟨its, rv, pt, _⟩ := I.tuple hq
    obtain ⟨u, hu, ru⟩ := rv.get hv
    have hh : X.A.in1.handled = none := I.ok.hd hc
    have hl : i < its.toArray.size := by
      have := (List.getElem?_eq_some_iff.mp hu).1
      simpa using this
    have zl : z < s.heap.objs.size := Heap.lt_size hz
    have lt6 : ∀ c, c ∈ [z, TI, TO, i1, i2, i3] → c < s.heap.objs.size := fun c hm => by
      simp only [List.mem_cons, List.not_mem_nil, or_false] at hm
      rcases hm with e | e | e | e | e | e
      · rw [e]; exact zl
      · rw [e]; exact Heap.lt_size hTI
      · rw [e]; exact Heap.lt_size hTO
      · rw [e]; obtain ⟨_, q, _⟩ := h1; exact Heap.lt_size q
      · rw [e]; obtain ⟨_, q, _⟩ := h2; exact Heap.lt_size q
      · rw [e]; obtain ⟨_, q, _⟩ := h3; exact Heap.lt_size q
    refine wpAny_pyNext_zipD3_item S (Draws.tuple hh i1 a hai its.toArray) (Draws.text hh i2 x tx) (Draws.text hh i3 y ty) hz hTI hTO ⟨h1, pt⟩ h2 h3 hl lx ly fun x1 x2 x3 h' tk y1 y2 y3 z' TO' s1' s2' s3' hT hsz hk => ?_
    obtain ⟨c, t2, hcx, rfl⟩ := y2
    obtain ⟨d, t3, hdy, rfl⟩ := y3
    have e1 : x1 = u := by
      have q : its[i]? = some x1 := by simpa using y1
      rw [hu] at q; exact (Option.some.inj q).symm
    subst e1
    refine ⟨_, rfl, wpAny_letOwnedTupleGo_zip (s := { s with heap := h', toks := tk }) z' fun h'' z'' sb => ?_⟩
    have hT2 : h''.get? s.heap.objs.size = some { cls := .type "tuple", data := .seq #[x1, .str ⟨#[c]⟩ t2, .str ⟨#[d]⟩ t3] } := (sb.2 _ (Nat.ne_of_gt zl)).trans hT
    have new : ObjOk X.prog X.w (upd H s.heap.objs.size (.tup [v, .str ⟨#[c]⟩, .str ⟨#[d]⟩])) h'' s.heap.objs.size (.tup [v, .str ⟨#[c]⟩, .str ⟨#[d]⟩]) :=
      ⟨by show 3 ≤ sizeLine; decide, [x1, .str ⟨#[c]⟩ t2, .str ⟨#[d]⟩ t3], .cons ru (.cons ⟨t2, rfl⟩ (.cons ⟨t3, rfl⟩ .nil)), ⟨_, hT2, rfl, _, rfl⟩⟩
    have stay : ∀ b o, b ∉ [z, TI, TO, i1, i2, i3] → s.heap.get? b = some o → h''.get? b = some o := fun b o hb q => by
      simp only [List.mem_cons, List.not_mem_nil, or_false, not_or] at hb
      exact (sb.2 b hb.1).trans (hk b o hb.1 hb.2.2.1 hb.2.2.2.1 hb.2.2.2.2.1 hb.2.2.2.2.2 q)
    have I1 : Inv X pins σ (upd H s.heap.objs.size (.tup [v, .str ⟨#[c]⟩, .str ⟨#[d]⟩])) { s with heap := h'', toks := tk } :=
      I.turnedNew (t' := tk) (ch := [z, TI, TO, i1, i2, i3]) stay hf (Nat.le_refl _) new
    have zi1 : i1 ≠ z := fun e => S.zf1 (by rw [← e]; simp)
    have zi2 : i2 ≠ z := fun e => S.zf2 (by rw [← e]; simp)
    have zi3 : i3 ≠ z := fun e => S.zf3 (by rw [← e]; simp)
    refine ⟨.ref s.heap.objs.size, _, I1, rfl, ⟨_, v, c, d, rfl, I.hok.fresh (Nat.le_refl _), rfl, fun l hl => by rw [I.tuple_inj hl hq]; exact hv, hcx, hdy⟩, ⟨z'', ?_, ⟨x1, .str ⟨#[c]⟩ t2, .str ⟨#[d]⟩ t3, ?_⟩, ?_, ?_, ?_⟩, fun b hb => ?_⟩
    · exact (sb.2 _ S.TIz).trans (hk _ _ S.TIz S.TITO S.TIi1 S.TIi2 S.TIi3 hTI)
    · exact (sb.2 _ S.TOz).trans TO'
    · exact s1'.1.at fun o q => (sb.2 _ zi1).trans q
    · obtain ⟨o, e, r⟩ := s2'
      exact ⟨o, (sb.2 _ zi2).trans e, r⟩
    · obtain ⟨o, e, r⟩ := s3'
      exact ⟨o, (sb.2 _ zi3).trans e, r⟩
    · rw [upd_ne (Nat.ne_of_lt (lt6 b hb))]
      exact (hf b hb).1
  done := by
    intro X hP hw hK hc i pins s σ H E I hf st hg
    subst hP hw hK
    obtain ⟨hz, hTI, ⟨p0, q0, r0, hTO⟩, h1, h2, h3⟩ := st
    obtain ⟨xs, hq, l1, l2, l3⟩ := hg
    obtain ⟨its, rv, pt, _⟩ := I.tuple hq
    have hh : X.A.in1.handled = none := I.ok.hd hc
    have el : its.toArray.size = i := by
      have := rv.length
      simp; omega
    refine wpAny_pyNext_zipD3_end S (Draws.tuple hh i1 a hai its.toArray) (Draws.text hh i2 x tx) (Draws.text hh i3 y ty) hz hTI hTO ⟨h1, pt⟩ h2 h3 (by omega) (by omega) (by omega) (.inl el.symm) fun h' tk hk => ⟨rfl, I.turnedL (t' := tk) (ch := [z, TI, TO, i1, i2, i3]) (fun b o hb q => ?_) hf⟩
    simp only [List.mem_cons, List.not_mem_nil, or_false, not_or] at hb
    exact hk b o hb.1 hb.2.2.1 hb.2.2.2.1 hb.2.2.2.2.1 hb.2.2.2.2.2 q
  self := fun A i s Q E st h => wpAny_pyIter_zip st.1 h
def iZip3 (K : PySem.W.Frag) (ta : TA) : TI := fun σ H R => ta σ H fun vs H1 => ∃ a xs x y, vs = [.ref a, .str x, .str y] ∧ SqT K H1 a xs ∧ R (Itz3 K a x y) H1
theorem nin1 {x n : Nat} (h : x ≠ n) : x ∉ [n] := fun m => h (List.mem_singleton.mp m)
theorem nin2 {x n a : Nat} (h : x ≠ n) (k : x ≠ a) : x ∉ [n, a] := fun m => by
  rcases List.mem_cons.mp m with e | e
  · exact h e
  · exact k (List.mem_singleton.mp e)
theorem sep3 (n a : Nat) (h : a < n) : ZipSep3 (n + 5) (n + 3) (n + 4) n (n + 1) (n + 2) [n, a] [n + 1] [n + 2] where
  TIz := show n + 3 ≠ n + 5 by omega
  TOz := show n + 4 ≠ n + 5 by omega
  TITO := show n + 3 ≠ n + 4 by omega
  TIi1 := show n + 3 ≠ n by omega
  mem1 := by simp
  zf1 := nin2 (by omega) (by omega)
  Tf1 := nin2 (by omega) (by omega)
  TIi2 := show n + 3 ≠ n + 1 by omega
  mem2 := by simp
  zf2 := nin1 (by omega)
  Tf2 := nin1 (by omega)
  TIi3 := show n + 3 ≠ n + 2 by omega
  mem3 := by simp
  zf3 := nin1 (by omega)
  Tf3 := nin1 (by omega)
  sep1_2 := nin1 (by omega)
  sep1_3 := nin1 (by omega)
  sep2_1 := nin2 (by omega) (by omega)
  sep2_3 := nin1 (by omega)
  sep3_1 := nin2 (by omega) (by omega)
  sep3_2 := nin1 (by omega)
theorem zip3_run {X : Cx} {pins : List (Addr × Obj)} {σ : L2.St} {H1 : Hp} {s1 : Shared} {elts : List Expr} {kk : Nat} {tpos : Pos} {R : It → Hp → Prop} {a : Addr} {xs : List V} {x y : Str} {tx ty : Tok} (I1 : Inv X pins σ H1 s1) (hq : SqT X.K H1 a xs) (q : R (Itz3 X.K a x y) H1) :
    wpAny (model X.prog X.w) X.A (call (.type "zip") [.ref a, .str x tx, .str y ty]) (fun v s2 => wpAny (model X.prog X.w) X.A (pyIter v) (PIE X pins σ (.Tuple elts kk tpos) R) X.xe s2) X.xe s1 := by
  obtain ⟨its, rv, pt, _⟩ := I1.tuple hq
  have al : a < s1.heap.objs.size := by obtain ⟨o, ho, _⟩ := id pt; exact Heap.lt_size ho
  refine zip_begins3 (begins_tuple a its.toArray) (begins_text x tx) (begins_text y ty) pt trivial trivial fun h' hz hTI hTO g1 g2 g3 hsz hk => wpAny_pyIter_zip hz ?_
  have I2 : Inv X pins σ H1 { s1 with heap := h' } := I1.kept (t' := s1.toks) hk
  generalize hn : s1.heap.objs.size = n at *
  have fresh6 : ∀ c, c ∈ [n + 5, n + 3, n + 4, n, n + 1, n + 2] → FpOk X pins H1 c := fun c hcm => by
    have hle : s1.heap.objs.size ≤ c := by
      simp only [List.mem_cons, List.not_mem_nil, or_false] at hcm
      omega
    exact I1.fpOk hle (I1.hok.fresh hle)
  exact ⟨n + 5, [n + 5, n + 3, n + 4, n, n + 1, n + 2], Zt3 (n + 5) (n + 3) (n + 4) n (n + 1) (n + 2) a x y tx ty, Itz3 X.K a x y, H1, rfl, I2, turn_zip3 (sep3 n a al) (Nat.ne_of_lt al), ⟨hz, hTI, ⟨_, _, _, hTO⟩, ⟨_, g1, rfl, rfl⟩, ⟨_, g2, rfl, rfl⟩, ⟨_, g3, rfl, rfl⟩⟩, fresh6, q⟩
theorem pi_zip3 {X : Cx} {e e2 e3 : Expr} {ta : TA} {p pos tpos : Pos} {elts : List Expr} {kk : Nat} (hg : Gl X "zip") (hm : X.mg "zip" = none) (ha : PA X [e, e2, e3] ta)
    (hs : starEach [e, e2, e3] X.env = (false, eval e X.env) :: starEach [e2, e3] X.env := by rfl) (hpl : (backTo pos (starEach [e2, e3] X.env)).any (·.1) = false := by rfl) :
    PI X (.Tuple elts kk tpos) (.Call (.Name "zip" p) [e, e2, e3] [] pos) (iZip3 X.K ta) := by
  refine ⟨fun pins s σ H R I h => ?_⟩
  refine Call_ (ld_blt I hg hm PyProof.Rows.boot_zip (PyProof.Rows.callWith_type1 (thn (ha.run pos pins s σ H _ I h) fun us s1 ⟨vs, H1, I1, r1, q1⟩ => ?_) hs hpl))
  obtain ⟨a, xs, x, y, ev, hq, q⟩ := q1
  subst ev
  cases r1 with
  | cons ra rr =>
    cases rr with
    | cons rx rr =>
      cases rr with
      | cons ry rr =>
        cases rr
        cases ra
        obtain ⟨tx, e1⟩ := rx
        obtain ⟨ty, e2⟩ := ry
        subst e1
        subst e2
        exact zip3_run I1 hq q
/-! as data -/
def zip3D : List D → List Nat → List Nat → List D
  | d :: l, c :: cs, e :: es => .tup [d, .str ⟨#[c]⟩, .str ⟨#[e]⟩] :: zip3D l cs es
  | _, _, _ => []
theorem zip3D_len : ∀ {l : List D} {cs es : List Nat}, l.length = cs.length → es.length = cs.length → (zip3D l cs es).length = l.length
  | [], _, _, _, _ => by simp [zip3D]
  | d :: l, [], _, h, _ => by simp at h
  | d :: l, c :: cs, [], _, h => by simp at h
  | d :: l, c :: cs, e :: es, h1, h2 => by
    show (zip3D l cs es).length + 1 = l.length + 1
    rw [zip3D_len (by simpa using h1) (by simpa using h2)]
theorem zip3D_get : ∀ {l : List D} {cs es : List Nat} {i : Nat} {d : D} {c e : Nat}, l[i]? = some d → cs[i]? = some c → es[i]? = some e → (zip3D l cs es)[i]? = some (.tup [d, .str ⟨#[c]⟩, .str ⟨#[e]⟩])
  | [], _, _, i, _, _, _, h, _, _ => by simp at h
  | x :: l, [], _, i, _, _, _, _, h, _ => by simp at h
  | x :: l, y :: cs, [], i, _, _, _, _, _, h => by simp at h
  | x :: l, y :: cs, z :: es, 0, d, c, e, h1, h2, h3 => by
    simp at h1 h2 h3
    subst h1; subst h2; subst h3
    rfl
  | x :: l, y :: cs, z :: es, i + 1, d, c, e, h1, h2, h3 => by
    show (zip3D l cs es)[i]? = _
    exact zip3D_get (by simpa using h1) (by simpa using h2) (by simpa using h3)
theorem walkD_zip3 {K : PySem.W.Frag} {a : Addr} {xs : List V} {ds : List D} {x y : Str} {H0 : F} (hx : sOk x = true) (hy : sOk y = true) (hs : SqT K H0.ice a xs) (ha : RpAll K H0 xs ds) (hz : ds.length ≤ sizeLine) (e1 : ds.length = x.cps.toList.length) (e2 : y.cps.toList.length = x.cps.toList.length) :
    DWalk K (Itz3 K a x y) (zip3D ds x.cps.toList y.cps.toList) noG H0 := by
  have hl := zip3D_len e1 e2
  have lx : x.cps.toList.length = x.cps.size := Array.length_toList
  have ly : y.cps.toList.length = y.cps.size := Array.length_toList
  have xl := ha.length
  refine ⟨⟨fun H => SqT K H a xs, fun i H v H' => ∃ T u c d, v = .ref T ∧ H T = none ∧ H' = upd H T (.tup [u, .str ⟨#[c]⟩, .str ⟨#[d]⟩]) ∧ xs[i]? = some u ∧ x.cps[i]? = some c ∧ y.cps[i]? = some d, ⟨fun i H hi q => ?_, fun H q => ?_, fun i H v H' hi q yd => ?_⟩, fun H' H0' M' f s _ => seqT_mono (s.trans f.sub) hs, fun i H v H' H0' M' d hd f s _ yd => ?_⟩, by rw [hl]; exact hz⟩
  · rw [hl] at hi
    exact ⟨xs, xs[i]'(by omega), q, List.getElem?_eq_getElem (by omega), by omega, by omega⟩
  · exact ⟨xs, q, by omega, by omega, by omega⟩
  · obtain ⟨T, u, c, d, h1, h2, h3, h4, h5, h6⟩ := yd
    exact ⟨T, u, c, d, h1, h2, h3, h4 xs q, h5, h6⟩
  · obtain ⟨T, u, c, d2, rfl, hT, rfl, hu, hc, hd2⟩ := yd
    obtain ⟨d', e3, r⟩ := ha.getV hu
    have hc2 : x.cps.toList[i]? = some c := by simpa using hc
    have hd3 : y.cps.toList[i]? = some d2 := by simpa using hd2
    rw [zip3D_get e3 hc2 hd3] at hd
    cases hd
    have s0 : F.le H0' (H0'.put T (.ice (.tup [u, .str ⟨#[c]⟩, .str ⟨#[d2]⟩]))) := F.le_put (f.fresh hT).1
    exact ⟨_, f.ice hT, s0, .tup (F.ice_eq F.put_same) (.cons ((r.mono' s).mono s0) (.cons (.str _ (sOk_sign hx (List.mem_of_getElem? hc2))) (.cons (.str _ (sOk_sign hy (List.mem_of_getElem? hd3))) .nil))) (by show 3 ≤ sizeLine; decide)⟩
def iZip3D (w : WA) : WI := fun Γ M post => w Γ M fun ds M1 => ∃ d x y, ds = [d, .str x, .str y] ∧ isT d fun l => (l.length = x.cps.toList.length ∧ y.cps.toList.length = x.cps.toList.length) ∧ post (zip3D l x.cps.toList y.cps.toList) noG M1
theorem di_zip3 {X : Cx} {e e2 e3 : Expr} {w : WA} {p pos tpos : Pos} {elts : List Expr} {kk : Nat} (hm : X.mg "zip" = none) (ha : DA X [e, e2, e3] w) (hg : Gl X "zip" := by rfl)
    (hs : starEach [e, e2, e3] X.env = (false, eval e X.env) :: starEach [e2, e3] X.env := by rfl) (hpl : (backTo pos (starEach [e2, e3] X.env)).any (·.1) = false := by rfl) :
    DI X (.Tuple elts kk tpos) (.Call (.Name "zip" p) [e, e2, e3] [] pos) (iZip3D w) :=
  PI.weak (pi_zip3 hg hm ha hs hpl) fun σ H R h => by
    obtain ⟨H0, Γ, M, post, f, en, hw, p⟩ := h
    refine ⟨H0, Γ, M, _, f, en, hw, fun vs ds H' H0' M' q f' s r => ?_⟩
    obtain ⟨d, x, y, rfl, q⟩ := q
    obtain ⟨l, et, ⟨e1, e2⟩, q⟩ := isT_of q
    cases r with
    | cons r t =>
      cases t with
      | cons r2 t =>
        cases t with
        | cons r3 t =>
          cases t
          cases r2 with
          | str _ hx =>
            cases r3 with
            | str _ hy =>
              obtain ⟨a, xs, rfl, hq, hra, hz⟩ := r.tupl et
              exact ⟨a, xs, x, y, rfl, seqT_mono f'.sub hq, p _ noG _ H' H0' M' q f' s (walkD_zip3 hx hy hq hra hz e1 e2)⟩
end FD

namespace FD
open PySem PySem.Spec PyProof.Rows L2
section
variable {X : Cx}
/-! ### three names -/
def three (l : List D) (k : D → D → D → Prop) : Prop := match l with
  | [x, y, z] => k x y z
  | _ => False
theorem three_of {l : List D} {k : D → D → D → Prop} (h : three l k) : ∃ x y z, l = [x, y, z] ∧ k x y z := by
  match l, h with
  | [x, y, z], h => exact ⟨x, y, z, rfl, h⟩
theorem three_three {x y z : D} {k : D → D → D → Prop} : three [x, y, z] k = k x y z := rfl
def t3 (i j l : Nat) : GD := fun d Γ post => isT d fun q => three q fun x y z => post (((Γ.set i (some x)).set j (some y)).set l (some z))
theorem t3_e (i j l : Nat) : FD.t3 i j l = (fun d Γ post => isT d fun q => three q fun x y z => post (((Γ.set i (some x)).set j (some y)).set l (some z)) : GD) := rfl
theorem set3 {α : Type} {i j l : Nat} (hij : i ≠ j) (hil : i ≠ l) (hjl : j ≠ l) (s : List α) (a b c x y z : α) : (((((s.set l c).set j b).set i a).set i x).set j y).set l z = ((s.set i x).set j y).set l z := by
  apply List.ext_getElem?
  intro k
  simp only [List.getElem?_set, List.length_set]
  by_cases h1 : l = k
  · subst h1; simp
  · by_cases h2 : j = k
    · subst h2; simp [h1, Ne.symm hjl]
    · by_cases h3 : i = k
      · subst h3; simp [h1, h2]
      · simp [h1, h2, h3]
theorem wipe3 {i j l : Nat} (hij : i ≠ j) (hil : i ≠ l) (hjl : j ≠ l) (σ : L2.St) (x y z : Option V) : wipe (((((wipe σ [i, j, l])).set i x).set j y).set l z) [i, j, l] = wipe σ [i, j, l] := by
  show ((((((((σ.set l none).set j none).set i none).set i x).set j y).set l z).set l none).set j none).set i none = ((σ.set l none).set j none).set i none
  apply List.ext_getElem?
  intro k
  simp only [List.getElem?_set, List.length_set]
  by_cases h3 : i = k
  · subst h3; simp
  · by_cases h2 : j = k
    · subst h2; simp [h3]
    · by_cases h1 : l = k
      · subst h1; simp [h2, h3]
      · simp [h1, h2, h3]
theorem tgt3 {K : PySem.W.Frag} {i j l : Nat} (hij : i ≠ j) (hil : i ≠ l) (hjl : j ≠ l) : Tgt K (L2.gTup K 3 (gCons (gName i) (gCons (gName j) (gCons (gName l) gNil)))) [i, j, l] (t3 i j l) := by
  refine ⟨fun v d σ H H0 M Γ post Q f e r w q => ?_⟩
  obtain ⟨ls, et, w⟩ := isT_of w
  obtain ⟨x, y, z, rfl, w⟩ := three_of w
  obtain ⟨a, xs, rfl, hs, ha, hz⟩ := r.tupl et
  cases ha with
  | @cons vx _ _ _ r1 ha2 =>
    cases ha2 with
    | @cons vy _ _ _ r2 ha3 =>
      cases ha3 with
      | @cons vz _ _ _ r3 ha4 =>
        cases ha4
        refine ⟨a, [vx, vy, vz], rfl, seqT_mono f.sub hs, rfl, vx, [vy, vz], rfl, vy, [vz], rfl, vz, [], rfl, rfl, q _ _ (wipe3 hij hil hjl _ _ _ _) ?_ w⟩
        have k := (((((e.unset l).unset j).unset i).set i r1).set j r2).set l r3
        rw [set3 hij hil hjl Γ] at k
        exact k
/-! ### a comprehension of two, stored -/
section
variable {elt iter tg : Expr} {ifs : List Expr} {scope : Scope} {own : List (Str × Nat)} {pos : Pos} {wi : WI} {gd : GD} {tt : WT} {te : WE}
theorem ds_setLc2 {i : Nat} {y : Str} {py spos : Pos} {tg1 iter1 : Expr} {ifs1 : List Expr} {vs1 : List Nat} {wj : WI} {ge : GD} {tu : WT} {g g1 : TG} (hc : X.calm = true) (hN : X.N.Nodup) (hi : DI X tg iter wi) (ok : BlkOk X.N X.env.scope scope own) (hv : ∀ i ∈ vs1, i ∈ own.map (·.2))
    (tgt : Tgt X.K g (own.map (·.2)) gd) (tgt1 : Tgt X.K g1 vs1 ge) (hg : Bk X scope fun Y => PG Y tg g) (ht : Bk X scope fun Y => DTs Y ifs tt) (hi1 : Bk X scope fun Y => DI Y tg1 iter1 wj) (hg1 : Bk X scope fun Y => PG Y tg1 g1) (ht1 : Bk X scope fun Y => DTs Y ifs1 tu)
    (he : Bk X scope fun Y => DE Y elt te) (hsw : swapsWith (.ListComp elt [⟨tg, iter, ifs, 0⟩, ⟨tg1, iter1, ifs1, 0⟩] scope pos) (some (.Name y py)) spos.line X.env = pure true) (hy : X.N[i]? = some y := by rfl) (hyl : X.env.scope.names.lookup y = some .local := by rfl)
    (hs : ∀ x, foldedSetIterable iter X.env x = pure x := by intro _; rfl) (hs1 : ∀ env x, foldedSetIterable iter1 env x = pure x := by intro _ _; rfl) :
    DS X (.Assign [.Name y py] (.ListComp elt [⟨tg, iter, ifs, 0⟩, ⟨tg1, iter1, ifs1, 0⟩] scope pos) spos) (sAsg (wLc2 wi gd tt wj ge tu te) (gSet i)) :=
  PS.weak (ps_setLc2 hc hN hy hyl hsw hi ok hv hg ht hi1 hg1 ht1 he hs hs1) fun E σ H h => by
    obtain ⟨H0, Γ, M, post, f, e, hw, p⟩ := h
    exact up_lc2 tgt tgt1 ⟨H0, Γ, M, _, f, e, hw, fun v d H' H0' M' q f' s r => p.nx (σ.set i (some v)) (Γ.set i (some d)) H' H0' M' q f' s ((e.mono s).set i r)⟩
end
/-! ### x in t, where items are data of any depth -/
def rInT (K : PySem.W.Frag) (neg : Bool) : R2 := fun x y H Q => ∃ d ds, Dp K H x d ∧ Dp K H y (.tuple ds) ∧ SeqAt.shaped d = true ∧ SeqAt.shaped (.tuple ds) = true ∧ Q (.bl (neg != ds.any fun z => PyData.eqv z d)) H
theorem op_inT (hu : X.A.units + 65 < cLine) : OpR X (compareOp .In) (rInT X.K false) := by
  rintro pins s σ H x y v u Q I rx ry ⟨d, ds, hd, he, sd, se, q⟩
  obtain ⟨_, r1⟩ := Dp.reads I d x v hd rx
  obtain ⟨_, r2⟩ := Dp.reads I (.tuple ds) y u he ry
  refine SeqAt.in_tuple_reads r2 r1 (SeqAt.canLay_of_shaped se) (SeqAt.canLay_of_shaped sd) (room_in_shaped sd hu) ⟨.bl _, H, I, rfl, ?_⟩
  simpa using q
theorem op_ninT (hu : X.A.units + 65 < cLine) : OpR X (compareOp .NotIn) (rInT X.K true) := by
  rintro pins s σ H x y v u Q I rx ry ⟨d, ds, hd, he, sd, se, q⟩
  obtain ⟨_, r1⟩ := Dp.reads I d x v hd rx
  obtain ⟨_, r2⟩ := Dp.reads I (.tuple ds) y u he ry
  refine SeqAt.notIn_tuple_reads r2 r1 (SeqAt.canLay_of_shaped se) (SeqAt.canLay_of_shaped sd) (room_in_shaped sd hu) ⟨.bl _, H, I, rfl, ?_⟩
  simpa using q
def gInT : G2 := fun M x y post => ∃ l, tupOf y = some l ∧ (rsv M x).dp ≤ 64 ∧ y.dp ≤ 64 ∧ post (.bl (l.any fun z => eqd z (rsv M x))) M
def gNinT : G2 := fun M x y post => ∃ l, tupOf y = some l ∧ (rsv M x).dp ≤ 64 ∧ y.dp ≤ 64 ∧ post (.bl (!l.any fun z => eqd z (rsv M x))) M
theorem py_tup {d : D} {l : List D} (h : tupOf d = some l) : d.py = .tuple (pyAll l) ∧ ∀ M, rsv M d = d := by
  cases d <;> simp [tupOf] at h <;> subst h <;> exact ⟨by simp [D.py], fun _ => rfl⟩
theorem o_inT {k : Nat} (hr : Room k X.A) : OpR X (compareOp .In) (rU2 X.K gInT) := OpR.imp (op_inT (by have := hr.un; omega)) fun x y H Q q => by
  obtain ⟨H0, M, d, e, post, fr, rx, ry, ⟨l, el, z1, z2, w⟩, p⟩ := q
  obtain ⟨ep, er⟩ := py_tup el
  have h2 := rsv_data fr ry (by rw [er]; exact z2)
  rw [er, ep] at h2
  refine ⟨_, pyAll l, (rsv_data fr rx z1).1, h2.1, (rsv_data fr rx z1).2, h2.2, ?_⟩
  rw [any_py]
  exact p.now fr (.bl _) (by simpa using w)
theorem o_ninT {k : Nat} (hr : Room k X.A) : OpR X (compareOp .NotIn) (rU2 X.K gNinT) := OpR.imp (op_ninT (by have := hr.un; omega)) fun x y H Q q => by
  obtain ⟨H0, M, d, e, post, fr, rx, ry, ⟨l, el, z1, z2, w⟩, p⟩ := q
  obtain ⟨ep, er⟩ := py_tup el
  have h2 := rsv_data fr ry (by rw [er]; exact z2)
  rw [er, ep] at h2
  refine ⟨_, pyAll l, (rsv_data fr rx z1).1, h2.1, (rsv_data fr rx z1).2, h2.2, ?_⟩
  rw [any_py]
  exact p.now fr (.bl _) (by simpa using w)
end
def gZ3 (ds : List D) (M1 : Mem) (post : List D → (Mem → Prop) → Mem → Prop) : Prop := ∃ d x y, ds = [d, .str x, .str y] ∧ isT d fun l => (l.length = x.cps.toList.length ∧ y.cps.toList.length = x.cps.toList.length) ∧ post (zip3D l x.cps.toList y.cps.toList) noG M1
theorem iZip3D_e (w : WA) : FD.iZip3D w = (fun Γ M post => w Γ M fun ds M1 => gZ3 ds M1 post : WI) := rfl
end FD
namespace FM
open PySem PySem.Spec PyProof.Rows L2 FD
theorem ninT_lits {M : Mem} {a : Lit} {ls : List Lit} {post : WK} : gNinT M (litD a) (.ftp (ls.map litD)) post = post (.bl (!decide (a ∈ ls))) M := by
  have d := dpAll_lits ls
  refine propext ⟨fun ⟨l, e, _, _, h⟩ => ?_, fun h => ⟨_, rfl, by show (litD a).dp ≤ 64; rw [dp_lit]; omega, by unfold D.dp; omega, ?_⟩⟩
  · cases (show some (ls.map litD) = some l from e)
    rw [← any_lits]; exact h
  · show post (.bl (!(ls.map litD).any fun z => eqd z (litD a))) M
    rw [any_lits]; exact h
def z3D (q : Str × Bool × Bool) : D := .tup [.str q.1, .str (sg q.2.1), .str (sg q.2.2)]
theorem zip3_map : ∀ {ss : List Str} {t u : List Bool}, zip3D (ss.map D.str) (t.map sgc) (u.map sgc) = (ss.zip (t.zip u)).map z3D
  | [], t, u => by cases t <;> cases u <;> rfl
  | s :: ss, [], u => by cases u <;> rfl
  | s :: ss, b :: t, [] => rfl
  | s :: ss, b :: t, c :: u => by
    show D.tup [.str s, .str ⟨#[sgc b]⟩, .str ⟨#[sgc c]⟩] :: zip3D (ss.map D.str) (t.map sgc) (u.map sgc) = z3D (s, b, c) :: (ss.zip (t.zip u)).map z3D
    rw [zip3_map]
    unfold z3D
    simp only [sg_eq]
theorem zip3_sets {ss : List Str} {t u : List Bool} {M : Mem} {post : List D → (Mem → Prop) → Mem → Prop} :
    gZ3 [strsF ss, setD t, setD u] M post = ((ss.length = t.length ∧ u.length = t.length) ∧ post ((ss.zip (t.zip u)).map z3D) noG M) := by
  refine propext ⟨?_, fun h => ⟨strsF ss, setS t, setS u, rfl, ?_⟩⟩
  · rintro ⟨d, x, y, e, h⟩
    simp only [List.cons.injEq, and_true, setD, D.str.injEq] at e
    obtain ⟨rfl, rfl, rfl⟩ := e
    rw [isT_ftp, setS_cps, setS_cps, zip3_map, List.length_map, List.length_map, List.length_map] at h
    exact h
  · rw [isT_ftp, setS_cps, setS_cps, zip3_map, List.length_map, List.length_map, List.length_map]
    exact h
def unlikeL (ss : List Str) (t u : List Bool) : List Str := ((ss.zip (t.zip u)).filter fun q => !decide (q.2.1 = q.2.2)).map (·.1)
theorem isT_z3 {q : Str × Bool × Bool} {k : List D → Prop} : isT (z3D q) k = k [.str q.1, .str (sg q.2.1), .str (sg q.2.2)] := rfl
def optS : Option Str → D
  | none => .non
  | some s => .str s
theorem isNon_optS {o : Option Str} : FD.isNon (optS o) = o.isNone := by cases o <;> rfl
def apartL (p : Pan) (t u : List Bool) : List Str := (unlikeL p.ss t u).filter fun x => decide (x ∈ lockS p)
theorem inL_lock {p : Pan} {x : Str} {M : Mem} {post : WK} : gIn M (.str x) (lockD p) post = post (.bl (decide (x ∈ lockS p))) M := by
  unfold lockD
  rw [in_tp, inL_strs, flatSs]
  simp [flatD]
theorem head_cases {l : List Str} {post : D → Prop} : (if (!l.isEmpty) = true then got (atI (l.map D.str) 0) post else post .non) = post (optS l.head?) := by
  cases l with
  | nil => rfl
  | cons x l =>
    simp only [List.isEmpty_cons, Bool.not_false, if_true, List.map_cons, List.head?_cons]
    rw [atI0, got_so]
    rfl
end FM

/-! a rule more -/
namespace FM
open PySem PySem.Spec PyProof.Rows L2 FD
theorem add_rules {l : List Rule} {f : Bool} {r : Rule} {k : D → Prop} : got (addD (tp f (l.map ruleD)) (.tup [ruleD r])) k = (l.length + 1 ≤ 16777216 ∧ k (.tup ((l ++ [r]).map ruleD))) := by
  have e : addD (tp f (l.map ruleD)) (.tup [ruleD r]) = if (l.map ruleD).length + 1 ≤ 16777216 then some (.tup ((l ++ [r]).map ruleD)) else none := by
    have e2 : (if l.map ruleD = [] then D.tup [ruleD r] else .tup (l.map ruleD ++ [ruleD r])) = .tup ((l ++ [r]).map ruleD) := by
      cases l with
      | nil => rfl
      | cons x l => simp
    cases f
    · show (if (l.map ruleD).length + 1 ≤ 16777216 then some (if l.map ruleD = [] then D.tup [ruleD r] else if [ruleD r] = [] then _ else .tup (l.map ruleD ++ [ruleD r])) else none) = _
      rw [if_neg (show ¬ [ruleD r] = [] by simp), e2]
    · show (if (l.map ruleD).length + 1 ≤ 16777216 then some (if l.map ruleD = [] then D.tup [ruleD r] else if [ruleD r] = [] then _ else .tup (l.map ruleD ++ [ruleD r])) else none) = _
      rw [if_neg (show ¬ [ruleD r] = [] by simp), e2]
  rw [e, List.length_map]
  by_cases h : l.length + 1 ≤ 16777216
  · rw [if_pos h, got_so]
    exact propext ⟨fun q => ⟨h, q⟩, fun q => q.2⟩
  · rw [if_neg h]
    exact propext ⟨fun q => (by obtain ⟨_, z, _⟩ := got_of q; cases z), fun q => absurd q.1 h⟩
theorem add_rulesT {l : List Rule} {r : Rule} {k : D → Prop} : got (addD (.ftp (l.map ruleD)) (.tup [ruleD r])) k = (l.length + 1 ≤ 16777216 ∧ k (.tup ((l ++ [r]).map ruleD))) := add_rules (f := true)
theorem add_rulesF {l : List Rule} {r : Rule} {k : D → Prop} : got (addD (.tup (l.map ruleD)) (.tup [ruleD r])) k = (l.length + 1 ≤ 16777216 ∧ k (.tup ((l ++ [r]).map ruleD))) := add_rules (f := false)
section
variable {p q : Pan}
theorem StepP.more {rs rs' : List Rule} (h : ∀ r ∈ rs, r ∈ rs') {a b : Lit} (s : StepP rs a b) : StepP rs' a b := let ⟨r, hr, hs⟩ := s; ⟨r, h r hr, hs⟩
theorem Need.more {rs rs' : List Rule} (h : ∀ r ∈ rs, r ∈ rs') {a b : Lit} (n : Need rs a b) : Need rs' a b := by
  induction n with
  | refl => exact .refl _
  | tail _ s ih => exact ih.tail (s.more h)
theorem inW_more (es : q.ss = p.ss) (h : ∀ r ∈ p.rs, r ∈ q.rs) {a b : Lit} (m : a.n ∈ p.ss) (w : inW p.ss p.rs a b = true) : inW q.ss q.rs a b = true := by
  rw [inW_iff p.ru m] at w
  rw [inW_iff q.ru (by rw [es]; exact m)]
  exact w.more h
theorem good_more {ss : List Str} {rs rs' : List Rule} (h : ∀ r ∈ rs, r ∈ rs') {t : List Bool} (g : good ss rs' t = true) : good ss rs t = true := by
  unfold good at g ⊢
  rw [List.all_eq_true] at g ⊢
  exact fun r hr => g r (h r hr)
theorem goods_more (es : q.ss = p.ss) (h : ∀ r ∈ p.rs, r ∈ q.rs) {t : List Bool} (m : t ∈ goodsL q.ss q.rs) : t ∈ goodsL p.ss p.rs := by
  rw [mem_goods] at m ⊢
  rw [es] at m
  exact ⟨m.1, good_more h m.2⟩
theorem lock_more {rs rs' : List Rule} (h : ∀ r ∈ rs, r ∈ rs') {n : Str} (l : Lock rs n) : Lock rs' n := by
  rcases l with l | l | ⟨b, hb, l1, l2⟩
  · exact .inl (l.more h)
  · exact .inr (.inl (l.more h))
  · exact .inr (.inr ⟨b, hb, l1.more h, l2.more h⟩)
theorem hasGood_of {t : List Bool} (m : t ∈ goodsL p.ss p.rs) : hasGood p.ss p.rs = true := (hasGood_iff p.ru).mpr ⟨t, mem_goods.mp m⟩
theorem lockedL_iff (hg : hasGood p.ss p.rs = true) {x : Str} : x ∈ lockedL p.ss p.rs ↔ x ∈ p.ss ∧ Lock p.rs x := by
  unfold lockedL
  rw [List.mem_filter]
  constructor
  · rintro ⟨h1, h2⟩
    exact ⟨h1, (locked_iff p.ru p.sw.2.2.1 hg h1).mp (of_decide_eq_true h2)⟩
  · rintro ⟨h1, h2⟩
    exact ⟨h1, decide_eq_true ((locked_iff p.ru p.sw.2.2.1 hg h1).mpr h2)⟩
theorem locked_more (es : q.ss = p.ss) (h : ∀ r ∈ p.rs, r ∈ q.rs) (hg : hasGood q.ss q.rs = true) {x : Str} (m : x ∈ lockedL p.ss p.rs) : x ∈ lockedL q.ss q.rs := by
  obtain ⟨t, tl, gt⟩ := (hasGood_iff q.ru).mp hg
  have hp : hasGood p.ss p.rs = true := hasGood_of (goods_more es h (mem_goods.mpr ⟨tl, gt⟩))
  rw [lockedL_iff hp] at m
  rw [lockedL_iff hg, es]
  exact ⟨m.1, lock_more h m.2⟩
/-- the same rules, in whatever order and number -/
theorem goods_eq (es : q.ss = p.ss) (h : ∀ r, r ∈ p.rs ↔ r ∈ q.rs) : goodsL q.ss q.rs = goodsL p.ss p.rs := by
  unfold goodsL
  rw [es]
  exact List.filter_congr fun t _ => (good_same h).symm
theorem inW_eq (es : q.ss = p.ss) (h : ∀ r, r ∈ p.rs ↔ r ∈ q.rs) {a b : Lit} (m : a.n ∈ p.ss) : inW q.ss q.rs a b = inW p.ss p.rs a b := by
  rw [Bool.eq_iff_iff]
  exact ⟨fun w => inW_more es.symm (fun r hr => (h r).mpr hr) (by rw [es]; exact m) w, fun w => inW_more es (fun r hr => (h r).mp hr) m w⟩
theorem needed_eq (es : q.ss = p.ss) (h : ∀ r, r ∈ p.rs ↔ r ∈ q.rs) {a : Lit} (m : a.n ∈ p.ss) : neededL q a = neededL p a := by
  unfold neededL
  rw [es]
  exact List.filter_congr fun b _ => by
    have := inW_eq es h (b := b) m
    rw [es] at this
    exact this
theorem lockS_eq (es : q.ss = p.ss) (h : ∀ r, r ∈ p.rs ↔ r ∈ q.rs) : lockS q = lockS p := by
  have e2 : InS p.ss q.rs := by rw [← es]; exact q.ru
  have e1 : hasGood q.ss q.rs = hasGood p.ss p.rs := by rw [es]; exact (hasGood_same h p.ru e2).symm
  unfold lockS
  rw [e1]
  cases hg : hasGood p.ss p.rs with
  | false => rfl
  | true =>
    simp only [if_true]
    rw [es]
    exact (locked_same h p.ru e2 p.sw.2.2.1 hg).symm
theorem lockS_good (hg : hasGood p.ss p.rs = true) : lockS p = lockedL p.ss p.rs := by unfold lockS; rw [if_pos hg]
theorem apart_eq (es : q.ss = p.ss) (h : ∀ r, r ∈ p.rs ↔ r ∈ q.rs) {t u : List Bool} : apartL q t u = apartL p t u := by unfold apartL; rw [es, lockS_eq es h]
theorem apart_more (es : q.ss = p.ss) (h : ∀ r ∈ p.rs, r ∈ q.rs) (hg : hasGood q.ss q.rs = true) {t u : List Bool} (e : (apartL q t u).isEmpty = true) : (apartL p t u).isEmpty = true := by
  obtain ⟨t0, tl, gt⟩ := (hasGood_iff q.ru).mp hg
  have hp : hasGood p.ss p.rs = true := hasGood_of (goods_more es h (mem_goods.mpr ⟨tl, gt⟩))
  unfold apartL at e ⊢
  rw [List.isEmpty_iff, List.filter_eq_nil_iff] at e ⊢
  intro x hx hc
  refine e x (by rw [es]; exact hx) ?_
  rw [lockS_good hp] at hc
  rw [lockS_good hg]
  exact decide_eq_true (locked_more es h hg (of_decide_eq_true hc))
end
theorem eqAll_refl {α : Type} {f : α → D} (h : ∀ x, eqd (f x) (f x) = true) : ∀ l : List α, PyData.eqvAll (pyAll (l.map f)) (pyAll (l.map f)) = true
  | [] => rfl
  | x :: l => by
    show (PyData.eqv (f x).py (f x).py && PyData.eqvAll (pyAll (l.map f)) (pyAll (l.map f))) = true
    rw [eqAll_refl h l, show PyData.eqv (f x).py (f x).py = true from h x]
    rfl
theorem ne_ftp_same {α : Type} {f : α → D} {l : List α} {M : Mem} {post : WK} (h : ∀ x, eqd (f x) (f x) = true) (d : dpAll (l.map f) ≤ 60) : gNe M (.ftp (l.map f)) (.ftp (l.map f)) post = post (.bl false) M := by
  have e : eqd (.ftp (l.map f)) (.ftp (l.map f)) = true := eqAll_refl h l
  rw [ne_of_dp rfl rfl (by unfold D.dp; omega) (by unfold D.dp; omega), e]
  rfl
theorem ne_ftp_sets {l : List (List Bool)} {M : Mem} {post : WK} : gNe M (.ftp (l.map setD)) (.ftp (l.map setD)) post = post (.bl false) M := ne_ftp_same (fun x => by unfold setD; rw [eqd_str]; simp) (by rw [dpAll_sets]; omega)
theorem ne_ftp_lits {l : List Lit} {M : Mem} {post : WK} : gNe M (.ftp (l.map litD)) (.ftp (l.map litD)) post = post (.bl false) M := ne_ftp_same (fun x => by rw [eqd_lit]; simp) (by have := dpAll_lits l; omega)
theorem ne_ftp_strs {l : List Str} {M : Mem} {post : WK} : gNe M (strsF l) (strsF l) post = post (.bl false) M := ne_ftp_same (fun x => by rw [eqd_str]; simp) (by rw [dpAll_strs]; omega)
theorem filter_no {α : Type} {l : List α} : (l.filter fun _ => false) = [] := by simp
def Pan.add (p : Pan) (r : Rule) (h : ruleOk p.ss r = true) (l : p.rs.length < 240) : Pan := ⟨p.ss, p.rs ++ [r], p.sw, p.ru.app fun r' h' => by rw [List.mem_singleton.mp h']; exact h, by rw [List.length_append]; exact l⟩
end FM

namespace LW
open PySem PySem.Spec PyProof.Rows L2 FD
def top (i : Nat) : Stmt := PySem.Challenge.pw_fliponce_k27_whole_rules_more.main.body.getD i (.Pass ⟨0, 0, 0, 0⟩)
def names0 : List Str := ["_wall", "ShapeError", "InvalidSwitches", "InvalidRules", "InvalidText", "InvalidSetting", "InvalidLiteral", "NotAPanel", "QuestionError", "NoSetting", "MOST_NAME", "MOST_SWITCHES", "MOST_RULES", "LETTERS", "WORDS", "SIGNS", "is_name", "is_setting", "is_literal", "other_sign", "opposite", "literals_of", "literal_text", "literal_in", "all_settings", "PAIRS", "ALIKE", "is_rule", "clauses_of", "steps_of"]
def names1 : List Str := ["rule_text", "rule_in", "wrong_switch", "wrong_rule", "panel_text", "panel_in", "check_switches", "Panel", "check_panel", "is_good_setting", "check_setting", "check_two", "check_literal", "has_good", "settings", "needed", "check_some", "fixed_literals", "group_of", "tied_groups", "locked_switches", "locked", "unlike", "apart_in", "comes", "_law_bag", "_law_draw", "_law_one", "_law_names", "_law_rule"]
def names2 : List Str := ["_law_panel", "_law_made", "_law_holds", "_law_keeps", "_law_literals", "_law_right"]
def names : List Str := names0 ++ names1 ++ names2
def fn : List He.DefD := [
  ⟨("is_name", none), "is_name", "is_name", defArgs (top 18), defBody (top 18), defScope (top 18), [], []⟩,
  ⟨("is_setting", none), "is_setting", "is_setting", defArgs (top 19), defBody (top 19), defScope (top 19), [], []⟩,
  ⟨("is_literal", none), "is_literal", "is_literal", defArgs (top 20), defBody (top 20), defScope (top 20), [], []⟩,
  ⟨("other_sign", none), "other_sign", "other_sign", defArgs (top 21), defBody (top 21), defScope (top 21), [], []⟩,
  ⟨("opposite", none), "opposite", "opposite", defArgs (top 22), defBody (top 22), defScope (top 22), [], []⟩,
  ⟨("literals_of", none), "literals_of", "literals_of", defArgs (top 23), defBody (top 23), defScope (top 23), [], []⟩,
  ⟨("all_settings", none), "all_settings", "all_settings", defArgs (top 26), defBody (top 26), defScope (top 26), [], []⟩,
  ⟨("is_rule", none), "is_rule", "is_rule", defArgs (top 30), defBody (top 30), defScope (top 30), [], []⟩,
  ⟨("clauses_of", none), "clauses_of", "clauses_of", defArgs (top 31), defBody (top 31), defScope (top 31), [], []⟩,
  ⟨("steps_of", none), "steps_of", "steps_of", defArgs (top 32), defBody (top 32), defScope (top 32), [], []⟩,
  ⟨("wrong_switch", none), "wrong_switch", "wrong_switch", defArgs (top 36), defBody (top 36), defScope (top 36), [], []⟩,
  ⟨("wrong_rule", none), "wrong_rule", "wrong_rule", defArgs (top 37), defBody (top 37), defScope (top 37), [], []⟩,
  ⟨("check_switches", none), "check_switches", "check_switches", defArgs (top 40), defBody (top 40), defScope (top 40), [], []⟩,
  ⟨("Panel", some "__init__"), "__init__", "Panel.__init__", defArgs (inClass (top 41) 0), defBody (inClass (top 41) 0), defScope (inClass (top 41) 0), [.adr (He.dflAt ("Panel", some "__init__") 0)], []⟩,
  ⟨("Panel", some "has"), "has", "Panel.has", defArgs (inClass (top 41) 4), defBody (inClass (top 41) 4), defScope (inClass (top 41) 4), [], []⟩,
  ⟨("Panel", some "keeps"), "keeps", "Panel.keeps", defArgs (inClass (top 41) 5), defBody (inClass (top 41) 5), defScope (inClass (top 41) 5), [], []⟩,
  ⟨("Panel", some "wrongs"), "wrongs", "Panel.wrongs", defArgs (inClass (top 41) 6), defBody (inClass (top 41) 6), defScope (inClass (top 41) 6), [], []⟩,
  ⟨("Panel", some "goods"), "goods", "Panel.goods", defArgs (inClass (top 41) 7), defBody (inClass (top 41) 7), defScope (inClass (top 41) 7), [], []⟩,
  ⟨("Panel", some "ways_from"), "ways_from", "Panel.ways_from", defArgs (inClass (top 41) 8), defBody (inClass (top 41) 8), defScope (inClass (top 41) 8), [], []⟩,
  ⟨("check_panel", none), "check_panel", "check_panel", defArgs (top 42), defBody (top 42), defScope (top 42), [], []⟩,
  ⟨("is_good_setting", none), "is_good_setting", "is_good_setting", defArgs (top 43), defBody (top 43), defScope (top 43), [], []⟩,
  ⟨("check_setting", none), "check_setting", "check_setting", defArgs (top 44), defBody (top 44), defScope (top 44), [], []⟩,
  ⟨("check_two", none), "check_two", "check_two", defArgs (top 45), defBody (top 45), defScope (top 45), [], []⟩,
  ⟨("check_literal", none), "check_literal", "check_literal", defArgs (top 46), defBody (top 46), defScope (top 46), [], []⟩,
  ⟨("has_good", none), "has_good", "has_good", defArgs (top 48), defBody (top 48), defScope (top 48), [], []⟩,
  ⟨("settings", none), "settings", "settings", defArgs (top 49), defBody (top 49), defScope (top 49), [], []⟩,
  ⟨("needed", none), "needed", "needed", defArgs (top 51), defBody (top 51), defScope (top 51), [], []⟩,
  ⟨("check_some", none), "check_some", "check_some", defArgs (top 52), defBody (top 52), defScope (top 52), [], []⟩,
  ⟨("fixed_literals", none), "fixed_literals", "fixed_literals", defArgs (top 53), defBody (top 53), defScope (top 53), [], []⟩,
  ⟨("group_of", none), "group_of", "group_of", defArgs (top 54), defBody (top 54), defScope (top 54), [], []⟩,
  ⟨("tied_groups", none), "tied_groups", "tied_groups", defArgs (top 55), defBody (top 55), defScope (top 55), [], []⟩,
  ⟨("locked_switches", none), "locked_switches", "locked_switches", defArgs (top 57), defBody (top 57), defScope (top 57), [], []⟩,
  ⟨("locked", none), "locked", "locked", defArgs (top 58), defBody (top 58), defScope (top 58), [], []⟩,
  ⟨("unlike", none), "unlike", "unlike", defArgs (top 59), defBody (top 59), defScope (top 59), [], []⟩,
  ⟨("apart_in", none), "apart_in", "apart_in", defArgs (top 60), defBody (top 60), defScope (top 60), [], []⟩,
  ⟨("comes", none), "comes", "comes", defArgs (top 61), defBody (top 61), defScope (top 61), [], []⟩,
  ⟨("_law_bag", none), "_law_bag", "_law_bag", defArgs (top 63), defBody (top 63), defScope (top 63), [], []⟩,
  ⟨("_law_draw", none), "_law_draw", "_law_draw", defArgs (top 64), defBody (top 64), defScope (top 64), [], []⟩,
  ⟨("_law_one", none), "_law_one", "_law_one", defArgs (top 65), defBody (top 65), defScope (top 65), [], []⟩,
  ⟨("_law_names", none), "_law_names", "_law_names", defArgs (top 66), defBody (top 66), defScope (top 66), [], []⟩,
  ⟨("_law_rule", none), "_law_rule", "_law_rule", defArgs (top 67), defBody (top 67), defScope (top 67), [], []⟩,
  ⟨("_law_panel", none), "_law_panel", "_law_panel", defArgs (top 68), defBody (top 68), defScope (top 68), [], []⟩,
  ⟨("_law_made", none), "_law_made", "_law_made", defArgs (top 69), defBody (top 69), defScope (top 69), [], []⟩,
  ⟨("_law_holds", none), "_law_holds", "_law_holds", defArgs (top 70), defBody (top 70), defScope (top 70), [], []⟩,
  ⟨("_law_keeps", none), "_law_keeps", "_law_keeps", defArgs (top 71), defBody (top 71), defScope (top 71), [], []⟩,
  ⟨("_law_literals", none), "_law_literals", "_law_literals", defArgs (top 72), defBody (top 72), defScope (top 72), [], []⟩,
  ⟨("_law_right", none), "_law_right", "_law_right", defArgs (top 73), defBody (top 73), defScope (top 73), [], []⟩,
  ⟨("law", none), "law", "law", defArgs (top 74), defBody (top 74), defScope (top 74), [], []⟩]
def fa : List He.Fa := [.glo "is_name", .glo "is_setting", .glo "is_literal", .glo "other_sign", .glo "opposite", .glo "literals_of", .glo "all_settings", .glo "is_rule", .glo "clauses_of", .glo "steps_of", .glo "wrong_switch", .glo "wrong_rule", .glo "check_switches", .meth "Panel" "has", .meth "Panel" "keeps", .meth "Panel" "wrongs", .meth "Panel" "goods", .meth "Panel" "ways_from", .glo "check_panel", .glo "is_good_setting", .glo "check_setting", .glo "check_two", .glo "check_literal", .glo "has_good", .glo "settings", .glo "needed", .glo "check_some", .glo "fixed_literals", .glo "group_of", .glo "tied_groups", .glo "locked_switches", .glo "locked", .glo "unlike", .glo "apart_in", .glo "comes", .glo "_law_bag", .glo "_law_draw", .glo "_law_one", .glo "_law_names", .glo "_law_rule", .glo "_law_panel", .glo "_law_made", .glo "_law_holds", .glo "_law_keeps", .glo "_law_literals", .glo "_law_right", .glo "law", .free "len", .free "abs", .free "max", .free "min", .free "all", .free "int", .free "tuple", .free "str", .free "range", .free "isinstance", .free "enumerate", .free "zip", .int "MOST_NAME" 8, .int "MOST_SWITCHES" 10, .int "MOST_RULES" 240, .str "LETTERS" "abcdefghijklmnopqrstuvwxyz", .glo "WORDS", .str "SIGNS" "+-", .glo "PAIRS", .glo "ALIKE", .glo "Panel", .cls "Panel", .mkr "Panel", .noat "Panel" "rules", .noat "Panel" "steps", .noat "Panel" "switches"]
def ft (K : PySem.W.Frag) : Bool := true && isiB K (He.ga K "Panel") && He.tupB K "WORDS" [.str "be", .str "either", .str "needs", .str "bars", .str "same", .str "unlike"] && He.tupB K "PAIRS" [.str "either", .str "needs", .str "bars"] && He.tupB K "ALIKE" [.str "same", .str "unlike"]
structure Tx (P : Program) (w : World) (K : PySem.W.Frag) (mg : Str → Option Value) (base : Heap) : Prop where
  c : He.SaysD fa fn K
  t : ft K = true
  x : ∃ h, K.In h ∧ h.Ns mainGlobals mg
section
variable {P : Program} {w : World} {K : PySem.W.Frag} {mg : Str → Option Value} {base : Heap}
theorem Tx.g_is_name (T : Tx P w K mg base) : mg "is_name" = some (.ref (He.ga K "is_name")) := let ⟨_, KX, G⟩ := T.x; He.glo_ok KX G (T.c.fact 0 rfl)
theorem Tx.g_is_setting (T : Tx P w K mg base) : mg "is_setting" = some (.ref (He.ga K "is_setting")) := let ⟨_, KX, G⟩ := T.x; He.glo_ok KX G (T.c.fact 1 rfl)
theorem Tx.g_is_literal (T : Tx P w K mg base) : mg "is_literal" = some (.ref (He.ga K "is_literal")) := let ⟨_, KX, G⟩ := T.x; He.glo_ok KX G (T.c.fact 2 rfl)
theorem Tx.g_other_sign (T : Tx P w K mg base) : mg "other_sign" = some (.ref (He.ga K "other_sign")) := let ⟨_, KX, G⟩ := T.x; He.glo_ok KX G (T.c.fact 3 rfl)
theorem Tx.g_opposite (T : Tx P w K mg base) : mg "opposite" = some (.ref (He.ga K "opposite")) := let ⟨_, KX, G⟩ := T.x; He.glo_ok KX G (T.c.fact 4 rfl)
theorem Tx.g_literals_of (T : Tx P w K mg base) : mg "literals_of" = some (.ref (He.ga K "literals_of")) := let ⟨_, KX, G⟩ := T.x; He.glo_ok KX G (T.c.fact 5 rfl)
theorem Tx.g_all_settings (T : Tx P w K mg base) : mg "all_settings" = some (.ref (He.ga K "all_settings")) := let ⟨_, KX, G⟩ := T.x; He.glo_ok KX G (T.c.fact 6 rfl)
theorem Tx.g_is_rule (T : Tx P w K mg base) : mg "is_rule" = some (.ref (He.ga K "is_rule")) := let ⟨_, KX, G⟩ := T.x; He.glo_ok KX G (T.c.fact 7 rfl)
theorem Tx.g_clauses_of (T : Tx P w K mg base) : mg "clauses_of" = some (.ref (He.ga K "clauses_of")) := let ⟨_, KX, G⟩ := T.x; He.glo_ok KX G (T.c.fact 8 rfl)
theorem Tx.g_steps_of (T : Tx P w K mg base) : mg "steps_of" = some (.ref (He.ga K "steps_of")) := let ⟨_, KX, G⟩ := T.x; He.glo_ok KX G (T.c.fact 9 rfl)
theorem Tx.g_wrong_switch (T : Tx P w K mg base) : mg "wrong_switch" = some (.ref (He.ga K "wrong_switch")) := let ⟨_, KX, G⟩ := T.x; He.glo_ok KX G (T.c.fact 10 rfl)
theorem Tx.g_wrong_rule (T : Tx P w K mg base) : mg "wrong_rule" = some (.ref (He.ga K "wrong_rule")) := let ⟨_, KX, G⟩ := T.x; He.glo_ok KX G (T.c.fact 11 rfl)
theorem Tx.g_check_switches (T : Tx P w K mg base) : mg "check_switches" = some (.ref (He.ga K "check_switches")) := let ⟨_, KX, G⟩ := T.x; He.glo_ok KX G (T.c.fact 12 rfl)
theorem Tx.h_Panel_has (T : Tx P w K mg base) : Meth K (He.ga K "Panel") "has" (He.ma K (He.ga K "Panel") "has") := He.meth_ok (T.c.fact 13 rfl)
theorem Tx.h_Panel_keeps (T : Tx P w K mg base) : Meth K (He.ga K "Panel") "keeps" (He.ma K (He.ga K "Panel") "keeps") := He.meth_ok (T.c.fact 14 rfl)
theorem Tx.h_Panel_wrongs (T : Tx P w K mg base) : Meth K (He.ga K "Panel") "wrongs" (He.ma K (He.ga K "Panel") "wrongs") := He.meth_ok (T.c.fact 15 rfl)
theorem Tx.h_Panel_goods (T : Tx P w K mg base) : Meth K (He.ga K "Panel") "goods" (He.ma K (He.ga K "Panel") "goods") := He.meth_ok (T.c.fact 16 rfl)
theorem Tx.h_Panel_ways_from (T : Tx P w K mg base) : Meth K (He.ga K "Panel") "ways_from" (He.ma K (He.ga K "Panel") "ways_from") := He.meth_ok (T.c.fact 17 rfl)
theorem Tx.g_check_panel (T : Tx P w K mg base) : mg "check_panel" = some (.ref (He.ga K "check_panel")) := let ⟨_, KX, G⟩ := T.x; He.glo_ok KX G (T.c.fact 18 rfl)
theorem Tx.g_is_good_setting (T : Tx P w K mg base) : mg "is_good_setting" = some (.ref (He.ga K "is_good_setting")) := let ⟨_, KX, G⟩ := T.x; He.glo_ok KX G (T.c.fact 19 rfl)
theorem Tx.g_check_setting (T : Tx P w K mg base) : mg "check_setting" = some (.ref (He.ga K "check_setting")) := let ⟨_, KX, G⟩ := T.x; He.glo_ok KX G (T.c.fact 20 rfl)
theorem Tx.g_check_two (T : Tx P w K mg base) : mg "check_two" = some (.ref (He.ga K "check_two")) := let ⟨_, KX, G⟩ := T.x; He.glo_ok KX G (T.c.fact 21 rfl)
theorem Tx.g_check_literal (T : Tx P w K mg base) : mg "check_literal" = some (.ref (He.ga K "check_literal")) := let ⟨_, KX, G⟩ := T.x; He.glo_ok KX G (T.c.fact 22 rfl)
theorem Tx.g_has_good (T : Tx P w K mg base) : mg "has_good" = some (.ref (He.ga K "has_good")) := let ⟨_, KX, G⟩ := T.x; He.glo_ok KX G (T.c.fact 23 rfl)
theorem Tx.g_settings (T : Tx P w K mg base) : mg "settings" = some (.ref (He.ga K "settings")) := let ⟨_, KX, G⟩ := T.x; He.glo_ok KX G (T.c.fact 24 rfl)
theorem Tx.g_needed (T : Tx P w K mg base) : mg "needed" = some (.ref (He.ga K "needed")) := let ⟨_, KX, G⟩ := T.x; He.glo_ok KX G (T.c.fact 25 rfl)
theorem Tx.g_check_some (T : Tx P w K mg base) : mg "check_some" = some (.ref (He.ga K "check_some")) := let ⟨_, KX, G⟩ := T.x; He.glo_ok KX G (T.c.fact 26 rfl)
theorem Tx.g_fixed_literals (T : Tx P w K mg base) : mg "fixed_literals" = some (.ref (He.ga K "fixed_literals")) := let ⟨_, KX, G⟩ := T.x; He.glo_ok KX G (T.c.fact 27 rfl)
theorem Tx.g_group_of (T : Tx P w K mg base) : mg "group_of" = some (.ref (He.ga K "group_of")) := let ⟨_, KX, G⟩ := T.x; He.glo_ok KX G (T.c.fact 28 rfl)
theorem Tx.g_tied_groups (T : Tx P w K mg base) : mg "tied_groups" = some (.ref (He.ga K "tied_groups")) := let ⟨_, KX, G⟩ := T.x; He.glo_ok KX G (T.c.fact 29 rfl)
theorem Tx.g_locked_switches (T : Tx P w K mg base) : mg "locked_switches" = some (.ref (He.ga K "locked_switches")) := let ⟨_, KX, G⟩ := T.x; He.glo_ok KX G (T.c.fact 30 rfl)
theorem Tx.g_locked (T : Tx P w K mg base) : mg "locked" = some (.ref (He.ga K "locked")) := let ⟨_, KX, G⟩ := T.x; He.glo_ok KX G (T.c.fact 31 rfl)
theorem Tx.g_unlike (T : Tx P w K mg base) : mg "unlike" = some (.ref (He.ga K "unlike")) := let ⟨_, KX, G⟩ := T.x; He.glo_ok KX G (T.c.fact 32 rfl)
theorem Tx.g_apart_in (T : Tx P w K mg base) : mg "apart_in" = some (.ref (He.ga K "apart_in")) := let ⟨_, KX, G⟩ := T.x; He.glo_ok KX G (T.c.fact 33 rfl)
theorem Tx.g_comes (T : Tx P w K mg base) : mg "comes" = some (.ref (He.ga K "comes")) := let ⟨_, KX, G⟩ := T.x; He.glo_ok KX G (T.c.fact 34 rfl)
theorem Tx.g_law_bag (T : Tx P w K mg base) : mg "_law_bag" = some (.ref (He.ga K "_law_bag")) := let ⟨_, KX, G⟩ := T.x; He.glo_ok KX G (T.c.fact 35 rfl)
theorem Tx.g_law_draw (T : Tx P w K mg base) : mg "_law_draw" = some (.ref (He.ga K "_law_draw")) := let ⟨_, KX, G⟩ := T.x; He.glo_ok KX G (T.c.fact 36 rfl)
theorem Tx.g_law_one (T : Tx P w K mg base) : mg "_law_one" = some (.ref (He.ga K "_law_one")) := let ⟨_, KX, G⟩ := T.x; He.glo_ok KX G (T.c.fact 37 rfl)
theorem Tx.g_law_names (T : Tx P w K mg base) : mg "_law_names" = some (.ref (He.ga K "_law_names")) := let ⟨_, KX, G⟩ := T.x; He.glo_ok KX G (T.c.fact 38 rfl)
theorem Tx.g_law_rule (T : Tx P w K mg base) : mg "_law_rule" = some (.ref (He.ga K "_law_rule")) := let ⟨_, KX, G⟩ := T.x; He.glo_ok KX G (T.c.fact 39 rfl)
theorem Tx.g_law_panel (T : Tx P w K mg base) : mg "_law_panel" = some (.ref (He.ga K "_law_panel")) := let ⟨_, KX, G⟩ := T.x; He.glo_ok KX G (T.c.fact 40 rfl)
theorem Tx.g_law_made (T : Tx P w K mg base) : mg "_law_made" = some (.ref (He.ga K "_law_made")) := let ⟨_, KX, G⟩ := T.x; He.glo_ok KX G (T.c.fact 41 rfl)
theorem Tx.g_law_holds (T : Tx P w K mg base) : mg "_law_holds" = some (.ref (He.ga K "_law_holds")) := let ⟨_, KX, G⟩ := T.x; He.glo_ok KX G (T.c.fact 42 rfl)
theorem Tx.g_law_keeps (T : Tx P w K mg base) : mg "_law_keeps" = some (.ref (He.ga K "_law_keeps")) := let ⟨_, KX, G⟩ := T.x; He.glo_ok KX G (T.c.fact 43 rfl)
theorem Tx.g_law_literals (T : Tx P w K mg base) : mg "_law_literals" = some (.ref (He.ga K "_law_literals")) := let ⟨_, KX, G⟩ := T.x; He.glo_ok KX G (T.c.fact 44 rfl)
theorem Tx.g_law_right (T : Tx P w K mg base) : mg "_law_right" = some (.ref (He.ga K "_law_right")) := let ⟨_, KX, G⟩ := T.x; He.glo_ok KX G (T.c.fact 45 rfl)
theorem Tx.g_law (T : Tx P w K mg base) : mg "law" = some (.ref (He.ga K "law")) := let ⟨_, KX, G⟩ := T.x; He.glo_ok KX G (T.c.fact 46 rfl)
theorem Tx.m_len (T : Tx P w K mg base) : mg "len" = none := let ⟨_, KX, G⟩ := T.x; He.free_ok KX G (T.c.fact 47 rfl)
theorem Tx.m_abs (T : Tx P w K mg base) : mg "abs" = none := let ⟨_, KX, G⟩ := T.x; He.free_ok KX G (T.c.fact 48 rfl)
theorem Tx.m_max (T : Tx P w K mg base) : mg "max" = none := let ⟨_, KX, G⟩ := T.x; He.free_ok KX G (T.c.fact 49 rfl)
theorem Tx.m_min (T : Tx P w K mg base) : mg "min" = none := let ⟨_, KX, G⟩ := T.x; He.free_ok KX G (T.c.fact 50 rfl)
theorem Tx.m_all (T : Tx P w K mg base) : mg "all" = none := let ⟨_, KX, G⟩ := T.x; He.free_ok KX G (T.c.fact 51 rfl)
theorem Tx.m_int (T : Tx P w K mg base) : mg "int" = none := let ⟨_, KX, G⟩ := T.x; He.free_ok KX G (T.c.fact 52 rfl)
theorem Tx.m_tuple (T : Tx P w K mg base) : mg "tuple" = none := let ⟨_, KX, G⟩ := T.x; He.free_ok KX G (T.c.fact 53 rfl)
theorem Tx.m_str (T : Tx P w K mg base) : mg "str" = none := let ⟨_, KX, G⟩ := T.x; He.free_ok KX G (T.c.fact 54 rfl)
theorem Tx.m_range (T : Tx P w K mg base) : mg "range" = none := let ⟨_, KX, G⟩ := T.x; He.free_ok KX G (T.c.fact 55 rfl)
theorem Tx.m_isinstance (T : Tx P w K mg base) : mg "isinstance" = none := let ⟨_, KX, G⟩ := T.x; He.free_ok KX G (T.c.fact 56 rfl)
theorem Tx.m_enumerate (T : Tx P w K mg base) : mg "enumerate" = none := let ⟨_, KX, G⟩ := T.x; He.free_ok KX G (T.c.fact 57 rfl)
theorem Tx.m_zip (T : Tx P w K mg base) : mg "zip" = none := let ⟨_, KX, G⟩ := T.x; He.free_ok KX G (T.c.fact 58 rfl)
theorem Tx.i_MOST_NAME (T : Tx P w K mg base) : ∃ t, mg "MOST_NAME" = some (.int 8 t) := let ⟨_, KX, G⟩ := T.x; He.int_ok KX G (T.c.fact 59 rfl)
theorem Tx.i_MOST_SWITCHES (T : Tx P w K mg base) : ∃ t, mg "MOST_SWITCHES" = some (.int 10 t) := let ⟨_, KX, G⟩ := T.x; He.int_ok KX G (T.c.fact 60 rfl)
theorem Tx.i_MOST_RULES (T : Tx P w K mg base) : ∃ t, mg "MOST_RULES" = some (.int 240 t) := let ⟨_, KX, G⟩ := T.x; He.int_ok KX G (T.c.fact 61 rfl)
theorem Tx.i_LETTERS (T : Tx P w K mg base) : ∃ t, mg "LETTERS" = some (.str "abcdefghijklmnopqrstuvwxyz" t) := let ⟨_, KX, G⟩ := T.x; He.str_ok KX G (T.c.fact 62 rfl)
theorem Tx.g_WORDS (T : Tx P w K mg base) : mg "WORDS" = some (.ref (He.ga K "WORDS")) := let ⟨_, KX, G⟩ := T.x; He.glo_ok KX G (T.c.fact 63 rfl)
theorem Tx.i_SIGNS (T : Tx P w K mg base) : ∃ t, mg "SIGNS" = some (.str "+-" t) := let ⟨_, KX, G⟩ := T.x; He.str_ok KX G (T.c.fact 64 rfl)
theorem Tx.g_PAIRS (T : Tx P w K mg base) : mg "PAIRS" = some (.ref (He.ga K "PAIRS")) := let ⟨_, KX, G⟩ := T.x; He.glo_ok KX G (T.c.fact 65 rfl)
theorem Tx.g_ALIKE (T : Tx P w K mg base) : mg "ALIKE" = some (.ref (He.ga K "ALIKE")) := let ⟨_, KX, G⟩ := T.x; He.glo_ok KX G (T.c.fact 66 rfl)
theorem Tx.gc_Panel (T : Tx P w K mg base) : mg "Panel" = some (.ref (He.ga K "Panel")) := let ⟨_, KX, G⟩ := T.x; He.glo_ok KX G (T.c.fact 67 rfl)
theorem Tx.c_Panel (T : Tx P w K mg base) : Cls K (He.ga K "Panel") := He.cls_ok (T.c.fact 68 rfl)
theorem Tx.mk_Panel (T : Tx P w K mg base) : Mk K (He.ga K "Panel") (He.ma K (He.ga K "Panel") "__init__") := He.mkr_ok (T.c.fact 69 rfl)
theorem Tx.n_Panel_rules (T : Tx P w K mg base) : NoAttr K (He.ga K "Panel") "rules" := He.noat_ok (T.c.fact 70 rfl)
theorem Tx.n_Panel_steps (T : Tx P w K mg base) : NoAttr K (He.ga K "Panel") "steps" := He.noat_ok (T.c.fact 71 rfl)
theorem Tx.n_Panel_switches (T : Tx P w K mg base) : NoAttr K (He.ga K "Panel") "switches" := He.noat_ok (T.c.fact 72 rfl)
theorem Tx.d_is_name (T : Tx P w K mg base) : ∃ fd, FunD K "is_name" "is_name" (defArgs (top 18)) (defBody (top 18)) (defScope (top 18)) [] [] (He.ga K "is_name") fd := T.c.def_ 0 rfl
theorem Tx.d_is_setting (T : Tx P w K mg base) : ∃ fd, FunD K "is_setting" "is_setting" (defArgs (top 19)) (defBody (top 19)) (defScope (top 19)) [] [] (He.ga K "is_setting") fd := T.c.def_ 1 rfl
theorem Tx.d_is_literal (T : Tx P w K mg base) : ∃ fd, FunD K "is_literal" "is_literal" (defArgs (top 20)) (defBody (top 20)) (defScope (top 20)) [] [] (He.ga K "is_literal") fd := T.c.def_ 2 rfl
theorem Tx.d_other_sign (T : Tx P w K mg base) : ∃ fd, FunD K "other_sign" "other_sign" (defArgs (top 21)) (defBody (top 21)) (defScope (top 21)) [] [] (He.ga K "other_sign") fd := T.c.def_ 3 rfl
theorem Tx.d_opposite (T : Tx P w K mg base) : ∃ fd, FunD K "opposite" "opposite" (defArgs (top 22)) (defBody (top 22)) (defScope (top 22)) [] [] (He.ga K "opposite") fd := T.c.def_ 4 rfl
theorem Tx.d_literals_of (T : Tx P w K mg base) : ∃ fd, FunD K "literals_of" "literals_of" (defArgs (top 23)) (defBody (top 23)) (defScope (top 23)) [] [] (He.ga K "literals_of") fd := T.c.def_ 5 rfl
theorem Tx.d_all_settings (T : Tx P w K mg base) : ∃ fd, FunD K "all_settings" "all_settings" (defArgs (top 26)) (defBody (top 26)) (defScope (top 26)) [] [] (He.ga K "all_settings") fd := T.c.def_ 6 rfl
theorem Tx.d_is_rule (T : Tx P w K mg base) : ∃ fd, FunD K "is_rule" "is_rule" (defArgs (top 30)) (defBody (top 30)) (defScope (top 30)) [] [] (He.ga K "is_rule") fd := T.c.def_ 7 rfl
theorem Tx.d_clauses_of (T : Tx P w K mg base) : ∃ fd, FunD K "clauses_of" "clauses_of" (defArgs (top 31)) (defBody (top 31)) (defScope (top 31)) [] [] (He.ga K "clauses_of") fd := T.c.def_ 8 rfl
theorem Tx.d_steps_of (T : Tx P w K mg base) : ∃ fd, FunD K "steps_of" "steps_of" (defArgs (top 32)) (defBody (top 32)) (defScope (top 32)) [] [] (He.ga K "steps_of") fd := T.c.def_ 9 rfl
theorem Tx.d_wrong_switch (T : Tx P w K mg base) : ∃ fd, FunD K "wrong_switch" "wrong_switch" (defArgs (top 36)) (defBody (top 36)) (defScope (top 36)) [] [] (He.ga K "wrong_switch") fd := T.c.def_ 10 rfl
theorem Tx.d_wrong_rule (T : Tx P w K mg base) : ∃ fd, FunD K "wrong_rule" "wrong_rule" (defArgs (top 37)) (defBody (top 37)) (defScope (top 37)) [] [] (He.ga K "wrong_rule") fd := T.c.def_ 11 rfl
theorem Tx.d_check_switches (T : Tx P w K mg base) : ∃ fd, FunD K "check_switches" "check_switches" (defArgs (top 40)) (defBody (top 40)) (defScope (top 40)) [] [] (He.ga K "check_switches") fd := T.c.def_ 12 rfl
theorem Tx.d_Panel___init__ (T : Tx P w K mg base) : ∃ fd, FunD K "__init__" "Panel.__init__" (defArgs (inClass (top 41) 0)) (defBody (inClass (top 41) 0)) (defScope (inClass (top 41) 0)) [.ref (He.dflAt ("Panel", some "__init__") 0 K)] [] (He.ma K (He.ga K "Panel") "__init__") fd := T.c.def_ 13 rfl
theorem Tx.d_Panel_has (T : Tx P w K mg base) : ∃ fd, FunD K "has" "Panel.has" (defArgs (inClass (top 41) 4)) (defBody (inClass (top 41) 4)) (defScope (inClass (top 41) 4)) [] [] (He.ma K (He.ga K "Panel") "has") fd := T.c.def_ 14 rfl
theorem Tx.d_Panel_keeps (T : Tx P w K mg base) : ∃ fd, FunD K "keeps" "Panel.keeps" (defArgs (inClass (top 41) 5)) (defBody (inClass (top 41) 5)) (defScope (inClass (top 41) 5)) [] [] (He.ma K (He.ga K "Panel") "keeps") fd := T.c.def_ 15 rfl
theorem Tx.d_Panel_wrongs (T : Tx P w K mg base) : ∃ fd, FunD K "wrongs" "Panel.wrongs" (defArgs (inClass (top 41) 6)) (defBody (inClass (top 41) 6)) (defScope (inClass (top 41) 6)) [] [] (He.ma K (He.ga K "Panel") "wrongs") fd := T.c.def_ 16 rfl
theorem Tx.d_Panel_goods (T : Tx P w K mg base) : ∃ fd, FunD K "goods" "Panel.goods" (defArgs (inClass (top 41) 7)) (defBody (inClass (top 41) 7)) (defScope (inClass (top 41) 7)) [] [] (He.ma K (He.ga K "Panel") "goods") fd := T.c.def_ 17 rfl
theorem Tx.d_Panel_ways_from (T : Tx P w K mg base) : ∃ fd, FunD K "ways_from" "Panel.ways_from" (defArgs (inClass (top 41) 8)) (defBody (inClass (top 41) 8)) (defScope (inClass (top 41) 8)) [] [] (He.ma K (He.ga K "Panel") "ways_from") fd := T.c.def_ 18 rfl
theorem Tx.d_check_panel (T : Tx P w K mg base) : ∃ fd, FunD K "check_panel" "check_panel" (defArgs (top 42)) (defBody (top 42)) (defScope (top 42)) [] [] (He.ga K "check_panel") fd := T.c.def_ 19 rfl
theorem Tx.d_is_good_setting (T : Tx P w K mg base) : ∃ fd, FunD K "is_good_setting" "is_good_setting" (defArgs (top 43)) (defBody (top 43)) (defScope (top 43)) [] [] (He.ga K "is_good_setting") fd := T.c.def_ 20 rfl
theorem Tx.d_check_setting (T : Tx P w K mg base) : ∃ fd, FunD K "check_setting" "check_setting" (defArgs (top 44)) (defBody (top 44)) (defScope (top 44)) [] [] (He.ga K "check_setting") fd := T.c.def_ 21 rfl
theorem Tx.d_check_two (T : Tx P w K mg base) : ∃ fd, FunD K "check_two" "check_two" (defArgs (top 45)) (defBody (top 45)) (defScope (top 45)) [] [] (He.ga K "check_two") fd := T.c.def_ 22 rfl
theorem Tx.d_check_literal (T : Tx P w K mg base) : ∃ fd, FunD K "check_literal" "check_literal" (defArgs (top 46)) (defBody (top 46)) (defScope (top 46)) [] [] (He.ga K "check_literal") fd := T.c.def_ 23 rfl
theorem Tx.d_has_good (T : Tx P w K mg base) : ∃ fd, FunD K "has_good" "has_good" (defArgs (top 48)) (defBody (top 48)) (defScope (top 48)) [] [] (He.ga K "has_good") fd := T.c.def_ 24 rfl
theorem Tx.d_settings (T : Tx P w K mg base) : ∃ fd, FunD K "settings" "settings" (defArgs (top 49)) (defBody (top 49)) (defScope (top 49)) [] [] (He.ga K "settings") fd := T.c.def_ 25 rfl
theorem Tx.d_needed (T : Tx P w K mg base) : ∃ fd, FunD K "needed" "needed" (defArgs (top 51)) (defBody (top 51)) (defScope (top 51)) [] [] (He.ga K "needed") fd := T.c.def_ 26 rfl
theorem Tx.d_check_some (T : Tx P w K mg base) : ∃ fd, FunD K "check_some" "check_some" (defArgs (top 52)) (defBody (top 52)) (defScope (top 52)) [] [] (He.ga K "check_some") fd := T.c.def_ 27 rfl
theorem Tx.d_fixed_literals (T : Tx P w K mg base) : ∃ fd, FunD K "fixed_literals" "fixed_literals" (defArgs (top 53)) (defBody (top 53)) (defScope (top 53)) [] [] (He.ga K "fixed_literals") fd := T.c.def_ 28 rfl
theorem Tx.d_group_of (T : Tx P w K mg base) : ∃ fd, FunD K "group_of" "group_of" (defArgs (top 54)) (defBody (top 54)) (defScope (top 54)) [] [] (He.ga K "group_of") fd := T.c.def_ 29 rfl
theorem Tx.d_tied_groups (T : Tx P w K mg base) : ∃ fd, FunD K "tied_groups" "tied_groups" (defArgs (top 55)) (defBody (top 55)) (defScope (top 55)) [] [] (He.ga K "tied_groups") fd := T.c.def_ 30 rfl
theorem Tx.d_locked_switches (T : Tx P w K mg base) : ∃ fd, FunD K "locked_switches" "locked_switches" (defArgs (top 57)) (defBody (top 57)) (defScope (top 57)) [] [] (He.ga K "locked_switches") fd := T.c.def_ 31 rfl
theorem Tx.d_locked (T : Tx P w K mg base) : ∃ fd, FunD K "locked" "locked" (defArgs (top 58)) (defBody (top 58)) (defScope (top 58)) [] [] (He.ga K "locked") fd := T.c.def_ 32 rfl
theorem Tx.d_unlike (T : Tx P w K mg base) : ∃ fd, FunD K "unlike" "unlike" (defArgs (top 59)) (defBody (top 59)) (defScope (top 59)) [] [] (He.ga K "unlike") fd := T.c.def_ 33 rfl
theorem Tx.d_apart_in (T : Tx P w K mg base) : ∃ fd, FunD K "apart_in" "apart_in" (defArgs (top 60)) (defBody (top 60)) (defScope (top 60)) [] [] (He.ga K "apart_in") fd := T.c.def_ 34 rfl
theorem Tx.d_comes (T : Tx P w K mg base) : ∃ fd, FunD K "comes" "comes" (defArgs (top 61)) (defBody (top 61)) (defScope (top 61)) [] [] (He.ga K "comes") fd := T.c.def_ 35 rfl
theorem Tx.d_law_bag (T : Tx P w K mg base) : ∃ fd, FunD K "_law_bag" "_law_bag" (defArgs (top 63)) (defBody (top 63)) (defScope (top 63)) [] [] (He.ga K "_law_bag") fd := T.c.def_ 36 rfl
theorem Tx.d_law_draw (T : Tx P w K mg base) : ∃ fd, FunD K "_law_draw" "_law_draw" (defArgs (top 64)) (defBody (top 64)) (defScope (top 64)) [] [] (He.ga K "_law_draw") fd := T.c.def_ 37 rfl
theorem Tx.d_law_one (T : Tx P w K mg base) : ∃ fd, FunD K "_law_one" "_law_one" (defArgs (top 65)) (defBody (top 65)) (defScope (top 65)) [] [] (He.ga K "_law_one") fd := T.c.def_ 38 rfl
theorem Tx.d_law_names (T : Tx P w K mg base) : ∃ fd, FunD K "_law_names" "_law_names" (defArgs (top 66)) (defBody (top 66)) (defScope (top 66)) [] [] (He.ga K "_law_names") fd := T.c.def_ 39 rfl
theorem Tx.d_law_rule (T : Tx P w K mg base) : ∃ fd, FunD K "_law_rule" "_law_rule" (defArgs (top 67)) (defBody (top 67)) (defScope (top 67)) [] [] (He.ga K "_law_rule") fd := T.c.def_ 40 rfl
theorem Tx.d_law_panel (T : Tx P w K mg base) : ∃ fd, FunD K "_law_panel" "_law_panel" (defArgs (top 68)) (defBody (top 68)) (defScope (top 68)) [] [] (He.ga K "_law_panel") fd := T.c.def_ 41 rfl
theorem Tx.d_law_made (T : Tx P w K mg base) : ∃ fd, FunD K "_law_made" "_law_made" (defArgs (top 69)) (defBody (top 69)) (defScope (top 69)) [] [] (He.ga K "_law_made") fd := T.c.def_ 42 rfl
theorem Tx.d_law_holds (T : Tx P w K mg base) : ∃ fd, FunD K "_law_holds" "_law_holds" (defArgs (top 70)) (defBody (top 70)) (defScope (top 70)) [] [] (He.ga K "_law_holds") fd := T.c.def_ 43 rfl
theorem Tx.d_law_keeps (T : Tx P w K mg base) : ∃ fd, FunD K "_law_keeps" "_law_keeps" (defArgs (top 71)) (defBody (top 71)) (defScope (top 71)) [] [] (He.ga K "_law_keeps") fd := T.c.def_ 44 rfl
theorem Tx.d_law_literals (T : Tx P w K mg base) : ∃ fd, FunD K "_law_literals" "_law_literals" (defArgs (top 72)) (defBody (top 72)) (defScope (top 72)) [] [] (He.ga K "_law_literals") fd := T.c.def_ 45 rfl
theorem Tx.d_law_right (T : Tx P w K mg base) : ∃ fd, FunD K "_law_right" "_law_right" (defArgs (top 73)) (defBody (top 73)) (defScope (top 73)) [] [] (He.ga K "_law_right") fd := T.c.def_ 46 rfl
theorem Tx.d_law (T : Tx P w K mg base) : ∃ fd, FunD K "law" "law" (defArgs (top 74)) (defBody (top 74)) (defScope (top 74)) [] [] (He.ga K "law") fd := T.c.def_ 47 rfl
theorem Tx.q_Panel (T : Tx P w K mg base) : Cls K (He.ga K "Panel") ∧ isiB K (He.ga K "Panel") = true ∧ mg "Panel" = some (.ref (He.ga K "Panel")) := ⟨T.c_Panel, by have t := T.t; unfold ft at t; simp only [Bool.and_eq_true] at t; exact t.1.1.1.2, T.gc_Panel⟩
theorem Tx.k_MOST_NAME {X : Cx} {pos : Pos} (T : Tx P w X.K X.mg base) (hg : Gl X "MOST_NAME" := by rfl) : DE X (.Name "MOST_NAME" pos) (wC (.int 8)) := let ⟨_, h⟩ := T.i_MOST_NAME; dglob (v := .int 8) hg h ⟨_, rfl⟩ fun _ => .int _
theorem Tx.k_MOST_SWITCHES {X : Cx} {pos : Pos} (T : Tx P w X.K X.mg base) (hg : Gl X "MOST_SWITCHES" := by rfl) : DE X (.Name "MOST_SWITCHES" pos) (wC (.int 10)) := let ⟨_, h⟩ := T.i_MOST_SWITCHES; dglob (v := .int 10) hg h ⟨_, rfl⟩ fun _ => .int _
theorem Tx.k_MOST_RULES {X : Cx} {pos : Pos} (T : Tx P w X.K X.mg base) (hg : Gl X "MOST_RULES" := by rfl) : DE X (.Name "MOST_RULES" pos) (wC (.int 240)) := let ⟨_, h⟩ := T.i_MOST_RULES; dglob (v := .int 240) hg h ⟨_, rfl⟩ fun _ => .int _
theorem Tx.k_LETTERS {X : Cx} {pos : Pos} (T : Tx P w X.K X.mg base) (hg : Gl X "LETTERS" := by rfl) : DE X (.Name "LETTERS" pos) (wC (.str "abcdefghijklmnopqrstuvwxyz")) := let ⟨_, h⟩ := T.i_LETTERS; dglob (v := .str "abcdefghijklmnopqrstuvwxyz") hg h ⟨_, rfl⟩ fun _ => .str _ (by decide +kernel)
theorem Tx.k_WORDS {X : Cx} {pos : Pos} (T : Tx P w X.K X.mg base) (hg : Gl X "WORDS" := by rfl) : DE X (.Name "WORDS" pos) (wC (.ktp [.str "be", .str "either", .str "needs", .str "bars", .str "same", .str "unlike"])) := dglob (v := .ref (He.ga X.K "WORDS")) hg T.g_WORDS rfl fun H => by
  have t := T.t; unfold ft at t; simp only [Bool.and_eq_true] at t
  exact .ktp (He.tupB_ok t.1.1.2 H.ice) (.cons (.str _ (by decide +kernel)) (.cons (.str _ (by decide +kernel)) (.cons (.str _ (by decide +kernel)) (.cons (.str _ (by decide +kernel)) (.cons (.str _ (by decide +kernel)) (.cons (.str _ (by decide +kernel)) (.nil))))))) (by show 6 ≤ sizeLine; decide)
theorem Tx.k_SIGNS {X : Cx} {pos : Pos} (T : Tx P w X.K X.mg base) (hg : Gl X "SIGNS" := by rfl) : DE X (.Name "SIGNS" pos) (wC (.str "+-")) := let ⟨_, h⟩ := T.i_SIGNS; dglob (v := .str "+-") hg h ⟨_, rfl⟩ fun _ => .str _ (by decide +kernel)
theorem Tx.k_PAIRS {X : Cx} {pos : Pos} (T : Tx P w X.K X.mg base) (hg : Gl X "PAIRS" := by rfl) : DE X (.Name "PAIRS" pos) (wC (.ktp [.str "either", .str "needs", .str "bars"])) := dglob (v := .ref (He.ga X.K "PAIRS")) hg T.g_PAIRS rfl fun H => by
  have t := T.t; unfold ft at t; simp only [Bool.and_eq_true] at t
  exact .ktp (He.tupB_ok t.1.2 H.ice) (.cons (.str _ (by decide +kernel)) (.cons (.str _ (by decide +kernel)) (.cons (.str _ (by decide +kernel)) (.nil)))) (by show 3 ≤ sizeLine; decide)
theorem Tx.k_ALIKE {X : Cx} {pos : Pos} (T : Tx P w X.K X.mg base) (hg : Gl X "ALIKE" := by rfl) : DE X (.Name "ALIKE" pos) (wC (.ktp [.str "same", .str "unlike"])) := dglob (v := .ref (He.ga X.K "ALIKE")) hg T.g_ALIKE rfl fun H => by
  have t := T.t; unfold ft at t; simp only [Bool.and_eq_true] at t
  exact .ktp (He.tupB_ok t.2 H.ice) (.cons (.str _ (by decide +kernel)) (.cons (.str _ (by decide +kernel)) (.nil))) (by show 2 ≤ sizeLine; decide)
end
end LW

namespace LW
open PySem PySem.Spec PyProof.Rows L2 FD FM
local macro_rules | `(tactic| walk_at "w") => `(tactic| simp only [↓FD.sSeq_e, ↓FD.sRet_e, ↓FD.sIf_e, ↓FD.sAsg_e, ↓FD.gSet_e, ↓FD.sDrop_e, ↓FD.sNext_e, ↓FD.sPar_e, ↓FD.sPar3_e, ↓FD.wIf_e, ↓FD.wOp_e, ↓FD.wUn_e, ↓FD.wVar_e, ↓FD.wC_e, ↓FD.wTst_e, ↓FD.wAnd_e, ↓FD.wOr_e, ↓FD.wNot_e, ↓FD.wAndV_e, ↓FD.wOrV_e, ↓FD.wNotV_e, ↓FD.wChain_e, ↓FD.aNil_e, ↓FD.aCons_e, ↓FD.wTup_e, ↓FD.wLst_e, ↓FD.wFtp_e, ↓FD.wNew_e, ↓FD.wCall_e, ↓FD.wB_e, ↓FD.wSl_e, ↓FD.oSome_e, ↓FD.oNone_e, ↓FD.wIsi_e, ↓FD.wIsiC_e, ↓FD.p1_e, ↓FD.p2_e, ↓FD.gLen_e, ↓FD.iLst_e, ↓FD.iTup_e, ↓FD.iStrD_e, ↓FD.iEnT_e, ↓FD.iEnL_e, ↓FD.iRng_e, ↓FD.iRng2_e, ↓FD.gTup_e, ↓FD.gsNil_e, ↓FD.gsCons_e, ↓FD.wM_e, ↓FD.wIxT_e, ↓FD.wFld_e, ↓FD.wMeth_e, ↓FD.wMake_e, ↓FD.sFldD_e, ↓FD.wDGet_e, ↓FD.sDput_e, ↓FD.wDNewK_e, ↓FD.wDNewT_e, ↓FD.wDisp1_e, ↓FD.wIce_e, ↓FD.gSub_e, ↓FD.wCallK_e, ↓FD.t1_e, ↓FD.t2_e, ↓FD.t1w_e, ↓FD.tYesD_e, ↓FD.gDIn_e, ↓FD.gDNin_e, ↓FD.gIndexT_e, ↓FD.gIndex_e, ↓FD.gInt_e, ↓FD.gAbs_e, ↓FD.gMax_e, ↓FD.gMin_e, ↓FD.gDivmod_e, ↓FD.wFz_e, ↓FD.wDGetD_e, ↓FD.t3_e, ↓FD.iZip3D_e, ↓sFor_eq, ↓wLc_eq, ↓wLc2_eq, ↓wDc_eq, ↓look_zero, ↓look_succ, ↓got_so, ↓isB_bl, ↓isI_int, ↓isS_str, ↓isT_tup, ↓isT_ftp, ↓isT_ktp, ↓isT_tp, ↓one_one, ↓two_two, ↓startD_cc, ↓startD_cn, ↓startD_nn, ↓FD.ix_str, ↓FD.ix_tup, ↓ix_ftp, ↓ix_ktp, ↓ix_lst, ↓ix_scr, ↓ix_tp, ↓atI0, ↓atI1, ↓atI2, ↓atI3, ↓FD.eq_str, ↓FD.ne_str, ↓FD.eq_int, ↓FD.ne_int, ↓FD.add_int, ↓FD.sub_int, ↓FD.lt_int, ↓FD.le_int, ↓FD.gt_int, ↓FD.ge_int, ↓FD.add_str, ↓FD.add_lst, ↓FD.add_tup, ↓FD.mul_int, ↓FD.mod_int, ↓FD.fdiv_int, ↓FD.pow_int, ↓isN_non, ↓notN_non, ↓FD.len_str, ↓len_tup, ↓len_ftp, ↓len_ktp, ↓len_lst, ↓len_scr, ↓len_tp, ↓seq_tup, ↓seq_ftp, ↓seq_ktp, ↓seq_lst, ↓seq_scr, ↓seq_tp, ↓in_tup, ↓in_ftp, ↓in_ktp, ↓in_lst, ↓nin_tup, ↓nin_ftp, ↓nin_ktp, ↓nin_lst, ↓FD.in_str, ↓nin_str, ↓isC_one, ↓asL_lst, ↓asL_scr, ↓if_tt, ↓if_ff, ↓isi_ss, ↓isi_tt, ↓isi_st, ↓isi_ts, ↓ty_str, ↓ty_tup, ↓ty_ftp, ↓ty_tp, ↓all_lst, ↓any_lst, ↓flat_s, ↓flat_set, ↓tuple_lst, ↓FD.int_int, ↓eq_ftp_nil, ↓ne_ftp_nil, ↓isNon_non, ↓isNon_int, ↓isNon_str, ↓isNon_ptr, ↓isNon_tup, ↓isNon_ftp, ↓inL_strs, ↓flatSs, ↓inL_sets, ↓flatSets, ↓FM.tw, ↓FM.tw3, ↓FM.sl_str, ↓sl_set, ↓cell_upd, ↓lk_sw, ↓lk_ru, ↓lk_st, ↓lk_place, ↓lk_has, ↓lk_keeps, ↓lk_wrongs, ↓lk_goods, ↓lk_ways_from, ↓lk_text, ↓ins_pan, ↓FD.fit_le, ↓cx_K, ↓nox_K, ↓blk_K, ↓bx_K, ↓c1, ↓c2, ↓c3, ↓c4, ↓inL_cons, ↓inL_nil, ↓all_bools, ↓any_bools, ↓in_tp, ↓nin_tp, ↓FM.sl_ftp, ↓FM.sl_tup, ↓FM.sl_lst, ↓FM.sl_scr, ↓index_eq, ↓ex_ftp, ↓eqd_str, ↓wf_at, ↓isT_cl, ↓isT_st, ↓isT_lit, ↓ix_lit0, ↓ix_lit1, ↓len_lit, ↓ty_lit, ↓eq_lit, ↓ne_lit, ↓eq_set, ↓ne_set, ↓len_set, ↓ty_set, ↓isS_set, ↓isC_sg, ↓sNever_e, ↓enumD_map, ↓dpAll_strs, ↓dpAll_mapI, ↓ne_lst_nil, ↓eq_lst_nil, ↓isT_grp, ↓len_grp, ↓isDc_wf, ↓wn_at, ↓isT_way, ↓len_way, ↓ty_way, ↓ty_st, ↓len_st, ↓ix_st0, ↓ix_st1, ↓inD_lits, ↓ninD_lits, ↓dpAll_sets, ↓three_three, ↓zip3_sets, ↓isT_z3, ↓inL_lock, ↓ninT_lits, ↓FM.tp_t, ↓FM.tp_f, Bool.not_true, Bool.not_false, Bool.false_eq_true, if_false, if_true, true_and, and_true, List.set_cons_zero, List.set_cons_succ, List.length_cons, List.length_nil, List.length_map, eq_self, decide_true, decide_false, Bool.true_eq_false, or_self, Bool.or_self, List.all_cons, List.all_nil, Bool.and_true, Bool.true_and, Bool.or_false, Bool.false_or, Bool.or_true, Bool.true_or, Bool.and_false, Bool.false_and, Int.reduceLT, Int.reduceLE, Int.reduceEq, Nat.reduceLeDiff, Nat.reduceAdd, Nat.reduceLT, wf_some, wn_some, fold_lit, fold_litp, fold_litm, sg_iff, sg_in_pm, isNon_opt, isEmpty_map, ↓reduceIte, nq_0_1, nq_0_2, nq_0_3, nq_0_4, nq_0_5, nq_0_6, nq_0_7, nq_1_0, nq_1_2, nq_1_3, nq_1_4, nq_1_5, nq_1_6, nq_1_7, nq_2_0, nq_2_1, nq_2_3, nq_2_4, nq_2_5, nq_2_6, nq_2_7, nq_3_0, nq_3_1, nq_3_2, nq_3_4, nq_3_5, nq_3_6, nq_3_7, nq_4_0, nq_4_1, nq_4_2, nq_4_3, nq_4_5, nq_4_6, nq_4_7, nq_5_0, nq_5_1, nq_5_2, nq_5_3, nq_5_4, nq_5_6, nq_5_7, nq_6_0, nq_6_1, nq_6_2, nq_6_3, nq_6_4, nq_6_5, nq_6_7, nq_7_0, nq_7_1, nq_7_2, nq_7_3, nq_7_4, nq_7_5, nq_7_6])
section
variable {P : Program} {w : World} {K : PySem.W.Frag} {mg : Str → Option Value} {base : Heap}
theorem sc_is_name : FnScope ["value", "letter"] ["value"] (defScope (top 18)) := ⟨rfl, rfl, rfl, by decide +kernel, rfl, by decide +kernel, by decide +kernel⟩
def sp_is_name : DSp := fun ds M post => ∃ s, ds = [.str s] ∧ post (.bl (nameOk s)) M
theorem cl_is_name {s : Str} {M : Mem} {post : WK} : sp_is_name [.str s] M post = post (.bl (nameOk s)) M := by
  simp [-Bool.exists_bool, sp_is_name, tp_inj, litD_inj, strs_inj, ruleD_inj, clD_inj, setD_inj, rules_inj, lits_inj, sets_inj, ints_inj, panF_inj, rngs_inj, rngE_inj, sg_inj, and_assoc, Int.natCast_inj]
theorem fn_is_name (T : Tx P w K mg base) : Fng P w K mg base 1 "is_name" (top 18) ["value"] sp_is_name := by
  have S := sc_is_name
  refine fng_of T.d_is_name T.g_is_name S (fun ds M post h => by unfold sp_is_name at h; grind) fun f cdv A outer s H gd hr => ⟨_, (ds_cons (ds_if (PW.pt (dw_or (dt_not (dt_val (de_isi (T := "str") (dv 0) T.m_isinstance T.m_str (by decide +kernel)))) (dw_or (dt_not (dt_chain o_le o_le dint (de_b c_len T.m_len (by decide +kernel) (da_cons (dv 0) da_nil)) T.k_MOST_NAME)) (dw_or1 (dt_cmp o_in (dv 0) T.k_WORDS)))))
      (ds_one (ds_ret dbl))
      ds_nil)
      (ds_one (ds_ret (de_b (c_all rfl) T.m_all (by decide +kernel) (da_cons (de_lc (own := [("letter", 1)]) rfl S.nd (di_str (dv 0)) (blkOk_by (N := ["value", "letter"]) (sc := defScope (top 18)) (by decide +kernel)) tgt1 (fun _ _ _ _ _ => pg_name (i := 1) S.nd rfl (Or.inl rfl)) (fun _ _ _ _ _ => dts_nil) (fun _ _ _ _ _ => (de_cmp o_in (dv 1) T.k_LETTERS))) da_nil))))), ?_⟩
  rintro ds M post ⟨s, rfl, h⟩
  have hw : (decide (Str.ofString "be" = s) || (decide (Str.ofString "either" = s) || (decide (Str.ofString "needs" = s) || (decide (Str.ofString "bars" = s) || (decide (Str.ofString "same" = s) || decide (Str.ofString "unlike" = s)))))) = decide (s ∈ words) := by
    rw [Bool.eq_iff_iff]
    simp only [words, List.mem_cons, List.not_mem_nil, or_false, Bool.or_eq_true, decide_eq_true_eq, @eq_comm Str s]
  (try walk_at "w")
  rw [hw]
  unfold nameOk at h
  by_cases h1 : 1 ≤ s.length
  · by_cases h2 : s.length ≤ 8
    · rw [if_pos (by simp; omega), if_neg (by simp; omega)]
      by_cases h3 : s ∈ words
      · rw [if_pos (by simp [h3])]
        simpa [h3] using h
      · rw [if_neg (by simp [h3])]
        refine lc_map s.cps.toList (fun c => .str ⟨#[c]⟩) (fun c => D.bl (decide (c ∈ letters.cps.toList))) trivial ?_ ?_
        · intro c hc yes hy
          (try walk_at "w")
          exact hy
        · rw [all_bools]
          simpa [h1, h2, h3] using h
    · rw [if_pos (by simp; omega), if_pos (by simp; omega)]
      simpa [h2] using h
  · rw [if_neg (by simp; omega)]
    simpa [h1] using h
theorem ok_is_name (T : Tx P w K mg base) : Pub P w K mg base 1 "is_name" ["value"] sp_is_name := (fn_is_name T).pub fun _ _ _ _ _ _ us hl => match us, hl with | [_], _ => rfl
theorem sc_wrong_switch : FnScope ["value", "index", "name"] ["value"] (defScope (top 36)) := ⟨rfl, rfl, rfl, by decide +kernel, rfl, by decide +kernel, by decide +kernel⟩
def sp_wrong_switch : DSp := fun ds M post => ∃ ss : List Str, ds = [strsF ss] ∧ post (optD (wrongSw ss)) M
theorem cl_wrong_switch {ss : List Str} {M : Mem} {post : WK} : sp_wrong_switch [strsF ss] M post = post (optD (wrongSw ss)) M := by
  simp [-Bool.exists_bool, sp_wrong_switch, tp_inj, litD_inj, strs_inj, ruleD_inj, clD_inj, setD_inj, rules_inj, lits_inj, sets_inj, ints_inj, panF_inj, rngs_inj, rngE_inj, sg_inj, and_assoc, Int.natCast_inj]
local macro_rules | `(tactic| walk_at "wrong_switch") => `(tactic| simp only [↓cl_is_name, cl_is_name, ↓FD.sSeq_e, ↓FD.sRet_e, ↓FD.sIf_e, ↓FD.sAsg_e, ↓FD.gSet_e, ↓FD.sDrop_e, ↓FD.sNext_e, ↓FD.sPar_e, ↓FD.sPar3_e, ↓FD.wIf_e, ↓FD.wOp_e, ↓FD.wUn_e, ↓FD.wVar_e, ↓FD.wC_e, ↓FD.wTst_e, ↓FD.wAnd_e, ↓FD.wOr_e, ↓FD.wNot_e, ↓FD.wAndV_e, ↓FD.wOrV_e, ↓FD.wNotV_e, ↓FD.wChain_e, ↓FD.aNil_e, ↓FD.aCons_e, ↓FD.wTup_e, ↓FD.wLst_e, ↓FD.wFtp_e, ↓FD.wNew_e, ↓FD.wCall_e, ↓FD.wB_e, ↓FD.wSl_e, ↓FD.oSome_e, ↓FD.oNone_e, ↓FD.wIsi_e, ↓FD.wIsiC_e, ↓FD.p1_e, ↓FD.p2_e, ↓FD.gLen_e, ↓FD.iLst_e, ↓FD.iTup_e, ↓FD.iStrD_e, ↓FD.iEnT_e, ↓FD.iEnL_e, ↓FD.iRng_e, ↓FD.iRng2_e, ↓FD.gTup_e, ↓FD.gsNil_e, ↓FD.gsCons_e, ↓FD.wM_e, ↓FD.wIxT_e, ↓FD.wFld_e, ↓FD.wMeth_e, ↓FD.wMake_e, ↓FD.sFldD_e, ↓FD.wDGet_e, ↓FD.sDput_e, ↓FD.wDNewK_e, ↓FD.wDNewT_e, ↓FD.wDisp1_e, ↓FD.wIce_e, ↓FD.gSub_e, ↓FD.wCallK_e, ↓FD.t1_e, ↓FD.t2_e, ↓FD.t1w_e, ↓FD.tYesD_e, ↓FD.gDIn_e, ↓FD.gDNin_e, ↓FD.gIndexT_e, ↓FD.gIndex_e, ↓FD.gInt_e, ↓FD.gAbs_e, ↓FD.gMax_e, ↓FD.gMin_e, ↓FD.gDivmod_e, ↓FD.wFz_e, ↓FD.wDGetD_e, ↓FD.t3_e, ↓FD.iZip3D_e, ↓sFor_eq, ↓wLc_eq, ↓wLc2_eq, ↓wDc_eq, ↓look_zero, ↓look_succ, ↓got_so, ↓isB_bl, ↓isI_int, ↓isS_str, ↓isT_tup, ↓isT_ftp, ↓isT_ktp, ↓isT_tp, ↓one_one, ↓two_two, ↓startD_cc, ↓startD_cn, ↓startD_nn, ↓FD.ix_str, ↓FD.ix_tup, ↓ix_ftp, ↓ix_ktp, ↓ix_lst, ↓ix_scr, ↓ix_tp, ↓atI0, ↓atI1, ↓atI2, ↓atI3, ↓FD.eq_str, ↓FD.ne_str, ↓FD.eq_int, ↓FD.ne_int, ↓FD.add_int, ↓FD.sub_int, ↓FD.lt_int, ↓FD.le_int, ↓FD.gt_int, ↓FD.ge_int, ↓FD.add_str, ↓FD.add_lst, ↓FD.add_tup, ↓FD.mul_int, ↓FD.mod_int, ↓FD.fdiv_int, ↓FD.pow_int, ↓isN_non, ↓notN_non, ↓FD.len_str, ↓len_tup, ↓len_ftp, ↓len_ktp, ↓len_lst, ↓len_scr, ↓len_tp, ↓seq_tup, ↓seq_ftp, ↓seq_ktp, ↓seq_lst, ↓seq_scr, ↓seq_tp, ↓in_tup, ↓in_ftp, ↓in_ktp, ↓in_lst, ↓nin_tup, ↓nin_ftp, ↓nin_ktp, ↓nin_lst, ↓FD.in_str, ↓nin_str, ↓isC_one, ↓asL_lst, ↓asL_scr, ↓if_tt, ↓if_ff, ↓isi_ss, ↓isi_tt, ↓isi_st, ↓isi_ts, ↓ty_str, ↓ty_tup, ↓ty_ftp, ↓ty_tp, ↓all_lst, ↓any_lst, ↓flat_s, ↓flat_set, ↓tuple_lst, ↓FD.int_int, ↓eq_ftp_nil, ↓ne_ftp_nil, ↓isNon_non, ↓isNon_int, ↓isNon_str, ↓isNon_ptr, ↓isNon_tup, ↓isNon_ftp, ↓inL_strs, ↓flatSs, ↓inL_sets, ↓flatSets, ↓FM.tw, ↓FM.tw3, ↓FM.sl_str, ↓sl_set, ↓cell_upd, ↓lk_sw, ↓lk_ru, ↓lk_st, ↓lk_place, ↓lk_has, ↓lk_keeps, ↓lk_wrongs, ↓lk_goods, ↓lk_ways_from, ↓lk_text, ↓ins_pan, ↓FD.fit_le, ↓cx_K, ↓nox_K, ↓blk_K, ↓bx_K, ↓c1, ↓c2, ↓c3, ↓c4, ↓inL_cons, ↓inL_nil, ↓all_bools, ↓any_bools, ↓in_tp, ↓nin_tp, ↓FM.sl_ftp, ↓FM.sl_tup, ↓FM.sl_lst, ↓FM.sl_scr, ↓index_eq, ↓ex_ftp, ↓eqd_str, ↓wf_at, ↓isT_cl, ↓isT_st, ↓isT_lit, ↓ix_lit0, ↓ix_lit1, ↓len_lit, ↓ty_lit, ↓eq_lit, ↓ne_lit, ↓eq_set, ↓ne_set, ↓len_set, ↓ty_set, ↓isS_set, ↓isC_sg, ↓sNever_e, ↓enumD_map, ↓dpAll_strs, ↓dpAll_mapI, ↓ne_lst_nil, ↓eq_lst_nil, ↓isT_grp, ↓len_grp, ↓isDc_wf, ↓wn_at, ↓isT_way, ↓len_way, ↓ty_way, ↓ty_st, ↓len_st, ↓ix_st0, ↓ix_st1, ↓inD_lits, ↓ninD_lits, ↓dpAll_sets, ↓three_three, ↓zip3_sets, ↓isT_z3, ↓inL_lock, ↓ninT_lits, ↓FM.tp_t, ↓FM.tp_f, Bool.not_true, Bool.not_false, Bool.false_eq_true, if_false, if_true, true_and, and_true, List.set_cons_zero, List.set_cons_succ, List.length_cons, List.length_nil, List.length_map, eq_self, decide_true, decide_false, Bool.true_eq_false, or_self, Bool.or_self, List.all_cons, List.all_nil, Bool.and_true, Bool.true_and, Bool.or_false, Bool.false_or, Bool.or_true, Bool.true_or, Bool.and_false, Bool.false_and, Int.reduceLT, Int.reduceLE, Int.reduceEq, Nat.reduceLeDiff, Nat.reduceAdd, Nat.reduceLT, wf_some, wn_some, fold_lit, fold_litp, fold_litm, sg_iff, sg_in_pm, isNon_opt, isEmpty_map, ↓reduceIte, nq_0_1, nq_0_2, nq_0_3, nq_0_4, nq_0_5, nq_0_6, nq_0_7, nq_1_0, nq_1_2, nq_1_3, nq_1_4, nq_1_5, nq_1_6, nq_1_7, nq_2_0, nq_2_1, nq_2_3, nq_2_4, nq_2_5, nq_2_6, nq_2_7, nq_3_0, nq_3_1, nq_3_2, nq_3_4, nq_3_5, nq_3_6, nq_3_7, nq_4_0, nq_4_1, nq_4_2, nq_4_3, nq_4_5, nq_4_6, nq_4_7, nq_5_0, nq_5_1, nq_5_2, nq_5_3, nq_5_4, nq_5_6, nq_5_7, nq_6_0, nq_6_1, nq_6_2, nq_6_3, nq_6_4, nq_6_5, nq_6_7, nq_7_0, nq_7_1, nq_7_2, nq_7_3, nq_7_4, nq_7_5, nq_7_6])
theorem fn_wrong_switch (T : Tx P w K mg base) : Fng P w K mg base 2 "wrong_switch" (top 36) ["value"] sp_wrong_switch := by
  have S := sc_wrong_switch
  refine fng_of T.d_wrong_switch T.g_wrong_switch S (fun ds M post h => by unfold sp_wrong_switch at h; grind) fun f cdv A outer s H gd hr => ⟨_, (ds_cons (ds_for PassesOwn.never rfl (di_enumT T.m_enumerate (da_cons (dv 0) da_nil)) (dg_tup (n := 2) rfl (dgs_cons (dg_name (i := 1) S.nd) (dgs_cons (dg_name (i := 2) S.nd) dgs_nil)))
      (ds_one (ds_if (PW.pt (dw_or (dt_cmp (o_eq hr) (dv 1) T.k_MOST_SWITCHES) (dw_or (dt_not (dt_val (de_call (ok_is_name T) (hr.mono (by decide)) gd (da_cons (dv 2) da_nil)))) (dw_or1 (dt_cmp o_in (dv 2) (de_slice o_slice (dv 0) do_none (do_some (dv 1))))))))
      (ds_one (ds_ret (dv 1)))
      ds_nil)))
      (ds_one (ds_ret dnon))), ?_⟩
  rintro ds M post ⟨ss, rfl, h⟩
  (try walk_at "wrong_switch")
  refine for_find ss.zipIdx (fun p => D.tup [.int (p.2 : Int), .str p.1]) (fun p => decide (p.2 = 10) || !nameOk p.1 || decide (p.1 ∈ ss.take p.2)) (fun Γ' M' => ∃ x y, Γ' = [some (strsF ss), x, y] ∧ M' = M) ⟨_, _, rfl, rfl⟩ (fun _ _ _ => trivial) ?_ ?_
  · rintro ⟨s, i⟩ hx Γ' M' ⟨x, y, rfl, rfl⟩ N
    refine ⟨fun hc hf => ?_, fun hc hN => ?_⟩
    · have e : wrongSw ss = some i := by unfold wrongSw; rw [hf]; rfl
      rw [e] at h
      (try walk_at "wrong_switch")
      by_cases h1 : i = 10
      · subst h1; (try walk_at "wrong_switch"); exact h
      · rw [if_neg (by simp; omega)]
        cases h2 : nameOk s with
        | false => (try walk_at "wrong_switch"); exact h
        | true =>
          (try walk_at "wrong_switch")
          rw [cutL_map, inL_strs, cutL_take, flatSs]
          simp [h1, h2] at hc
          simp only [hc, decide_true, if_true, true_and]
          exact h
    · (try walk_at "wrong_switch")
      simp at hc
      rw [if_neg (by simp; omega)]
      simp only [hc.1.2]
      (try walk_at "wrong_switch")
      rw [cutL_map, inL_strs, cutL_take, flatSs]
      simp only [hc.2, decide_false, Bool.false_eq_true, if_false, true_and]
      exact hN _ _ ⟨_, _, rfl, rfl⟩
  · rintro hf Γ' M' ⟨x, y, rfl, rfl⟩
    have e : wrongSw ss = none := by unfold wrongSw; rw [hf]; rfl
    rw [e] at h
    exact h
theorem ok_wrong_switch (T : Tx P w K mg base) : Pub P w K mg base 2 "wrong_switch" ["value"] sp_wrong_switch := (fn_wrong_switch T).pub fun _ _ _ _ _ _ us hl => match us, hl with | [_], _ => rfl
theorem sc_check_switches : FnScope ["switches", "wrong"] ["switches"] (defScope (top 40)) := ⟨rfl, rfl, rfl, by decide +kernel, rfl, by decide +kernel, by decide +kernel⟩
def sp_check_switches : DSp := fun ds M post => ∃ ss : List Str, ds = [strsF ss] ∧ ss ≠ [] ∧ wrongSw ss = none ∧ post .non M
theorem cl_check_switches {ss : List Str} {M : Mem} {post : WK} : sp_check_switches [strsF ss] M post = (ss ≠ [] ∧ wrongSw ss = none ∧ post .non M) := by
  simp [-Bool.exists_bool, sp_check_switches, tp_inj, litD_inj, strs_inj, ruleD_inj, clD_inj, setD_inj, rules_inj, lits_inj, sets_inj, ints_inj, panF_inj, rngs_inj, rngE_inj, sg_inj, and_assoc, Int.natCast_inj]
local macro_rules | `(tactic| walk_at "check_switches") => `(tactic| simp only [↓cl_wrong_switch, cl_wrong_switch, ↓FD.sSeq_e, ↓FD.sRet_e, ↓FD.sIf_e, ↓FD.sAsg_e, ↓FD.gSet_e, ↓FD.sDrop_e, ↓FD.sNext_e, ↓FD.sPar_e, ↓FD.sPar3_e, ↓FD.wIf_e, ↓FD.wOp_e, ↓FD.wUn_e, ↓FD.wVar_e, ↓FD.wC_e, ↓FD.wTst_e, ↓FD.wAnd_e, ↓FD.wOr_e, ↓FD.wNot_e, ↓FD.wAndV_e, ↓FD.wOrV_e, ↓FD.wNotV_e, ↓FD.wChain_e, ↓FD.aNil_e, ↓FD.aCons_e, ↓FD.wTup_e, ↓FD.wLst_e, ↓FD.wFtp_e, ↓FD.wNew_e, ↓FD.wCall_e, ↓FD.wB_e, ↓FD.wSl_e, ↓FD.oSome_e, ↓FD.oNone_e, ↓FD.wIsi_e, ↓FD.wIsiC_e, ↓FD.p1_e, ↓FD.p2_e, ↓FD.gLen_e, ↓FD.iLst_e, ↓FD.iTup_e, ↓FD.iStrD_e, ↓FD.iEnT_e, ↓FD.iEnL_e, ↓FD.iRng_e, ↓FD.iRng2_e, ↓FD.gTup_e, ↓FD.gsNil_e, ↓FD.gsCons_e, ↓FD.wM_e, ↓FD.wIxT_e, ↓FD.wFld_e, ↓FD.wMeth_e, ↓FD.wMake_e, ↓FD.sFldD_e, ↓FD.wDGet_e, ↓FD.sDput_e, ↓FD.wDNewK_e, ↓FD.wDNewT_e, ↓FD.wDisp1_e, ↓FD.wIce_e, ↓FD.gSub_e, ↓FD.wCallK_e, ↓FD.t1_e, ↓FD.t2_e, ↓FD.t1w_e, ↓FD.tYesD_e, ↓FD.gDIn_e, ↓FD.gDNin_e, ↓FD.gIndexT_e, ↓FD.gIndex_e, ↓FD.gInt_e, ↓FD.gAbs_e, ↓FD.gMax_e, ↓FD.gMin_e, ↓FD.gDivmod_e, ↓FD.wFz_e, ↓FD.wDGetD_e, ↓FD.t3_e, ↓FD.iZip3D_e, ↓sFor_eq, ↓wLc_eq, ↓wLc2_eq, ↓wDc_eq, ↓look_zero, ↓look_succ, ↓got_so, ↓isB_bl, ↓isI_int, ↓isS_str, ↓isT_tup, ↓isT_ftp, ↓isT_ktp, ↓isT_tp, ↓one_one, ↓two_two, ↓startD_cc, ↓startD_cn, ↓startD_nn, ↓FD.ix_str, ↓FD.ix_tup, ↓ix_ftp, ↓ix_ktp, ↓ix_lst, ↓ix_scr, ↓ix_tp, ↓atI0, ↓atI1, ↓atI2, ↓atI3, ↓FD.eq_str, ↓FD.ne_str, ↓FD.eq_int, ↓FD.ne_int, ↓FD.add_int, ↓FD.sub_int, ↓FD.lt_int, ↓FD.le_int, ↓FD.gt_int, ↓FD.ge_int, ↓FD.add_str, ↓FD.add_lst, ↓FD.add_tup, ↓FD.mul_int, ↓FD.mod_int, ↓FD.fdiv_int, ↓FD.pow_int, ↓isN_non, ↓notN_non, ↓FD.len_str, ↓len_tup, ↓len_ftp, ↓len_ktp, ↓len_lst, ↓len_scr, ↓len_tp, ↓seq_tup, ↓seq_ftp, ↓seq_ktp, ↓seq_lst, ↓seq_scr, ↓seq_tp, ↓in_tup, ↓in_ftp, ↓in_ktp, ↓in_lst, ↓nin_tup, ↓nin_ftp, ↓nin_ktp, ↓nin_lst, ↓FD.in_str, ↓nin_str, ↓isC_one, ↓asL_lst, ↓asL_scr, ↓if_tt, ↓if_ff, ↓isi_ss, ↓isi_tt, ↓isi_st, ↓isi_ts, ↓ty_str, ↓ty_tup, ↓ty_ftp, ↓ty_tp, ↓all_lst, ↓any_lst, ↓flat_s, ↓flat_set, ↓tuple_lst, ↓FD.int_int, ↓eq_ftp_nil, ↓ne_ftp_nil, ↓isNon_non, ↓isNon_int, ↓isNon_str, ↓isNon_ptr, ↓isNon_tup, ↓isNon_ftp, ↓inL_strs, ↓flatSs, ↓inL_sets, ↓flatSets, ↓FM.tw, ↓FM.tw3, ↓FM.sl_str, ↓sl_set, ↓cell_upd, ↓lk_sw, ↓lk_ru, ↓lk_st, ↓lk_place, ↓lk_has, ↓lk_keeps, ↓lk_wrongs, ↓lk_goods, ↓lk_ways_from, ↓lk_text, ↓ins_pan, ↓FD.fit_le, ↓cx_K, ↓nox_K, ↓blk_K, ↓bx_K, ↓c1, ↓c2, ↓c3, ↓c4, ↓inL_cons, ↓inL_nil, ↓all_bools, ↓any_bools, ↓in_tp, ↓nin_tp, ↓FM.sl_ftp, ↓FM.sl_tup, ↓FM.sl_lst, ↓FM.sl_scr, ↓index_eq, ↓ex_ftp, ↓eqd_str, ↓wf_at, ↓isT_cl, ↓isT_st, ↓isT_lit, ↓ix_lit0, ↓ix_lit1, ↓len_lit, ↓ty_lit, ↓eq_lit, ↓ne_lit, ↓eq_set, ↓ne_set, ↓len_set, ↓ty_set, ↓isS_set, ↓isC_sg, ↓sNever_e, ↓enumD_map, ↓dpAll_strs, ↓dpAll_mapI, ↓ne_lst_nil, ↓eq_lst_nil, ↓isT_grp, ↓len_grp, ↓isDc_wf, ↓wn_at, ↓isT_way, ↓len_way, ↓ty_way, ↓ty_st, ↓len_st, ↓ix_st0, ↓ix_st1, ↓inD_lits, ↓ninD_lits, ↓dpAll_sets, ↓three_three, ↓zip3_sets, ↓isT_z3, ↓inL_lock, ↓ninT_lits, ↓FM.tp_t, ↓FM.tp_f, Bool.not_true, Bool.not_false, Bool.false_eq_true, if_false, if_true, true_and, and_true, List.set_cons_zero, List.set_cons_succ, List.length_cons, List.length_nil, List.length_map, eq_self, decide_true, decide_false, Bool.true_eq_false, or_self, Bool.or_self, List.all_cons, List.all_nil, Bool.and_true, Bool.true_and, Bool.or_false, Bool.false_or, Bool.or_true, Bool.true_or, Bool.and_false, Bool.false_and, Int.reduceLT, Int.reduceLE, Int.reduceEq, Nat.reduceLeDiff, Nat.reduceAdd, Nat.reduceLT, wf_some, wn_some, fold_lit, fold_litp, fold_litm, sg_iff, sg_in_pm, isNon_opt, isEmpty_map, ↓reduceIte, nq_0_1, nq_0_2, nq_0_3, nq_0_4, nq_0_5, nq_0_6, nq_0_7, nq_1_0, nq_1_2, nq_1_3, nq_1_4, nq_1_5, nq_1_6, nq_1_7, nq_2_0, nq_2_1, nq_2_3, nq_2_4, nq_2_5, nq_2_6, nq_2_7, nq_3_0, nq_3_1, nq_3_2, nq_3_4, nq_3_5, nq_3_6, nq_3_7, nq_4_0, nq_4_1, nq_4_2, nq_4_3, nq_4_5, nq_4_6, nq_4_7, nq_5_0, nq_5_1, nq_5_2, nq_5_3, nq_5_4, nq_5_6, nq_5_7, nq_6_0, nq_6_1, nq_6_2, nq_6_3, nq_6_4, nq_6_5, nq_6_7, nq_7_0, nq_7_1, nq_7_2, nq_7_3, nq_7_4, nq_7_5, nq_7_6])
theorem fn_check_switches (T : Tx P w K mg base) : Fng P w K mg base 3 "check_switches" (top 40) ["switches"] sp_check_switches := by
  have S := sc_check_switches
  refine fng_of T.d_check_switches T.g_check_switches S (fun ds M post h => by unfold sp_check_switches at h; grind) fun f cdv A outer s H gd hr => ⟨_, (ds_cons (ds_if (PW.pt (dw_or (dt_not (dt_val (de_isi (T := "tuple") (dv 0) T.m_isinstance T.m_tuple (by decide +kernel)))) (dw_or1 (dt_cmp (o_eq hr) (dv 0) (de_tup da_nil)))))
      (ds_one ds_never)
      ds_nil)
      (ds_cons (ds_set (i := 1) S.nd (de_call (ok_wrong_switch T) (hr.mono (by decide)) gd (da_cons (dv 0) da_nil)))
      (ds_one (ds_if (dt_cmp o_notN (dv 1) dnon)
      (ds_one ds_never)
      ds_nil)))), ?_⟩
  rintro ds M post ⟨ss, rfl, h1, h2, h⟩
  have e : ss.isEmpty = false := by cases ss with | nil => exact absurd rfl h1 | cons a b => rfl
  (try walk_at "check_switches")
  simp only [e, h2]
  (try walk_at "check_switches")
  exact h
theorem ok_check_switches (T : Tx P w K mg base) : Pub P w K mg base 3 "check_switches" ["switches"] sp_check_switches := (fn_check_switches T).pub fun _ _ _ _ _ _ us hl => match us, hl with | [_], _ => rfl
theorem sc_is_literal : FnScope ["value", "switches"] ["value", "switches"] (defScope (top 20)) := ⟨rfl, rfl, rfl, by decide +kernel, rfl, by decide +kernel, by decide +kernel⟩
def sp_is_literal : DSp := fun ds M post => ∃ a ss, ds = [litD a, strsF ss] ∧ post (.bl (litOk ss a)) M
theorem cl_is_literal {a : Lit} {ss : List Str} {M : Mem} {post : WK} : sp_is_literal [litD a, strsF ss] M post = post (.bl (litOk ss a)) M := by
  simp [-Bool.exists_bool, sp_is_literal, tp_inj, litD_inj, strs_inj, ruleD_inj, clD_inj, setD_inj, rules_inj, lits_inj, sets_inj, ints_inj, panF_inj, rngs_inj, rngE_inj, sg_inj, and_assoc, Int.natCast_inj]
theorem fn_is_literal (T : Tx P w K mg base) : Fng P w K mg base 1 "is_literal" (top 20) ["value", "switches"] sp_is_literal := by
  have S := sc_is_literal
  refine fng_of T.d_is_literal T.g_is_literal S (fun ds M post h => by unfold sp_is_literal at h; grind) fun f cdv A outer s H gd hr => ⟨_, (ds_cons (ds_if (PW.pt (dw_or (dt_not (dt_val (de_isi (T := "tuple") (dv 0) T.m_isinstance T.m_tuple (by decide +kernel)))) (dw_or (dt_cmp (o_ne hr) (de_b c_len T.m_len (by decide +kernel) (da_cons (dv 0) da_nil)) dint) (dw_or (dt_not (dt_val (de_isi (T := "str") (de_ix o_ix (dv 0) dint) T.m_isinstance T.m_str (by decide +kernel)))) (dw_or1 (dt_cmp o_nin (de_ix o_ix (dv 0) dint) (dv 1)))))))
      (ds_one (ds_ret dbl))
      ds_nil)
      (ds_one (ds_ret (de_and (de_isi (T := "str") (de_ix o_ix (dv 0) dint) T.m_isinstance T.m_str (by decide +kernel)) (de_one (de_cmp o_in (de_ix o_ix (dv 0) dint) (de_tup (da_cons dstr (da_cons dstr da_nil))))))))), ?_⟩
  rintro ds M post ⟨a, ss, rfl, h⟩
  have e : (decide (Str.ofString "+" = sg a.s) || decide (Str.ofString "-" = sg a.s)) = true := by cases a.s <;> decide +kernel
  unfold litD
  (try walk_at "w")
  rw [e]
  unfold litOk at h
  by_cases h1 : a.n ∈ ss
  · rw [if_neg (by simp [h1])]
    simpa [h1] using h
  · rw [if_pos (by simp [h1])]
    simpa [h1] using h
theorem ok_is_literal (T : Tx P w K mg base) : Pub P w K mg base 1 "is_literal" ["value", "switches"] sp_is_literal := (fn_is_literal T).pub fun _ _ _ _ _ _ us hl => match us, hl with | [_, _], _ => rfl
end
end LW

namespace LW
open PySem PySem.Spec PyProof.Rows L2 FD FM
local macro_rules | `(tactic| walk_at "w") => `(tactic| simp only [↓FD.sSeq_e, ↓FD.sRet_e, ↓FD.sIf_e, ↓FD.sAsg_e, ↓FD.gSet_e, ↓FD.sDrop_e, ↓FD.sNext_e, ↓FD.sPar_e, ↓FD.sPar3_e, ↓FD.wIf_e, ↓FD.wOp_e, ↓FD.wUn_e, ↓FD.wVar_e, ↓FD.wC_e, ↓FD.wTst_e, ↓FD.wAnd_e, ↓FD.wOr_e, ↓FD.wNot_e, ↓FD.wAndV_e, ↓FD.wOrV_e, ↓FD.wNotV_e, ↓FD.wChain_e, ↓FD.aNil_e, ↓FD.aCons_e, ↓FD.wTup_e, ↓FD.wLst_e, ↓FD.wFtp_e, ↓FD.wNew_e, ↓FD.wCall_e, ↓FD.wB_e, ↓FD.wSl_e, ↓FD.oSome_e, ↓FD.oNone_e, ↓FD.wIsi_e, ↓FD.wIsiC_e, ↓FD.p1_e, ↓FD.p2_e, ↓FD.gLen_e, ↓FD.iLst_e, ↓FD.iTup_e, ↓FD.iStrD_e, ↓FD.iEnT_e, ↓FD.iEnL_e, ↓FD.iRng_e, ↓FD.iRng2_e, ↓FD.gTup_e, ↓FD.gsNil_e, ↓FD.gsCons_e, ↓FD.wM_e, ↓FD.wIxT_e, ↓FD.wFld_e, ↓FD.wMeth_e, ↓FD.wMake_e, ↓FD.sFldD_e, ↓FD.wDGet_e, ↓FD.sDput_e, ↓FD.wDNewK_e, ↓FD.wDNewT_e, ↓FD.wDisp1_e, ↓FD.wIce_e, ↓FD.gSub_e, ↓FD.wCallK_e, ↓FD.t1_e, ↓FD.t2_e, ↓FD.t1w_e, ↓FD.tYesD_e, ↓FD.gDIn_e, ↓FD.gDNin_e, ↓FD.gIndexT_e, ↓FD.gIndex_e, ↓FD.gInt_e, ↓FD.gAbs_e, ↓FD.gMax_e, ↓FD.gMin_e, ↓FD.gDivmod_e, ↓FD.wFz_e, ↓FD.wDGetD_e, ↓FD.t3_e, ↓FD.iZip3D_e, ↓sFor_eq, ↓wLc_eq, ↓wLc2_eq, ↓wDc_eq, ↓look_zero, ↓look_succ, ↓got_so, ↓isB_bl, ↓isI_int, ↓isS_str, ↓isT_tup, ↓isT_ftp, ↓isT_ktp, ↓isT_tp, ↓one_one, ↓two_two, ↓startD_cc, ↓startD_cn, ↓startD_nn, ↓FD.ix_str, ↓FD.ix_tup, ↓ix_ftp, ↓ix_ktp, ↓ix_lst, ↓ix_scr, ↓ix_tp, ↓atI0, ↓atI1, ↓atI2, ↓atI3, ↓FD.eq_str, ↓FD.ne_str, ↓FD.eq_int, ↓FD.ne_int, ↓FD.add_int, ↓FD.sub_int, ↓FD.lt_int, ↓FD.le_int, ↓FD.gt_int, ↓FD.ge_int, ↓FD.add_str, ↓FD.add_lst, ↓FD.add_tup, ↓FD.mul_int, ↓FD.mod_int, ↓FD.fdiv_int, ↓FD.pow_int, ↓isN_non, ↓notN_non, ↓FD.len_str, ↓len_tup, ↓len_ftp, ↓len_ktp, ↓len_lst, ↓len_scr, ↓len_tp, ↓seq_tup, ↓seq_ftp, ↓seq_ktp, ↓seq_lst, ↓seq_scr, ↓seq_tp, ↓in_tup, ↓in_ftp, ↓in_ktp, ↓in_lst, ↓nin_tup, ↓nin_ftp, ↓nin_ktp, ↓nin_lst, ↓FD.in_str, ↓nin_str, ↓isC_one, ↓asL_lst, ↓asL_scr, ↓if_tt, ↓if_ff, ↓isi_ss, ↓isi_tt, ↓isi_st, ↓isi_ts, ↓ty_str, ↓ty_tup, ↓ty_ftp, ↓ty_tp, ↓all_lst, ↓any_lst, ↓flat_s, ↓flat_set, ↓tuple_lst, ↓FD.int_int, ↓eq_ftp_nil, ↓ne_ftp_nil, ↓isNon_non, ↓isNon_int, ↓isNon_str, ↓isNon_ptr, ↓isNon_tup, ↓isNon_ftp, ↓inL_strs, ↓flatSs, ↓inL_sets, ↓flatSets, ↓FM.tw, ↓FM.tw3, ↓FM.sl_str, ↓sl_set, ↓cell_upd, ↓lk_sw, ↓lk_ru, ↓lk_st, ↓lk_place, ↓lk_has, ↓lk_keeps, ↓lk_wrongs, ↓lk_goods, ↓lk_ways_from, ↓lk_text, ↓ins_pan, ↓FD.fit_le, ↓cx_K, ↓nox_K, ↓blk_K, ↓bx_K, ↓c1, ↓c2, ↓c3, ↓c4, ↓inL_cons, ↓inL_nil, ↓all_bools, ↓any_bools, ↓in_tp, ↓nin_tp, ↓FM.sl_ftp, ↓FM.sl_tup, ↓FM.sl_lst, ↓FM.sl_scr, ↓index_eq, ↓ex_ftp, ↓eqd_str, ↓wf_at, ↓isT_cl, ↓isT_st, ↓isT_lit, ↓ix_lit0, ↓ix_lit1, ↓len_lit, ↓ty_lit, ↓eq_lit, ↓ne_lit, ↓eq_set, ↓ne_set, ↓len_set, ↓ty_set, ↓isS_set, ↓isC_sg, ↓sNever_e, ↓enumD_map, ↓dpAll_strs, ↓dpAll_mapI, ↓ne_lst_nil, ↓eq_lst_nil, ↓isT_grp, ↓len_grp, ↓isDc_wf, ↓wn_at, ↓isT_way, ↓len_way, ↓ty_way, ↓ty_st, ↓len_st, ↓ix_st0, ↓ix_st1, ↓inD_lits, ↓ninD_lits, ↓dpAll_sets, ↓three_three, ↓zip3_sets, ↓isT_z3, ↓inL_lock, ↓ninT_lits, ↓FM.tp_t, ↓FM.tp_f, Bool.not_true, Bool.not_false, Bool.false_eq_true, if_false, if_true, true_and, and_true, List.set_cons_zero, List.set_cons_succ, List.length_cons, List.length_nil, List.length_map, eq_self, decide_true, decide_false, Bool.true_eq_false, or_self, Bool.or_self, List.all_cons, List.all_nil, Bool.and_true, Bool.true_and, Bool.or_false, Bool.false_or, Bool.or_true, Bool.true_or, Bool.and_false, Bool.false_and, Int.reduceLT, Int.reduceLE, Int.reduceEq, Nat.reduceLeDiff, Nat.reduceAdd, Nat.reduceLT, wf_some, wn_some, fold_lit, fold_litp, fold_litm, sg_iff, sg_in_pm, isNon_opt, isEmpty_map, ↓reduceIte, nq_0_1, nq_0_2, nq_0_3, nq_0_4, nq_0_5, nq_0_6, nq_0_7, nq_1_0, nq_1_2, nq_1_3, nq_1_4, nq_1_5, nq_1_6, nq_1_7, nq_2_0, nq_2_1, nq_2_3, nq_2_4, nq_2_5, nq_2_6, nq_2_7, nq_3_0, nq_3_1, nq_3_2, nq_3_4, nq_3_5, nq_3_6, nq_3_7, nq_4_0, nq_4_1, nq_4_2, nq_4_3, nq_4_5, nq_4_6, nq_4_7, nq_5_0, nq_5_1, nq_5_2, nq_5_3, nq_5_4, nq_5_6, nq_5_7, nq_6_0, nq_6_1, nq_6_2, nq_6_3, nq_6_4, nq_6_5, nq_6_7, nq_7_0, nq_7_1, nq_7_2, nq_7_3, nq_7_4, nq_7_5, nq_7_6])
section
variable {P : Program} {w : World} {K : PySem.W.Frag} {mg : Str → Option Value} {base : Heap}
theorem sc_is_rule : FnScope ["value", "switches"] ["value", "switches"] (defScope (top 30)) := ⟨rfl, rfl, rfl, by decide +kernel, rfl, by decide +kernel, by decide +kernel⟩
def sp_is_rule : DSp := fun ds M post => ∃ r ss, ds = [ruleD r, strsF ss] ∧ post (.bl (ruleOk ss r)) M
theorem cl_is_rule {r : Rule} {ss : List Str} {M : Mem} {post : WK} : sp_is_rule [ruleD r, strsF ss] M post = post (.bl (ruleOk ss r)) M := by
  simp [-Bool.exists_bool, sp_is_rule, tp_inj, litD_inj, strs_inj, ruleD_inj, clD_inj, setD_inj, rules_inj, lits_inj, sets_inj, ints_inj, panF_inj, rngs_inj, rngE_inj, sg_inj, and_assoc, Int.natCast_inj]
local macro_rules | `(tactic| walk_at "is_rule") => `(tactic| simp only [↓cl_is_literal, cl_is_literal, ↓FD.sSeq_e, ↓FD.sRet_e, ↓FD.sIf_e, ↓FD.sAsg_e, ↓FD.gSet_e, ↓FD.sDrop_e, ↓FD.sNext_e, ↓FD.sPar_e, ↓FD.sPar3_e, ↓FD.wIf_e, ↓FD.wOp_e, ↓FD.wUn_e, ↓FD.wVar_e, ↓FD.wC_e, ↓FD.wTst_e, ↓FD.wAnd_e, ↓FD.wOr_e, ↓FD.wNot_e, ↓FD.wAndV_e, ↓FD.wOrV_e, ↓FD.wNotV_e, ↓FD.wChain_e, ↓FD.aNil_e, ↓FD.aCons_e, ↓FD.wTup_e, ↓FD.wLst_e, ↓FD.wFtp_e, ↓FD.wNew_e, ↓FD.wCall_e, ↓FD.wB_e, ↓FD.wSl_e, ↓FD.oSome_e, ↓FD.oNone_e, ↓FD.wIsi_e, ↓FD.wIsiC_e, ↓FD.p1_e, ↓FD.p2_e, ↓FD.gLen_e, ↓FD.iLst_e, ↓FD.iTup_e, ↓FD.iStrD_e, ↓FD.iEnT_e, ↓FD.iEnL_e, ↓FD.iRng_e, ↓FD.iRng2_e, ↓FD.gTup_e, ↓FD.gsNil_e, ↓FD.gsCons_e, ↓FD.wM_e, ↓FD.wIxT_e, ↓FD.wFld_e, ↓FD.wMeth_e, ↓FD.wMake_e, ↓FD.sFldD_e, ↓FD.wDGet_e, ↓FD.sDput_e, ↓FD.wDNewK_e, ↓FD.wDNewT_e, ↓FD.wDisp1_e, ↓FD.wIce_e, ↓FD.gSub_e, ↓FD.wCallK_e, ↓FD.t1_e, ↓FD.t2_e, ↓FD.t1w_e, ↓FD.tYesD_e, ↓FD.gDIn_e, ↓FD.gDNin_e, ↓FD.gIndexT_e, ↓FD.gIndex_e, ↓FD.gInt_e, ↓FD.gAbs_e, ↓FD.gMax_e, ↓FD.gMin_e, ↓FD.gDivmod_e, ↓FD.wFz_e, ↓FD.wDGetD_e, ↓FD.t3_e, ↓FD.iZip3D_e, ↓sFor_eq, ↓wLc_eq, ↓wLc2_eq, ↓wDc_eq, ↓look_zero, ↓look_succ, ↓got_so, ↓isB_bl, ↓isI_int, ↓isS_str, ↓isT_tup, ↓isT_ftp, ↓isT_ktp, ↓isT_tp, ↓one_one, ↓two_two, ↓startD_cc, ↓startD_cn, ↓startD_nn, ↓FD.ix_str, ↓FD.ix_tup, ↓ix_ftp, ↓ix_ktp, ↓ix_lst, ↓ix_scr, ↓ix_tp, ↓atI0, ↓atI1, ↓atI2, ↓atI3, ↓FD.eq_str, ↓FD.ne_str, ↓FD.eq_int, ↓FD.ne_int, ↓FD.add_int, ↓FD.sub_int, ↓FD.lt_int, ↓FD.le_int, ↓FD.gt_int, ↓FD.ge_int, ↓FD.add_str, ↓FD.add_lst, ↓FD.add_tup, ↓FD.mul_int, ↓FD.mod_int, ↓FD.fdiv_int, ↓FD.pow_int, ↓isN_non, ↓notN_non, ↓FD.len_str, ↓len_tup, ↓len_ftp, ↓len_ktp, ↓len_lst, ↓len_scr, ↓len_tp, ↓seq_tup, ↓seq_ftp, ↓seq_ktp, ↓seq_lst, ↓seq_scr, ↓seq_tp, ↓in_tup, ↓in_ftp, ↓in_ktp, ↓in_lst, ↓nin_tup, ↓nin_ftp, ↓nin_ktp, ↓nin_lst, ↓FD.in_str, ↓nin_str, ↓isC_one, ↓asL_lst, ↓asL_scr, ↓if_tt, ↓if_ff, ↓isi_ss, ↓isi_tt, ↓isi_st, ↓isi_ts, ↓ty_str, ↓ty_tup, ↓ty_ftp, ↓ty_tp, ↓all_lst, ↓any_lst, ↓flat_s, ↓flat_set, ↓tuple_lst, ↓FD.int_int, ↓eq_ftp_nil, ↓ne_ftp_nil, ↓isNon_non, ↓isNon_int, ↓isNon_str, ↓isNon_ptr, ↓isNon_tup, ↓isNon_ftp, ↓inL_strs, ↓flatSs, ↓inL_sets, ↓flatSets, ↓FM.tw, ↓FM.tw3, ↓FM.sl_str, ↓sl_set, ↓cell_upd, ↓lk_sw, ↓lk_ru, ↓lk_st, ↓lk_place, ↓lk_has, ↓lk_keeps, ↓lk_wrongs, ↓lk_goods, ↓lk_ways_from, ↓lk_text, ↓ins_pan, ↓FD.fit_le, ↓cx_K, ↓nox_K, ↓blk_K, ↓bx_K, ↓c1, ↓c2, ↓c3, ↓c4, ↓inL_cons, ↓inL_nil, ↓all_bools, ↓any_bools, ↓in_tp, ↓nin_tp, ↓FM.sl_ftp, ↓FM.sl_tup, ↓FM.sl_lst, ↓FM.sl_scr, ↓index_eq, ↓ex_ftp, ↓eqd_str, ↓wf_at, ↓isT_cl, ↓isT_st, ↓isT_lit, ↓ix_lit0, ↓ix_lit1, ↓len_lit, ↓ty_lit, ↓eq_lit, ↓ne_lit, ↓eq_set, ↓ne_set, ↓len_set, ↓ty_set, ↓isS_set, ↓isC_sg, ↓sNever_e, ↓enumD_map, ↓dpAll_strs, ↓dpAll_mapI, ↓ne_lst_nil, ↓eq_lst_nil, ↓isT_grp, ↓len_grp, ↓isDc_wf, ↓wn_at, ↓isT_way, ↓len_way, ↓ty_way, ↓ty_st, ↓len_st, ↓ix_st0, ↓ix_st1, ↓inD_lits, ↓ninD_lits, ↓dpAll_sets, ↓three_three, ↓zip3_sets, ↓isT_z3, ↓inL_lock, ↓ninT_lits, ↓FM.tp_t, ↓FM.tp_f, Bool.not_true, Bool.not_false, Bool.false_eq_true, if_false, if_true, true_and, and_true, List.set_cons_zero, List.set_cons_succ, List.length_cons, List.length_nil, List.length_map, eq_self, decide_true, decide_false, Bool.true_eq_false, or_self, Bool.or_self, List.all_cons, List.all_nil, Bool.and_true, Bool.true_and, Bool.or_false, Bool.false_or, Bool.or_true, Bool.true_or, Bool.and_false, Bool.false_and, Int.reduceLT, Int.reduceLE, Int.reduceEq, Nat.reduceLeDiff, Nat.reduceAdd, Nat.reduceLT, wf_some, wn_some, fold_lit, fold_litp, fold_litm, sg_iff, sg_in_pm, isNon_opt, isEmpty_map, ↓reduceIte, nq_0_1, nq_0_2, nq_0_3, nq_0_4, nq_0_5, nq_0_6, nq_0_7, nq_1_0, nq_1_2, nq_1_3, nq_1_4, nq_1_5, nq_1_6, nq_1_7, nq_2_0, nq_2_1, nq_2_3, nq_2_4, nq_2_5, nq_2_6, nq_2_7, nq_3_0, nq_3_1, nq_3_2, nq_3_4, nq_3_5, nq_3_6, nq_3_7, nq_4_0, nq_4_1, nq_4_2, nq_4_3, nq_4_5, nq_4_6, nq_4_7, nq_5_0, nq_5_1, nq_5_2, nq_5_3, nq_5_4, nq_5_6, nq_5_7, nq_6_0, nq_6_1, nq_6_2, nq_6_3, nq_6_4, nq_6_5, nq_6_7, nq_7_0, nq_7_1, nq_7_2, nq_7_3, nq_7_4, nq_7_5, nq_7_6])
theorem fn_is_rule (T : Tx P w K mg base) : Fng P w K mg base 2 "is_rule" (top 30) ["value", "switches"] sp_is_rule := by
  have S := sc_is_rule
  refine fng_of T.d_is_rule T.g_is_rule S (fun ds M post h => by unfold sp_is_rule at h; grind) fun f cdv A outer s H gd hr => ⟨_, (ds_cons (ds_if (PW.pt (dw_or (dt_not (dt_val (de_isi (T := "tuple") (dv 0) T.m_isinstance T.m_tuple (by decide +kernel)))) (dw_or (dt_cmp o_lt (de_b c_len T.m_len (by decide +kernel) (da_cons (dv 0) da_nil)) dint) (dw_or1 (dt_not (dt_val (de_isi (T := "str") (de_ix o_ix (dv 0) dint) T.m_isinstance T.m_str (by decide +kernel))))))))
      (ds_one (ds_ret dbl))
      ds_nil)
      (ds_cons (ds_if (dt_cmp (o_eq hr) (de_ix o_ix (dv 0) dint) dstr)
      (ds_one (ds_ret (de_and (de_cmp (o_eq hr) (de_b c_len T.m_len (by decide +kernel) (da_cons (dv 0) da_nil)) dint) (de_one (de_call (ok_is_literal T) (hr.mono (by decide)) gd (da_cons (de_ix o_ix (dv 0) dint) (da_cons (dv 1) da_nil)))))))
      ds_nil)
      (ds_cons (ds_if (dt_cmp (o_ne hr) (de_b c_len T.m_len (by decide +kernel) (da_cons (dv 0) da_nil)) dint)
      (ds_one (ds_ret dbl))
      ds_nil)
      (ds_cons (ds_if (dt_cmp o_in (de_ix o_ix (dv 0) dint) T.k_PAIRS)
      (ds_cons (ds_if (PW.pt (dw_or (dt_not (dt_val (de_call (ok_is_literal T) (hr.mono (by decide)) gd (da_cons (de_ix o_ix (dv 0) dint) (da_cons (dv 1) da_nil))))) (dw_or1 (dt_not (dt_val (de_call (ok_is_literal T) (hr.mono (by decide)) gd (da_cons (de_ix o_ix (dv 0) dint) (da_cons (dv 1) da_nil))))))))
      (ds_one (ds_ret dbl))
      ds_nil)
      (ds_one (ds_ret (de_cmp (o_ne hr) (de_ix o_ix (de_ix o_ix (dv 0) dint) dint) (de_ix o_ix (de_ix o_ix (dv 0) dint) dint)))))
      ds_nil)
      (ds_cons (ds_if (PW.pt (dw_or (dt_cmp o_nin (de_ix o_ix (dv 0) dint) T.k_ALIKE) (dw_or (dt_not (dt_val (de_isi (T := "str") (de_ix o_ix (dv 0) dint) T.m_isinstance T.m_str (by decide +kernel)))) (dw_or1 (dt_not (dt_val (de_isi (T := "str") (de_ix o_ix (dv 0) dint) T.m_isinstance T.m_str (by decide +kernel))))))))
      (ds_one (ds_ret dbl))
      ds_nil)
      (ds_one (ds_ret (de_and (de_cmp o_in (de_ix o_ix (dv 0) dint) (dv 1)) (de_and (de_cmp o_in (de_ix o_ix (dv 0) dint) (dv 1)) (de_one (de_cmp (o_ne hr) (de_ix o_ix (dv 0) dint) (de_ix o_ix (dv 0) dint)))))))))))), ?_⟩
  rintro ds M post ⟨r, ss, rfl, h⟩
  cases r <;> unfold ruleD <;> unfold ruleOk at h
  · (try walk_at "is_rule")
    exact h
  iterate 3
    · rename_i a b
      (try walk_at "is_rule")
      cases h1 : litOk ss a <;> cases h2 : litOk ss b <;> simp only [h1, h2] at h <;> (try walk_at "is_rule")
      all_goals first | exact h | (unfold litD; (try walk_at "is_rule"); exact h)
  iterate 2
    · rename_i f x y
      (try walk_at "is_rule")
      by_cases h1 : x ∈ ss <;> by_cases h2 : y ∈ ss <;> simp only [h1, h2] at h ⊢ <;> (try walk_at "is_rule") <;> simpa using h
theorem ok_is_rule (T : Tx P w K mg base) : Pub P w K mg base 2 "is_rule" ["value", "switches"] sp_is_rule := (fn_is_rule T).pub fun _ _ _ _ _ _ us hl => match us, hl with | [_, _], _ => rfl
theorem sc_wrong_rule : FnScope ["value", "switches", "index", "rule"] ["value", "switches"] (defScope (top 37)) := ⟨rfl, rfl, rfl, by decide +kernel, rfl, by decide +kernel, by decide +kernel⟩
def sp_wrong_rule : DSp := fun ds M post => ∃ (fg : Bool) (rs : List Rule) (ss : List Str), ds = [tp fg (rs.map ruleD), strsF ss] ∧ post (optD (wrongRu ss rs)) M
theorem cl_wrong_rule {fg : Bool} {rs : List Rule} {ss : List Str} {M : Mem} {post : WK} : sp_wrong_rule [tp fg (rs.map ruleD), strsF ss] M post = post (optD (wrongRu ss rs)) M := by
  simp [-Bool.exists_bool, sp_wrong_rule, tp_inj, litD_inj, strs_inj, ruleD_inj, clD_inj, setD_inj, rules_inj, lits_inj, sets_inj, ints_inj, panF_inj, rngs_inj, rngE_inj, sg_inj, and_assoc, Int.natCast_inj]
local macro_rules | `(tactic| walk_at "wrong_rule") => `(tactic| simp only [↓cl_is_rule, cl_is_rule, ↓FD.sSeq_e, ↓FD.sRet_e, ↓FD.sIf_e, ↓FD.sAsg_e, ↓FD.gSet_e, ↓FD.sDrop_e, ↓FD.sNext_e, ↓FD.sPar_e, ↓FD.sPar3_e, ↓FD.wIf_e, ↓FD.wOp_e, ↓FD.wUn_e, ↓FD.wVar_e, ↓FD.wC_e, ↓FD.wTst_e, ↓FD.wAnd_e, ↓FD.wOr_e, ↓FD.wNot_e, ↓FD.wAndV_e, ↓FD.wOrV_e, ↓FD.wNotV_e, ↓FD.wChain_e, ↓FD.aNil_e, ↓FD.aCons_e, ↓FD.wTup_e, ↓FD.wLst_e, ↓FD.wFtp_e, ↓FD.wNew_e, ↓FD.wCall_e, ↓FD.wB_e, ↓FD.wSl_e, ↓FD.oSome_e, ↓FD.oNone_e, ↓FD.wIsi_e, ↓FD.wIsiC_e, ↓FD.p1_e, ↓FD.p2_e, ↓FD.gLen_e, ↓FD.iLst_e, ↓FD.iTup_e, ↓FD.iStrD_e, ↓FD.iEnT_e, ↓FD.iEnL_e, ↓FD.iRng_e, ↓FD.iRng2_e, ↓FD.gTup_e, ↓FD.gsNil_e, ↓FD.gsCons_e, ↓FD.wM_e, ↓FD.wIxT_e, ↓FD.wFld_e, ↓FD.wMeth_e, ↓FD.wMake_e, ↓FD.sFldD_e, ↓FD.wDGet_e, ↓FD.sDput_e, ↓FD.wDNewK_e, ↓FD.wDNewT_e, ↓FD.wDisp1_e, ↓FD.wIce_e, ↓FD.gSub_e, ↓FD.wCallK_e, ↓FD.t1_e, ↓FD.t2_e, ↓FD.t1w_e, ↓FD.tYesD_e, ↓FD.gDIn_e, ↓FD.gDNin_e, ↓FD.gIndexT_e, ↓FD.gIndex_e, ↓FD.gInt_e, ↓FD.gAbs_e, ↓FD.gMax_e, ↓FD.gMin_e, ↓FD.gDivmod_e, ↓FD.wFz_e, ↓FD.wDGetD_e, ↓FD.t3_e, ↓FD.iZip3D_e, ↓sFor_eq, ↓wLc_eq, ↓wLc2_eq, ↓wDc_eq, ↓look_zero, ↓look_succ, ↓got_so, ↓isB_bl, ↓isI_int, ↓isS_str, ↓isT_tup, ↓isT_ftp, ↓isT_ktp, ↓isT_tp, ↓one_one, ↓two_two, ↓startD_cc, ↓startD_cn, ↓startD_nn, ↓FD.ix_str, ↓FD.ix_tup, ↓ix_ftp, ↓ix_ktp, ↓ix_lst, ↓ix_scr, ↓ix_tp, ↓atI0, ↓atI1, ↓atI2, ↓atI3, ↓FD.eq_str, ↓FD.ne_str, ↓FD.eq_int, ↓FD.ne_int, ↓FD.add_int, ↓FD.sub_int, ↓FD.lt_int, ↓FD.le_int, ↓FD.gt_int, ↓FD.ge_int, ↓FD.add_str, ↓FD.add_lst, ↓FD.add_tup, ↓FD.mul_int, ↓FD.mod_int, ↓FD.fdiv_int, ↓FD.pow_int, ↓isN_non, ↓notN_non, ↓FD.len_str, ↓len_tup, ↓len_ftp, ↓len_ktp, ↓len_lst, ↓len_scr, ↓len_tp, ↓seq_tup, ↓seq_ftp, ↓seq_ktp, ↓seq_lst, ↓seq_scr, ↓seq_tp, ↓in_tup, ↓in_ftp, ↓in_ktp, ↓in_lst, ↓nin_tup, ↓nin_ftp, ↓nin_ktp, ↓nin_lst, ↓FD.in_str, ↓nin_str, ↓isC_one, ↓asL_lst, ↓asL_scr, ↓if_tt, ↓if_ff, ↓isi_ss, ↓isi_tt, ↓isi_st, ↓isi_ts, ↓ty_str, ↓ty_tup, ↓ty_ftp, ↓ty_tp, ↓all_lst, ↓any_lst, ↓flat_s, ↓flat_set, ↓tuple_lst, ↓FD.int_int, ↓eq_ftp_nil, ↓ne_ftp_nil, ↓isNon_non, ↓isNon_int, ↓isNon_str, ↓isNon_ptr, ↓isNon_tup, ↓isNon_ftp, ↓inL_strs, ↓flatSs, ↓inL_sets, ↓flatSets, ↓FM.tw, ↓FM.tw3, ↓FM.sl_str, ↓sl_set, ↓cell_upd, ↓lk_sw, ↓lk_ru, ↓lk_st, ↓lk_place, ↓lk_has, ↓lk_keeps, ↓lk_wrongs, ↓lk_goods, ↓lk_ways_from, ↓lk_text, ↓ins_pan, ↓FD.fit_le, ↓cx_K, ↓nox_K, ↓blk_K, ↓bx_K, ↓c1, ↓c2, ↓c3, ↓c4, ↓inL_cons, ↓inL_nil, ↓all_bools, ↓any_bools, ↓in_tp, ↓nin_tp, ↓FM.sl_ftp, ↓FM.sl_tup, ↓FM.sl_lst, ↓FM.sl_scr, ↓index_eq, ↓ex_ftp, ↓eqd_str, ↓wf_at, ↓isT_cl, ↓isT_st, ↓isT_lit, ↓ix_lit0, ↓ix_lit1, ↓len_lit, ↓ty_lit, ↓eq_lit, ↓ne_lit, ↓eq_set, ↓ne_set, ↓len_set, ↓ty_set, ↓isS_set, ↓isC_sg, ↓sNever_e, ↓enumD_map, ↓dpAll_strs, ↓dpAll_mapI, ↓ne_lst_nil, ↓eq_lst_nil, ↓isT_grp, ↓len_grp, ↓isDc_wf, ↓wn_at, ↓isT_way, ↓len_way, ↓ty_way, ↓ty_st, ↓len_st, ↓ix_st0, ↓ix_st1, ↓inD_lits, ↓ninD_lits, ↓dpAll_sets, ↓three_three, ↓zip3_sets, ↓isT_z3, ↓inL_lock, ↓ninT_lits, ↓FM.tp_t, ↓FM.tp_f, Bool.not_true, Bool.not_false, Bool.false_eq_true, if_false, if_true, true_and, and_true, List.set_cons_zero, List.set_cons_succ, List.length_cons, List.length_nil, List.length_map, eq_self, decide_true, decide_false, Bool.true_eq_false, or_self, Bool.or_self, List.all_cons, List.all_nil, Bool.and_true, Bool.true_and, Bool.or_false, Bool.false_or, Bool.or_true, Bool.true_or, Bool.and_false, Bool.false_and, Int.reduceLT, Int.reduceLE, Int.reduceEq, Nat.reduceLeDiff, Nat.reduceAdd, Nat.reduceLT, wf_some, wn_some, fold_lit, fold_litp, fold_litm, sg_iff, sg_in_pm, isNon_opt, isEmpty_map, ↓reduceIte, nq_0_1, nq_0_2, nq_0_3, nq_0_4, nq_0_5, nq_0_6, nq_0_7, nq_1_0, nq_1_2, nq_1_3, nq_1_4, nq_1_5, nq_1_6, nq_1_7, nq_2_0, nq_2_1, nq_2_3, nq_2_4, nq_2_5, nq_2_6, nq_2_7, nq_3_0, nq_3_1, nq_3_2, nq_3_4, nq_3_5, nq_3_6, nq_3_7, nq_4_0, nq_4_1, nq_4_2, nq_4_3, nq_4_5, nq_4_6, nq_4_7, nq_5_0, nq_5_1, nq_5_2, nq_5_3, nq_5_4, nq_5_6, nq_5_7, nq_6_0, nq_6_1, nq_6_2, nq_6_3, nq_6_4, nq_6_5, nq_6_7, nq_7_0, nq_7_1, nq_7_2, nq_7_3, nq_7_4, nq_7_5, nq_7_6])
theorem fn_wrong_rule (T : Tx P w K mg base) : Fng P w K mg base 3 "wrong_rule" (top 37) ["value", "switches"] sp_wrong_rule := by
  have S := sc_wrong_rule
  refine fng_of T.d_wrong_rule T.g_wrong_rule S (fun ds M post h => by unfold sp_wrong_rule at h; grind) fun f cdv A outer s H gd hr => ⟨_, (ds_cons (ds_for PassesOwn.never rfl (di_enumT T.m_enumerate (da_cons (dv 0) da_nil)) (dg_tup (n := 2) rfl (dgs_cons (dg_name (i := 2) S.nd) (dgs_cons (dg_name (i := 3) S.nd) dgs_nil)))
      (ds_one (ds_if (PW.pt (dw_or (dt_cmp (o_eq hr) (dv 2) T.k_MOST_RULES) (dw_or1 (dt_not (dt_val (de_call (ok_is_rule T) (hr.mono (by decide)) gd (da_cons (dv 3) (da_cons (dv 1) da_nil))))))))
      (ds_one (ds_ret (dv 2)))
      ds_nil)))
      (ds_one (ds_ret dnon))), ?_⟩
  rintro ds M post ⟨fg, rs, ss, rfl, h⟩
  (try walk_at "wrong_rule")
  refine for_find rs.zipIdx (fun p => D.tup [.int (p.2 : Int), ruleD p.1]) (fun p => decide (p.2 = 240) || !ruleOk ss p.1) (fun Γ' M' => ∃ x y, Γ' = [some (tp fg (rs.map ruleD)), some (strsF ss), x, y] ∧ M' = M) ⟨_, _, rfl, rfl⟩ (fun _ _ _ => trivial) ?_ ?_
  · rintro ⟨s, i⟩ hx Γ' M' ⟨x, y, rfl, rfl⟩ N
    refine ⟨fun hc hf => ?_, fun hc hN => ?_⟩
    · have e : wrongRu ss rs = some i := by unfold wrongRu; rw [hf]; rfl
      rw [e] at h
      (try walk_at "wrong_rule")
      by_cases h1 : i = 240
      · subst h1; (try walk_at "wrong_rule"); exact h
      · rw [if_neg (by simp; omega)]
        simp [h1] at hc
        simp only [hc]
        (try walk_at "wrong_rule")
        exact h
    · (try walk_at "wrong_rule")
      simp at hc
      rw [if_neg (by simp; omega)]
      simp only [hc.2]
      (try walk_at "wrong_rule")
      exact hN _ _ ⟨_, _, rfl, rfl⟩
  · rintro hf Γ' M' ⟨x, y, rfl, rfl⟩
    have e : wrongRu ss rs = none := by unfold wrongRu; rw [hf]; rfl
    rw [e] at h
    exact h
theorem ok_wrong_rule (T : Tx P w K mg base) : Pub P w K mg base 3 "wrong_rule" ["value", "switches"] sp_wrong_rule := (fn_wrong_rule T).pub fun _ _ _ _ _ _ us hl => match us, hl with | [_, _], _ => rfl
theorem sc_other_sign : FnScope ["sign"] ["sign"] (defScope (top 21)) := ⟨rfl, rfl, rfl, by decide +kernel, rfl, by decide +kernel, by decide +kernel⟩
def sp_other_sign : DSp := fun ds M post => ∃ b, ds = [.str (sg b)] ∧ post (.str (sg !b)) M
theorem cl_other_sign {b : Bool} {M : Mem} {post : WK} : sp_other_sign [.str (sg b)] M post = post (.str (sg !b)) M := by
  simp [-Bool.exists_bool, sp_other_sign, tp_inj, litD_inj, strs_inj, ruleD_inj, clD_inj, setD_inj, rules_inj, lits_inj, sets_inj, ints_inj, panF_inj, rngs_inj, rngE_inj, sg_inj, and_assoc, Int.natCast_inj]
theorem fn_other_sign (T : Tx P w K mg base) : Fng P w K mg base 1 "other_sign" (top 21) ["sign"] sp_other_sign := by
  have S := sc_other_sign
  refine fng_of T.d_other_sign T.g_other_sign S (fun ds M post h => by unfold sp_other_sign at h; grind) fun f cdv A outer s H gd hr => ⟨_, (ds_one (ds_ret (de_if (dt_cmp (o_eq hr) (dv 0) dstr) dstr dstr))), ?_⟩
  rintro ds M post ⟨b, rfl, h⟩
  cases b <;> (simp only [sg, Bool.not_true, Bool.not_false, if_true, if_false, Bool.false_eq_true] at h ⊢; (try walk_at "w"); exact h)
theorem ok_other_sign (T : Tx P w K mg base) : Pub P w K mg base 1 "other_sign" ["sign"] sp_other_sign := (fn_other_sign T).pub fun _ _ _ _ _ _ us hl => match us, hl with | [_], _ => rfl
theorem sc_opposite : FnScope ["literal"] ["literal"] (defScope (top 22)) := ⟨rfl, rfl, rfl, by decide +kernel, rfl, by decide +kernel, by decide +kernel⟩
def sp_opposite : DSp := fun ds M post => ∃ a, ds = [litD a] ∧ post (litD a.op) M
theorem cl_opposite {a : Lit} {M : Mem} {post : WK} : sp_opposite [litD a] M post = post (litD a.op) M := by
  simp [-Bool.exists_bool, sp_opposite, tp_inj, litD_inj, strs_inj, ruleD_inj, clD_inj, setD_inj, rules_inj, lits_inj, sets_inj, ints_inj, panF_inj, rngs_inj, rngE_inj, sg_inj, and_assoc, Int.natCast_inj]
local macro_rules | `(tactic| walk_at "opposite") => `(tactic| simp only [↓cl_other_sign, cl_other_sign, ↓FD.sSeq_e, ↓FD.sRet_e, ↓FD.sIf_e, ↓FD.sAsg_e, ↓FD.gSet_e, ↓FD.sDrop_e, ↓FD.sNext_e, ↓FD.sPar_e, ↓FD.sPar3_e, ↓FD.wIf_e, ↓FD.wOp_e, ↓FD.wUn_e, ↓FD.wVar_e, ↓FD.wC_e, ↓FD.wTst_e, ↓FD.wAnd_e, ↓FD.wOr_e, ↓FD.wNot_e, ↓FD.wAndV_e, ↓FD.wOrV_e, ↓FD.wNotV_e, ↓FD.wChain_e, ↓FD.aNil_e, ↓FD.aCons_e, ↓FD.wTup_e, ↓FD.wLst_e, ↓FD.wFtp_e, ↓FD.wNew_e, ↓FD.wCall_e, ↓FD.wB_e, ↓FD.wSl_e, ↓FD.oSome_e, ↓FD.oNone_e, ↓FD.wIsi_e, ↓FD.wIsiC_e, ↓FD.p1_e, ↓FD.p2_e, ↓FD.gLen_e, ↓FD.iLst_e, ↓FD.iTup_e, ↓FD.iStrD_e, ↓FD.iEnT_e, ↓FD.iEnL_e, ↓FD.iRng_e, ↓FD.iRng2_e, ↓FD.gTup_e, ↓FD.gsNil_e, ↓FD.gsCons_e, ↓FD.wM_e, ↓FD.wIxT_e, ↓FD.wFld_e, ↓FD.wMeth_e, ↓FD.wMake_e, ↓FD.sFldD_e, ↓FD.wDGet_e, ↓FD.sDput_e, ↓FD.wDNewK_e, ↓FD.wDNewT_e, ↓FD.wDisp1_e, ↓FD.wIce_e, ↓FD.gSub_e, ↓FD.wCallK_e, ↓FD.t1_e, ↓FD.t2_e, ↓FD.t1w_e, ↓FD.tYesD_e, ↓FD.gDIn_e, ↓FD.gDNin_e, ↓FD.gIndexT_e, ↓FD.gIndex_e, ↓FD.gInt_e, ↓FD.gAbs_e, ↓FD.gMax_e, ↓FD.gMin_e, ↓FD.gDivmod_e, ↓FD.wFz_e, ↓FD.wDGetD_e, ↓FD.t3_e, ↓FD.iZip3D_e, ↓sFor_eq, ↓wLc_eq, ↓wLc2_eq, ↓wDc_eq, ↓look_zero, ↓look_succ, ↓got_so, ↓isB_bl, ↓isI_int, ↓isS_str, ↓isT_tup, ↓isT_ftp, ↓isT_ktp, ↓isT_tp, ↓one_one, ↓two_two, ↓startD_cc, ↓startD_cn, ↓startD_nn, ↓FD.ix_str, ↓FD.ix_tup, ↓ix_ftp, ↓ix_ktp, ↓ix_lst, ↓ix_scr, ↓ix_tp, ↓atI0, ↓atI1, ↓atI2, ↓atI3, ↓FD.eq_str, ↓FD.ne_str, ↓FD.eq_int, ↓FD.ne_int, ↓FD.add_int, ↓FD.sub_int, ↓FD.lt_int, ↓FD.le_int, ↓FD.gt_int, ↓FD.ge_int, ↓FD.add_str, ↓FD.add_lst, ↓FD.add_tup, ↓FD.mul_int, ↓FD.mod_int, ↓FD.fdiv_int, ↓FD.pow_int, ↓isN_non, ↓notN_non, ↓FD.len_str, ↓len_tup, ↓len_ftp, ↓len_ktp, ↓len_lst, ↓len_scr, ↓len_tp, ↓seq_tup, ↓seq_ftp, ↓seq_ktp, ↓seq_lst, ↓seq_scr, ↓seq_tp, ↓in_tup, ↓in_ftp, ↓in_ktp, ↓in_lst, ↓nin_tup, ↓nin_ftp, ↓nin_ktp, ↓nin_lst, ↓FD.in_str, ↓nin_str, ↓isC_one, ↓asL_lst, ↓asL_scr, ↓if_tt, ↓if_ff, ↓isi_ss, ↓isi_tt, ↓isi_st, ↓isi_ts, ↓ty_str, ↓ty_tup, ↓ty_ftp, ↓ty_tp, ↓all_lst, ↓any_lst, ↓flat_s, ↓flat_set, ↓tuple_lst, ↓FD.int_int, ↓eq_ftp_nil, ↓ne_ftp_nil, ↓isNon_non, ↓isNon_int, ↓isNon_str, ↓isNon_ptr, ↓isNon_tup, ↓isNon_ftp, ↓inL_strs, ↓flatSs, ↓inL_sets, ↓flatSets, ↓FM.tw, ↓FM.tw3, ↓FM.sl_str, ↓sl_set, ↓cell_upd, ↓lk_sw, ↓lk_ru, ↓lk_st, ↓lk_place, ↓lk_has, ↓lk_keeps, ↓lk_wrongs, ↓lk_goods, ↓lk_ways_from, ↓lk_text, ↓ins_pan, ↓FD.fit_le, ↓cx_K, ↓nox_K, ↓blk_K, ↓bx_K, ↓c1, ↓c2, ↓c3, ↓c4, ↓inL_cons, ↓inL_nil, ↓all_bools, ↓any_bools, ↓in_tp, ↓nin_tp, ↓FM.sl_ftp, ↓FM.sl_tup, ↓FM.sl_lst, ↓FM.sl_scr, ↓index_eq, ↓ex_ftp, ↓eqd_str, ↓wf_at, ↓isT_cl, ↓isT_st, ↓isT_lit, ↓ix_lit0, ↓ix_lit1, ↓len_lit, ↓ty_lit, ↓eq_lit, ↓ne_lit, ↓eq_set, ↓ne_set, ↓len_set, ↓ty_set, ↓isS_set, ↓isC_sg, ↓sNever_e, ↓enumD_map, ↓dpAll_strs, ↓dpAll_mapI, ↓ne_lst_nil, ↓eq_lst_nil, ↓isT_grp, ↓len_grp, ↓isDc_wf, ↓wn_at, ↓isT_way, ↓len_way, ↓ty_way, ↓ty_st, ↓len_st, ↓ix_st0, ↓ix_st1, ↓inD_lits, ↓ninD_lits, ↓dpAll_sets, ↓three_three, ↓zip3_sets, ↓isT_z3, ↓inL_lock, ↓ninT_lits, ↓FM.tp_t, ↓FM.tp_f, Bool.not_true, Bool.not_false, Bool.false_eq_true, if_false, if_true, true_and, and_true, List.set_cons_zero, List.set_cons_succ, List.length_cons, List.length_nil, List.length_map, eq_self, decide_true, decide_false, Bool.true_eq_false, or_self, Bool.or_self, List.all_cons, List.all_nil, Bool.and_true, Bool.true_and, Bool.or_false, Bool.false_or, Bool.or_true, Bool.true_or, Bool.and_false, Bool.false_and, Int.reduceLT, Int.reduceLE, Int.reduceEq, Nat.reduceLeDiff, Nat.reduceAdd, Nat.reduceLT, wf_some, wn_some, fold_lit, fold_litp, fold_litm, sg_iff, sg_in_pm, isNon_opt, isEmpty_map, ↓reduceIte, nq_0_1, nq_0_2, nq_0_3, nq_0_4, nq_0_5, nq_0_6, nq_0_7, nq_1_0, nq_1_2, nq_1_3, nq_1_4, nq_1_5, nq_1_6, nq_1_7, nq_2_0, nq_2_1, nq_2_3, nq_2_4, nq_2_5, nq_2_6, nq_2_7, nq_3_0, nq_3_1, nq_3_2, nq_3_4, nq_3_5, nq_3_6, nq_3_7, nq_4_0, nq_4_1, nq_4_2, nq_4_3, nq_4_5, nq_4_6, nq_4_7, nq_5_0, nq_5_1, nq_5_2, nq_5_3, nq_5_4, nq_5_6, nq_5_7, nq_6_0, nq_6_1, nq_6_2, nq_6_3, nq_6_4, nq_6_5, nq_6_7, nq_7_0, nq_7_1, nq_7_2, nq_7_3, nq_7_4, nq_7_5, nq_7_6])
theorem fn_opposite (T : Tx P w K mg base) : Fng P w K mg base 2 "opposite" (top 22) ["literal"] sp_opposite := by
  have S := sc_opposite
  refine fng_of T.d_opposite T.g_opposite S (fun ds M post h => by unfold sp_opposite at h; grind) fun f cdv A outer s H gd hr => ⟨_, (ds_one (ds_ret (de_tup (da_cons (de_ix o_ix (dv 0) dint) (da_cons (de_call (ok_other_sign T) (hr.mono (by decide)) gd (da_cons (de_ix o_ix (dv 0) dint) da_nil)) da_nil))))), ?_⟩
  rintro ds M post ⟨a, rfl, h⟩
  unfold litD
  (try walk_at "opposite")
  exact h
theorem ok_opposite (T : Tx P w K mg base) : Pub P w K mg base 2 "opposite" ["literal"] sp_opposite := (fn_opposite T).pub fun _ _ _ _ _ _ us hl => match us, hl with | [_], _ => rfl
end
end LW

namespace LW
open PySem PySem.Spec PyProof.Rows L2 FD FM
local macro_rules | `(tactic| walk_at "w") => `(tactic| simp only [↓FD.sSeq_e, ↓FD.sRet_e, ↓FD.sIf_e, ↓FD.sAsg_e, ↓FD.gSet_e, ↓FD.sDrop_e, ↓FD.sNext_e, ↓FD.sPar_e, ↓FD.sPar3_e, ↓FD.wIf_e, ↓FD.wOp_e, ↓FD.wUn_e, ↓FD.wVar_e, ↓FD.wC_e, ↓FD.wTst_e, ↓FD.wAnd_e, ↓FD.wOr_e, ↓FD.wNot_e, ↓FD.wAndV_e, ↓FD.wOrV_e, ↓FD.wNotV_e, ↓FD.wChain_e, ↓FD.aNil_e, ↓FD.aCons_e, ↓FD.wTup_e, ↓FD.wLst_e, ↓FD.wFtp_e, ↓FD.wNew_e, ↓FD.wCall_e, ↓FD.wB_e, ↓FD.wSl_e, ↓FD.oSome_e, ↓FD.oNone_e, ↓FD.wIsi_e, ↓FD.wIsiC_e, ↓FD.p1_e, ↓FD.p2_e, ↓FD.gLen_e, ↓FD.iLst_e, ↓FD.iTup_e, ↓FD.iStrD_e, ↓FD.iEnT_e, ↓FD.iEnL_e, ↓FD.iRng_e, ↓FD.iRng2_e, ↓FD.gTup_e, ↓FD.gsNil_e, ↓FD.gsCons_e, ↓FD.wM_e, ↓FD.wIxT_e, ↓FD.wFld_e, ↓FD.wMeth_e, ↓FD.wMake_e, ↓FD.sFldD_e, ↓FD.wDGet_e, ↓FD.sDput_e, ↓FD.wDNewK_e, ↓FD.wDNewT_e, ↓FD.wDisp1_e, ↓FD.wIce_e, ↓FD.gSub_e, ↓FD.wCallK_e, ↓FD.t1_e, ↓FD.t2_e, ↓FD.t1w_e, ↓FD.tYesD_e, ↓FD.gDIn_e, ↓FD.gDNin_e, ↓FD.gIndexT_e, ↓FD.gIndex_e, ↓FD.gInt_e, ↓FD.gAbs_e, ↓FD.gMax_e, ↓FD.gMin_e, ↓FD.gDivmod_e, ↓FD.wFz_e, ↓FD.wDGetD_e, ↓FD.t3_e, ↓FD.iZip3D_e, ↓sFor_eq, ↓wLc_eq, ↓wLc2_eq, ↓wDc_eq, ↓look_zero, ↓look_succ, ↓got_so, ↓isB_bl, ↓isI_int, ↓isS_str, ↓isT_tup, ↓isT_ftp, ↓isT_ktp, ↓isT_tp, ↓one_one, ↓two_two, ↓startD_cc, ↓startD_cn, ↓startD_nn, ↓FD.ix_str, ↓FD.ix_tup, ↓ix_ftp, ↓ix_ktp, ↓ix_lst, ↓ix_scr, ↓ix_tp, ↓atI0, ↓atI1, ↓atI2, ↓atI3, ↓FD.eq_str, ↓FD.ne_str, ↓FD.eq_int, ↓FD.ne_int, ↓FD.add_int, ↓FD.sub_int, ↓FD.lt_int, ↓FD.le_int, ↓FD.gt_int, ↓FD.ge_int, ↓FD.add_str, ↓FD.add_lst, ↓FD.add_tup, ↓FD.mul_int, ↓FD.mod_int, ↓FD.fdiv_int, ↓FD.pow_int, ↓isN_non, ↓notN_non, ↓FD.len_str, ↓len_tup, ↓len_ftp, ↓len_ktp, ↓len_lst, ↓len_scr, ↓len_tp, ↓seq_tup, ↓seq_ftp, ↓seq_ktp, ↓seq_lst, ↓seq_scr, ↓seq_tp, ↓in_tup, ↓in_ftp, ↓in_ktp, ↓in_lst, ↓nin_tup, ↓nin_ftp, ↓nin_ktp, ↓nin_lst, ↓FD.in_str, ↓nin_str, ↓isC_one, ↓asL_lst, ↓asL_scr, ↓if_tt, ↓if_ff, ↓isi_ss, ↓isi_tt, ↓isi_st, ↓isi_ts, ↓ty_str, ↓ty_tup, ↓ty_ftp, ↓ty_tp, ↓all_lst, ↓any_lst, ↓flat_s, ↓flat_set, ↓tuple_lst, ↓FD.int_int, ↓eq_ftp_nil, ↓ne_ftp_nil, ↓isNon_non, ↓isNon_int, ↓isNon_str, ↓isNon_ptr, ↓isNon_tup, ↓isNon_ftp, ↓inL_strs, ↓flatSs, ↓inL_sets, ↓flatSets, ↓FM.tw, ↓FM.tw3, ↓FM.sl_str, ↓sl_set, ↓cell_upd, ↓lk_sw, ↓lk_ru, ↓lk_st, ↓lk_place, ↓lk_has, ↓lk_keeps, ↓lk_wrongs, ↓lk_goods, ↓lk_ways_from, ↓lk_text, ↓ins_pan, ↓FD.fit_le, ↓cx_K, ↓nox_K, ↓blk_K, ↓bx_K, ↓c1, ↓c2, ↓c3, ↓c4, ↓inL_cons, ↓inL_nil, ↓all_bools, ↓any_bools, ↓in_tp, ↓nin_tp, ↓FM.sl_ftp, ↓FM.sl_tup, ↓FM.sl_lst, ↓FM.sl_scr, ↓index_eq, ↓ex_ftp, ↓eqd_str, ↓wf_at, ↓isT_cl, ↓isT_st, ↓isT_lit, ↓ix_lit0, ↓ix_lit1, ↓len_lit, ↓ty_lit, ↓eq_lit, ↓ne_lit, ↓eq_set, ↓ne_set, ↓len_set, ↓ty_set, ↓isS_set, ↓isC_sg, ↓sNever_e, ↓enumD_map, ↓dpAll_strs, ↓dpAll_mapI, ↓ne_lst_nil, ↓eq_lst_nil, ↓isT_grp, ↓len_grp, ↓isDc_wf, ↓wn_at, ↓isT_way, ↓len_way, ↓ty_way, ↓ty_st, ↓len_st, ↓ix_st0, ↓ix_st1, ↓inD_lits, ↓ninD_lits, ↓dpAll_sets, ↓three_three, ↓zip3_sets, ↓isT_z3, ↓inL_lock, ↓ninT_lits, ↓FM.tp_t, ↓FM.tp_f, Bool.not_true, Bool.not_false, Bool.false_eq_true, if_false, if_true, true_and, and_true, List.set_cons_zero, List.set_cons_succ, List.length_cons, List.length_nil, List.length_map, eq_self, decide_true, decide_false, Bool.true_eq_false, or_self, Bool.or_self, List.all_cons, List.all_nil, Bool.and_true, Bool.true_and, Bool.or_false, Bool.false_or, Bool.or_true, Bool.true_or, Bool.and_false, Bool.false_and, Int.reduceLT, Int.reduceLE, Int.reduceEq, Nat.reduceLeDiff, Nat.reduceAdd, Nat.reduceLT, wf_some, wn_some, fold_lit, fold_litp, fold_litm, sg_iff, sg_in_pm, isNon_opt, isEmpty_map, ↓reduceIte, nq_0_1, nq_0_2, nq_0_3, nq_0_4, nq_0_5, nq_0_6, nq_0_7, nq_1_0, nq_1_2, nq_1_3, nq_1_4, nq_1_5, nq_1_6, nq_1_7, nq_2_0, nq_2_1, nq_2_3, nq_2_4, nq_2_5, nq_2_6, nq_2_7, nq_3_0, nq_3_1, nq_3_2, nq_3_4, nq_3_5, nq_3_6, nq_3_7, nq_4_0, nq_4_1, nq_4_2, nq_4_3, nq_4_5, nq_4_6, nq_4_7, nq_5_0, nq_5_1, nq_5_2, nq_5_3, nq_5_4, nq_5_6, nq_5_7, nq_6_0, nq_6_1, nq_6_2, nq_6_3, nq_6_4, nq_6_5, nq_6_7, nq_7_0, nq_7_1, nq_7_2, nq_7_3, nq_7_4, nq_7_5, nq_7_6])
section
variable {P : Program} {w : World} {K : PySem.W.Frag} {mg : Str → Option Value} {base : Heap}
theorem sc_clauses_of : FnScope ["rule", "word", "x", "y"] ["rule"] (defScope (top 31)) := ⟨rfl, rfl, rfl, by decide +kernel, rfl, by decide +kernel, by decide +kernel⟩
def sp_clauses_of : DSp := fun ds M post => ∃ r, ds = [ruleD r] ∧ post (.lst ((clauses r).map clD)) M
theorem cl_clauses_of {r : Rule} {M : Mem} {post : WK} : sp_clauses_of [ruleD r] M post = post (.lst ((clauses r).map clD)) M := by
  simp [-Bool.exists_bool, sp_clauses_of, tp_inj, litD_inj, strs_inj, ruleD_inj, clD_inj, setD_inj, rules_inj, lits_inj, sets_inj, ints_inj, panF_inj, rngs_inj, rngE_inj, sg_inj, and_assoc, Int.natCast_inj]
local macro_rules | `(tactic| walk_at "clauses_of") => `(tactic| simp only [↓cl_opposite, cl_opposite, ↓FD.sSeq_e, ↓FD.sRet_e, ↓FD.sIf_e, ↓FD.sAsg_e, ↓FD.gSet_e, ↓FD.sDrop_e, ↓FD.sNext_e, ↓FD.sPar_e, ↓FD.sPar3_e, ↓FD.wIf_e, ↓FD.wOp_e, ↓FD.wUn_e, ↓FD.wVar_e, ↓FD.wC_e, ↓FD.wTst_e, ↓FD.wAnd_e, ↓FD.wOr_e, ↓FD.wNot_e, ↓FD.wAndV_e, ↓FD.wOrV_e, ↓FD.wNotV_e, ↓FD.wChain_e, ↓FD.aNil_e, ↓FD.aCons_e, ↓FD.wTup_e, ↓FD.wLst_e, ↓FD.wFtp_e, ↓FD.wNew_e, ↓FD.wCall_e, ↓FD.wB_e, ↓FD.wSl_e, ↓FD.oSome_e, ↓FD.oNone_e, ↓FD.wIsi_e, ↓FD.wIsiC_e, ↓FD.p1_e, ↓FD.p2_e, ↓FD.gLen_e, ↓FD.iLst_e, ↓FD.iTup_e, ↓FD.iStrD_e, ↓FD.iEnT_e, ↓FD.iEnL_e, ↓FD.iRng_e, ↓FD.iRng2_e, ↓FD.gTup_e, ↓FD.gsNil_e, ↓FD.gsCons_e, ↓FD.wM_e, ↓FD.wIxT_e, ↓FD.wFld_e, ↓FD.wMeth_e, ↓FD.wMake_e, ↓FD.sFldD_e, ↓FD.wDGet_e, ↓FD.sDput_e, ↓FD.wDNewK_e, ↓FD.wDNewT_e, ↓FD.wDisp1_e, ↓FD.wIce_e, ↓FD.gSub_e, ↓FD.wCallK_e, ↓FD.t1_e, ↓FD.t2_e, ↓FD.t1w_e, ↓FD.tYesD_e, ↓FD.gDIn_e, ↓FD.gDNin_e, ↓FD.gIndexT_e, ↓FD.gIndex_e, ↓FD.gInt_e, ↓FD.gAbs_e, ↓FD.gMax_e, ↓FD.gMin_e, ↓FD.gDivmod_e, ↓FD.wFz_e, ↓FD.wDGetD_e, ↓FD.t3_e, ↓FD.iZip3D_e, ↓sFor_eq, ↓wLc_eq, ↓wLc2_eq, ↓wDc_eq, ↓look_zero, ↓look_succ, ↓got_so, ↓isB_bl, ↓isI_int, ↓isS_str, ↓isT_tup, ↓isT_ftp, ↓isT_ktp, ↓isT_tp, ↓one_one, ↓two_two, ↓startD_cc, ↓startD_cn, ↓startD_nn, ↓FD.ix_str, ↓FD.ix_tup, ↓ix_ftp, ↓ix_ktp, ↓ix_lst, ↓ix_scr, ↓ix_tp, ↓atI0, ↓atI1, ↓atI2, ↓atI3, ↓FD.eq_str, ↓FD.ne_str, ↓FD.eq_int, ↓FD.ne_int, ↓FD.add_int, ↓FD.sub_int, ↓FD.lt_int, ↓FD.le_int, ↓FD.gt_int, ↓FD.ge_int, ↓FD.add_str, ↓FD.add_lst, ↓FD.add_tup, ↓FD.mul_int, ↓FD.mod_int, ↓FD.fdiv_int, ↓FD.pow_int, ↓isN_non, ↓notN_non, ↓FD.len_str, ↓len_tup, ↓len_ftp, ↓len_ktp, ↓len_lst, ↓len_scr, ↓len_tp, ↓seq_tup, ↓seq_ftp, ↓seq_ktp, ↓seq_lst, ↓seq_scr, ↓seq_tp, ↓in_tup, ↓in_ftp, ↓in_ktp, ↓in_lst, ↓nin_tup, ↓nin_ftp, ↓nin_ktp, ↓nin_lst, ↓FD.in_str, ↓nin_str, ↓isC_one, ↓asL_lst, ↓asL_scr, ↓if_tt, ↓if_ff, ↓isi_ss, ↓isi_tt, ↓isi_st, ↓isi_ts, ↓ty_str, ↓ty_tup, ↓ty_ftp, ↓ty_tp, ↓all_lst, ↓any_lst, ↓flat_s, ↓flat_set, ↓tuple_lst, ↓FD.int_int, ↓eq_ftp_nil, ↓ne_ftp_nil, ↓isNon_non, ↓isNon_int, ↓isNon_str, ↓isNon_ptr, ↓isNon_tup, ↓isNon_ftp, ↓inL_strs, ↓flatSs, ↓inL_sets, ↓flatSets, ↓FM.tw, ↓FM.tw3, ↓FM.sl_str, ↓sl_set, ↓cell_upd, ↓lk_sw, ↓lk_ru, ↓lk_st, ↓lk_place, ↓lk_has, ↓lk_keeps, ↓lk_wrongs, ↓lk_goods, ↓lk_ways_from, ↓lk_text, ↓ins_pan, ↓FD.fit_le, ↓cx_K, ↓nox_K, ↓blk_K, ↓bx_K, ↓c1, ↓c2, ↓c3, ↓c4, ↓inL_cons, ↓inL_nil, ↓all_bools, ↓any_bools, ↓in_tp, ↓nin_tp, ↓FM.sl_ftp, ↓FM.sl_tup, ↓FM.sl_lst, ↓FM.sl_scr, ↓index_eq, ↓ex_ftp, ↓eqd_str, ↓wf_at, ↓isT_cl, ↓isT_st, ↓isT_lit, ↓ix_lit0, ↓ix_lit1, ↓len_lit, ↓ty_lit, ↓eq_lit, ↓ne_lit, ↓eq_set, ↓ne_set, ↓len_set, ↓ty_set, ↓isS_set, ↓isC_sg, ↓sNever_e, ↓enumD_map, ↓dpAll_strs, ↓dpAll_mapI, ↓ne_lst_nil, ↓eq_lst_nil, ↓isT_grp, ↓len_grp, ↓isDc_wf, ↓wn_at, ↓isT_way, ↓len_way, ↓ty_way, ↓ty_st, ↓len_st, ↓ix_st0, ↓ix_st1, ↓inD_lits, ↓ninD_lits, ↓dpAll_sets, ↓three_three, ↓zip3_sets, ↓isT_z3, ↓inL_lock, ↓ninT_lits, ↓FM.tp_t, ↓FM.tp_f, Bool.not_true, Bool.not_false, Bool.false_eq_true, if_false, if_true, true_and, and_true, List.set_cons_zero, List.set_cons_succ, List.length_cons, List.length_nil, List.length_map, eq_self, decide_true, decide_false, Bool.true_eq_false, or_self, Bool.or_self, List.all_cons, List.all_nil, Bool.and_true, Bool.true_and, Bool.or_false, Bool.false_or, Bool.or_true, Bool.true_or, Bool.and_false, Bool.false_and, Int.reduceLT, Int.reduceLE, Int.reduceEq, Nat.reduceLeDiff, Nat.reduceAdd, Nat.reduceLT, wf_some, wn_some, fold_lit, fold_litp, fold_litm, sg_iff, sg_in_pm, isNon_opt, isEmpty_map, ↓reduceIte, nq_0_1, nq_0_2, nq_0_3, nq_0_4, nq_0_5, nq_0_6, nq_0_7, nq_1_0, nq_1_2, nq_1_3, nq_1_4, nq_1_5, nq_1_6, nq_1_7, nq_2_0, nq_2_1, nq_2_3, nq_2_4, nq_2_5, nq_2_6, nq_2_7, nq_3_0, nq_3_1, nq_3_2, nq_3_4, nq_3_5, nq_3_6, nq_3_7, nq_4_0, nq_4_1, nq_4_2, nq_4_3, nq_4_5, nq_4_6, nq_4_7, nq_5_0, nq_5_1, nq_5_2, nq_5_3, nq_5_4, nq_5_6, nq_5_7, nq_6_0, nq_6_1, nq_6_2, nq_6_3, nq_6_4, nq_6_5, nq_6_7, nq_7_0, nq_7_1, nq_7_2, nq_7_3, nq_7_4, nq_7_5, nq_7_6])
theorem fn_clauses_of (T : Tx P w K mg base) : Fng P w K mg base 3 "clauses_of" (top 31) ["rule"] sp_clauses_of := by
  have S := sc_clauses_of
  refine fng_of T.d_clauses_of T.g_clauses_of S (fun ds M post h => by unfold sp_clauses_of at h; grind) fun f cdv A outer s H gd hr => ⟨_, (ds_cons (ds_set (i := 1) S.nd (de_ix o_ix (dv 0) dint))
      (ds_cons (ds_if (dt_cmp (o_eq hr) (dv 1) dstr)
      (ds_one (ds_ret (de_lst (da_cons (de_tup (da_cons (de_ix o_ix (dv 0) dint) (da_cons (de_ix o_ix (dv 0) dint) da_nil))) da_nil))))
      ds_nil)
      (ds_cons (ds_if (dt_cmp (o_eq hr) (dv 1) dstr)
      (ds_one (ds_ret (de_lst (da_cons (de_tup (da_cons (de_ix o_ix (dv 0) dint) (da_cons (de_ix o_ix (dv 0) dint) da_nil))) da_nil))))
      ds_nil)
      (ds_cons (ds_if (dt_cmp (o_eq hr) (dv 1) dstr)
      (ds_one (ds_ret (de_lst (da_cons (de_tup (da_cons (de_call (ok_opposite T) (hr.mono (by decide)) gd (da_cons (de_ix o_ix (dv 0) dint) da_nil)) (da_cons (de_ix o_ix (dv 0) dint) da_nil))) da_nil))))
      ds_nil)
      (ds_cons (ds_if (dt_cmp (o_eq hr) (dv 1) dstr)
      (ds_one (ds_ret (de_lst (da_cons (de_tup (da_cons (de_call (ok_opposite T) (hr.mono (by decide)) gd (da_cons (de_ix o_ix (dv 0) dint) da_nil)) (da_cons (de_call (ok_opposite T) (hr.mono (by decide)) gd (da_cons (de_ix o_ix (dv 0) dint) da_nil)) da_nil))) da_nil))))
      ds_nil)
      (ds_cons (ds_par (i := 2) (j := 3) rfl S.nd (da_cons (de_ix o_ix (dv 0) dint) (da_cons (de_ix o_ix (dv 0) dint) da_nil)))
      (ds_cons (ds_if (dt_cmp (o_eq hr) (dv 1) dstr)
      (ds_one (ds_ret (de_lst (da_cons (de_tup (da_cons (de_tup (da_cons (dv 2) (da_cons dstr da_nil))) (da_cons (de_tup (da_cons (dv 3) (da_cons dstr da_nil))) da_nil))) (da_cons (de_tup (da_cons (de_tup (da_cons (dv 2) (da_cons dstr da_nil))) (da_cons (de_tup (da_cons (dv 3) (da_cons dstr da_nil))) da_nil))) da_nil)))))
      ds_nil)
      (ds_one (ds_ret (de_lst (da_cons (de_tup (da_cons (de_tup (da_cons (dv 2) (da_cons dstr da_nil))) (da_cons (de_tup (da_cons (dv 3) (da_cons dstr da_nil))) da_nil))) (da_cons (de_tup (da_cons (de_tup (da_cons (dv 2) (da_cons dstr da_nil))) (da_cons (de_tup (da_cons (dv 3) (da_cons dstr da_nil))) da_nil))) da_nil)))))))))))), ?_⟩
  rintro ds M post ⟨r, rfl, h⟩
  cases r <;> unfold ruleD <;> (try walk_at "clauses_of") <;> exact h
theorem ok_clauses_of (T : Tx P w K mg base) : Pub P w K mg base 3 "clauses_of" ["rule"] sp_clauses_of := (fn_clauses_of T).pub fun _ _ _ _ _ _ us hl => match us, hl with | [_], _ => rfl
theorem sc_steps_of : FnScope ["rule", "found", "one", "other"] ["rule"] (defScope (top 32)) := ⟨rfl, rfl, rfl, by decide +kernel, rfl, by decide +kernel, by decide +kernel⟩
def sp_steps_of : DSp := fun ds M post => ∃ r, ds = [ruleD r] ∧ post (.lst ((steps r).map clD)) M
theorem cl_steps_of {r : Rule} {M : Mem} {post : WK} : sp_steps_of [ruleD r] M post = post (.lst ((steps r).map clD)) M := by
  simp [-Bool.exists_bool, sp_steps_of, tp_inj, litD_inj, strs_inj, ruleD_inj, clD_inj, setD_inj, rules_inj, lits_inj, sets_inj, ints_inj, panF_inj, rngs_inj, rngE_inj, sg_inj, and_assoc, Int.natCast_inj]
local macro_rules | `(tactic| walk_at "steps_of") => `(tactic| simp only [↓cl_clauses_of, cl_clauses_of, ↓cl_opposite, cl_opposite, ↓FD.sSeq_e, ↓FD.sRet_e, ↓FD.sIf_e, ↓FD.sAsg_e, ↓FD.gSet_e, ↓FD.sDrop_e, ↓FD.sNext_e, ↓FD.sPar_e, ↓FD.sPar3_e, ↓FD.wIf_e, ↓FD.wOp_e, ↓FD.wUn_e, ↓FD.wVar_e, ↓FD.wC_e, ↓FD.wTst_e, ↓FD.wAnd_e, ↓FD.wOr_e, ↓FD.wNot_e, ↓FD.wAndV_e, ↓FD.wOrV_e, ↓FD.wNotV_e, ↓FD.wChain_e, ↓FD.aNil_e, ↓FD.aCons_e, ↓FD.wTup_e, ↓FD.wLst_e, ↓FD.wFtp_e, ↓FD.wNew_e, ↓FD.wCall_e, ↓FD.wB_e, ↓FD.wSl_e, ↓FD.oSome_e, ↓FD.oNone_e, ↓FD.wIsi_e, ↓FD.wIsiC_e, ↓FD.p1_e, ↓FD.p2_e, ↓FD.gLen_e, ↓FD.iLst_e, ↓FD.iTup_e, ↓FD.iStrD_e, ↓FD.iEnT_e, ↓FD.iEnL_e, ↓FD.iRng_e, ↓FD.iRng2_e, ↓FD.gTup_e, ↓FD.gsNil_e, ↓FD.gsCons_e, ↓FD.wM_e, ↓FD.wIxT_e, ↓FD.wFld_e, ↓FD.wMeth_e, ↓FD.wMake_e, ↓FD.sFldD_e, ↓FD.wDGet_e, ↓FD.sDput_e, ↓FD.wDNewK_e, ↓FD.wDNewT_e, ↓FD.wDisp1_e, ↓FD.wIce_e, ↓FD.gSub_e, ↓FD.wCallK_e, ↓FD.t1_e, ↓FD.t2_e, ↓FD.t1w_e, ↓FD.tYesD_e, ↓FD.gDIn_e, ↓FD.gDNin_e, ↓FD.gIndexT_e, ↓FD.gIndex_e, ↓FD.gInt_e, ↓FD.gAbs_e, ↓FD.gMax_e, ↓FD.gMin_e, ↓FD.gDivmod_e, ↓FD.wFz_e, ↓FD.wDGetD_e, ↓FD.t3_e, ↓FD.iZip3D_e, ↓sFor_eq, ↓wLc_eq, ↓wLc2_eq, ↓wDc_eq, ↓look_zero, ↓look_succ, ↓got_so, ↓isB_bl, ↓isI_int, ↓isS_str, ↓isT_tup, ↓isT_ftp, ↓isT_ktp, ↓isT_tp, ↓one_one, ↓two_two, ↓startD_cc, ↓startD_cn, ↓startD_nn, ↓FD.ix_str, ↓FD.ix_tup, ↓ix_ftp, ↓ix_ktp, ↓ix_lst, ↓ix_scr, ↓ix_tp, ↓atI0, ↓atI1, ↓atI2, ↓atI3, ↓FD.eq_str, ↓FD.ne_str, ↓FD.eq_int, ↓FD.ne_int, ↓FD.add_int, ↓FD.sub_int, ↓FD.lt_int, ↓FD.le_int, ↓FD.gt_int, ↓FD.ge_int, ↓FD.add_str, ↓FD.add_lst, ↓FD.add_tup, ↓FD.mul_int, ↓FD.mod_int, ↓FD.fdiv_int, ↓FD.pow_int, ↓isN_non, ↓notN_non, ↓FD.len_str, ↓len_tup, ↓len_ftp, ↓len_ktp, ↓len_lst, ↓len_scr, ↓len_tp, ↓seq_tup, ↓seq_ftp, ↓seq_ktp, ↓seq_lst, ↓seq_scr, ↓seq_tp, ↓in_tup, ↓in_ftp, ↓in_ktp, ↓in_lst, ↓nin_tup, ↓nin_ftp, ↓nin_ktp, ↓nin_lst, ↓FD.in_str, ↓nin_str, ↓isC_one, ↓asL_lst, ↓asL_scr, ↓if_tt, ↓if_ff, ↓isi_ss, ↓isi_tt, ↓isi_st, ↓isi_ts, ↓ty_str, ↓ty_tup, ↓ty_ftp, ↓ty_tp, ↓all_lst, ↓any_lst, ↓flat_s, ↓flat_set, ↓tuple_lst, ↓FD.int_int, ↓eq_ftp_nil, ↓ne_ftp_nil, ↓isNon_non, ↓isNon_int, ↓isNon_str, ↓isNon_ptr, ↓isNon_tup, ↓isNon_ftp, ↓inL_strs, ↓flatSs, ↓inL_sets, ↓flatSets, ↓FM.tw, ↓FM.tw3, ↓FM.sl_str, ↓sl_set, ↓cell_upd, ↓lk_sw, ↓lk_ru, ↓lk_st, ↓lk_place, ↓lk_has, ↓lk_keeps, ↓lk_wrongs, ↓lk_goods, ↓lk_ways_from, ↓lk_text, ↓ins_pan, ↓FD.fit_le, ↓cx_K, ↓nox_K, ↓blk_K, ↓bx_K, ↓c1, ↓c2, ↓c3, ↓c4, ↓inL_cons, ↓inL_nil, ↓all_bools, ↓any_bools, ↓in_tp, ↓nin_tp, ↓FM.sl_ftp, ↓FM.sl_tup, ↓FM.sl_lst, ↓FM.sl_scr, ↓index_eq, ↓ex_ftp, ↓eqd_str, ↓wf_at, ↓isT_cl, ↓isT_st, ↓isT_lit, ↓ix_lit0, ↓ix_lit1, ↓len_lit, ↓ty_lit, ↓eq_lit, ↓ne_lit, ↓eq_set, ↓ne_set, ↓len_set, ↓ty_set, ↓isS_set, ↓isC_sg, ↓sNever_e, ↓enumD_map, ↓dpAll_strs, ↓dpAll_mapI, ↓ne_lst_nil, ↓eq_lst_nil, ↓isT_grp, ↓len_grp, ↓isDc_wf, ↓wn_at, ↓isT_way, ↓len_way, ↓ty_way, ↓ty_st, ↓len_st, ↓ix_st0, ↓ix_st1, ↓inD_lits, ↓ninD_lits, ↓dpAll_sets, ↓three_three, ↓zip3_sets, ↓isT_z3, ↓inL_lock, ↓ninT_lits, ↓FM.tp_t, ↓FM.tp_f, Bool.not_true, Bool.not_false, Bool.false_eq_true, if_false, if_true, true_and, and_true, List.set_cons_zero, List.set_cons_succ, List.length_cons, List.length_nil, List.length_map, eq_self, decide_true, decide_false, Bool.true_eq_false, or_self, Bool.or_self, List.all_cons, List.all_nil, Bool.and_true, Bool.true_and, Bool.or_false, Bool.false_or, Bool.or_true, Bool.true_or, Bool.and_false, Bool.false_and, Int.reduceLT, Int.reduceLE, Int.reduceEq, Nat.reduceLeDiff, Nat.reduceAdd, Nat.reduceLT, wf_some, wn_some, fold_lit, fold_litp, fold_litm, sg_iff, sg_in_pm, isNon_opt, isEmpty_map, ↓reduceIte, nq_0_1, nq_0_2, nq_0_3, nq_0_4, nq_0_5, nq_0_6, nq_0_7, nq_1_0, nq_1_2, nq_1_3, nq_1_4, nq_1_5, nq_1_6, nq_1_7, nq_2_0, nq_2_1, nq_2_3, nq_2_4, nq_2_5, nq_2_6, nq_2_7, nq_3_0, nq_3_1, nq_3_2, nq_3_4, nq_3_5, nq_3_6, nq_3_7, nq_4_0, nq_4_1, nq_4_2, nq_4_3, nq_4_5, nq_4_6, nq_4_7, nq_5_0, nq_5_1, nq_5_2, nq_5_3, nq_5_4, nq_5_6, nq_5_7, nq_6_0, nq_6_1, nq_6_2, nq_6_3, nq_6_4, nq_6_5, nq_6_7, nq_7_0, nq_7_1, nq_7_2, nq_7_3, nq_7_4, nq_7_5, nq_7_6])
theorem fn_steps_of (T : Tx P w K mg base) : Fng P w K mg base 4 "steps_of" (top 32) ["rule"] sp_steps_of := by
  have S := sc_steps_of
  refine fng_of T.d_steps_of T.g_steps_of S (fun ds M post h => by unfold sp_steps_of at h; grind) fun f cdv A outer s H gd hr => ⟨_, (ds_cons (ds_set (i := 1) S.nd (de_new da_nil))
      (ds_cons (ds_for PassesOwn.never rfl (di_list (de_call (ok_clauses_of T) (hr.mono (by decide)) gd (da_cons (dv 0) da_nil))) (dg_tup (n := 2) rfl (dgs_cons (dg_name (i := 2) S.nd) (dgs_cons (dg_name (i := 3) S.nd) dgs_nil)))
      (ds_cons (ds_expr (de_ml PySem.F.slot_list_append PySem.F.type_list_append m_append (dv 1) (da_cons (de_tup (da_cons (de_call (ok_opposite T) (hr.mono (by decide)) gd (da_cons (dv 2) da_nil)) (da_cons (dv 3) da_nil))) da_nil)))
      (ds_one (ds_if (dt_cmp (o_ne hr) (dv 2) (dv 3))
      (ds_one (ds_expr (de_ml PySem.F.slot_list_append PySem.F.type_list_append m_append (dv 1) (da_cons (de_tup (da_cons (de_call (ok_opposite T) (hr.mono (by decide)) gd (da_cons (dv 3) da_nil)) (da_cons (dv 2) da_nil))) da_nil))))
      ds_nil))))
      (ds_one (ds_ret (de_ice (dv 1)))))), ?_⟩
  rintro ds M post ⟨r, rfl, h⟩
  (try walk_at "steps_of")
  intro p hp
  refine for_map (clauses r) clD (fun i Γ' M' => ∃ x y, Γ' = [some (ruleD r), some (.ptr p), x, y] ∧ M' = M.upd p (.lst ((((clauses r).take i).flatMap steps1).map clD))) ⟨_, _, rfl, rfl⟩ (fun _ _ _ _ => trivial) ?_ ?_
  · rintro i c hc Γ' M' ⟨x, y, rfl, rfl⟩
    have l1 := steps1_len ((clauses r).take i)
    have l2 := clauses_len r
    have l3 : ((clauses r).take i).length ≤ 2 := by rw [List.length_take]; omega
    rw [tk_fm hc]
    (try walk_at "steps_of")
    rw [append_eq Mem.upd_same]
    (try walk_at "steps_of")
    refine ⟨okL_cell Mem.upd_same, by omega, ?_⟩
    by_cases e : c.1 = c.2
    · have es : steps1 c = [(c.1.op, c.2)] := by unfold steps1; rw [if_pos e]
      rw [es]
      simp only [e, decide_true, Bool.not_true, Bool.false_eq_true, if_false, if_true]
      (try walk_at "steps_of")
      exact ⟨_, _, rfl, by simp [Mem.upd_upd, clD, List.map_append]⟩
    · have es : steps1 c = [(c.1.op, c.2), (c.2.op, c.1)] := by unfold steps1; rw [if_neg e]
      rw [es]
      simp only [e, decide_false, Bool.not_false, if_true, if_false]
      (try walk_at "steps_of")
      rw [Mem.upd_upd, append_eq Mem.upd_same]
      (try walk_at "steps_of")
      refine ⟨okL_cell Mem.upd_same, by simp only [List.length_append, List.length_map, List.length_cons, List.length_nil]; omega, _, _, rfl, by simp [Mem.upd_upd, clD, List.map_append]⟩
  · rintro Γ' M' ⟨x, y, rfl, rfl⟩
    (try walk_at "steps_of")
    rw [Mem.del_upd hp, List.take_length]
    exact h
theorem ok_steps_of (T : Tx P w K mg base) : Pub P w K mg base 4 "steps_of" ["rule"] sp_steps_of := (fn_steps_of T).pub fun _ _ _ _ _ _ us hl => match us, hl with | [_], _ => rfl
theorem sc_literals_of : FnScope ["switches", "switch", "sign"] ["switches"] (defScope (top 23)) := ⟨rfl, rfl, rfl, by decide +kernel, rfl, by decide +kernel, by decide +kernel⟩
def sp_literals_of : DSp := fun ds M post => ∃ ss : List Str, ds = [strsF ss] ∧ ss.length ≤ 1000 ∧ post (.lst ((lits ss).map litD)) M
theorem cl_literals_of {ss : List Str} {M : Mem} {post : WK} : sp_literals_of [strsF ss] M post = (ss.length ≤ 1000 ∧ post (.lst ((lits ss).map litD)) M) := by
  simp [-Bool.exists_bool, sp_literals_of, tp_inj, litD_inj, strs_inj, ruleD_inj, clD_inj, setD_inj, rules_inj, lits_inj, sets_inj, ints_inj, panF_inj, rngs_inj, rngE_inj, sg_inj, and_assoc, Int.natCast_inj]
theorem fn_literals_of (T : Tx P w K mg base) : Fng P w K mg base 1 "literals_of" (top 23) ["switches"] sp_literals_of := by
  have S := sc_literals_of
  refine fng_of T.d_literals_of T.g_literals_of S (fun ds M post h => by unfold sp_literals_of at h; grind) fun f cdv A outer s H gd hr => ⟨_, (ds_one (ds_ret (de_lc2 (own := [("switch", 1), ("sign", 2)]) (vs1 := [2]) rfl S.nd (di_tup (dv 0)) (blkOk_by (N := ["switches", "switch", "sign"]) (sc := defScope (top 23)) (by decide +kernel)) (by decide) (tgt1w (by decide)) tgt1 (fun _ _ _ _ _ => pg_name (i := 1) S.nd rfl (Or.inl rfl)) (fun _ _ _ _ _ => dts_nil) (fun _ _ _ _ _ => (di_str T.k_SIGNS)) (fun _ _ _ _ _ => pg_name (i := 2) S.nd rfl (Or.inl rfl)) (fun _ _ _ _ _ => dts_nil) (fun _ _ _ _ _ => (de_tup (da_cons (dv 1) (da_cons (dv 2) da_nil))))))), ?_⟩
  rintro ds M post ⟨ss, rfl, hl, h⟩
  (try walk_at "w")
  have e : (ss.flatMap fun x => ([true, false].map fun b => litD ⟨x, b⟩)) = (lits ss).map litD := by
    unfold lits
    rw [List.map_flatMap]
    rfl
  refine lc2_map ss D.str (fun _ => [true, false]) (fun b => D.str (sg b)) (fun x b => litD ⟨x, b⟩) trivial ?_ ?_ ?_ ?_ ?_
  · rw [e, List.length_map, lits_len]; omega
  · intro x hx k hk
    (try walk_at "w")
    rw [signs_pm]
    refine hk _ trivial _ ?_
    intro b hb yes hy
    (try walk_at "w")
    exact hy
  · intro Γ2 P Q i hh
    exact i _ _ _ hh
  · intro d P Q i hh
    exact i _ hh
  · rw [e]; exact h
theorem ok_literals_of (T : Tx P w K mg base) : Pub P w K mg base 1 "literals_of" ["switches"] sp_literals_of := (fn_literals_of T).pub fun _ _ _ _ _ _ us hl => match us, hl with | [_], _ => rfl
theorem sc_Panel___init__ : FnScope ["self", "switches", "rules", "wrong", "literal", "index", "rule", "one", "other"] ["self", "switches", "rules"] (defScope (inClass (top 41) 0)) := ⟨rfl, rfl, rfl, by decide +kernel, rfl, by decide +kernel, by decide +kernel⟩
def sp_Panel___init__ (K : PySem.W.Frag) : DSp := fun ds M post => ∃ (a : Addr) (fg : Bool) (p : Pan), ds = [.ptr a, strsF p.ss, tp fg (p.rs.map ruleD)] ∧ (M a = some (.ins (He.ga K "Panel") []) ∧ ∀ M', (M.del a).le M' → Fz M' (M.del a) (.ptr a) (panF K fg p) → post .non M')
local macro_rules | `(tactic| walk_at "Panel___init__") => `(tactic| simp only [↓cl_check_switches, cl_check_switches, ↓cl_wrong_rule, cl_wrong_rule, ↓cl_literals_of, cl_literals_of, ↓cl_steps_of, cl_steps_of, ↓FD.sSeq_e, ↓FD.sRet_e, ↓FD.sIf_e, ↓FD.sAsg_e, ↓FD.gSet_e, ↓FD.sDrop_e, ↓FD.sNext_e, ↓FD.sPar_e, ↓FD.sPar3_e, ↓FD.wIf_e, ↓FD.wOp_e, ↓FD.wUn_e, ↓FD.wVar_e, ↓FD.wC_e, ↓FD.wTst_e, ↓FD.wAnd_e, ↓FD.wOr_e, ↓FD.wNot_e, ↓FD.wAndV_e, ↓FD.wOrV_e, ↓FD.wNotV_e, ↓FD.wChain_e, ↓FD.aNil_e, ↓FD.aCons_e, ↓FD.wTup_e, ↓FD.wLst_e, ↓FD.wFtp_e, ↓FD.wNew_e, ↓FD.wCall_e, ↓FD.wB_e, ↓FD.wSl_e, ↓FD.oSome_e, ↓FD.oNone_e, ↓FD.wIsi_e, ↓FD.wIsiC_e, ↓FD.p1_e, ↓FD.p2_e, ↓FD.gLen_e, ↓FD.iLst_e, ↓FD.iTup_e, ↓FD.iStrD_e, ↓FD.iEnT_e, ↓FD.iEnL_e, ↓FD.iRng_e, ↓FD.iRng2_e, ↓FD.gTup_e, ↓FD.gsNil_e, ↓FD.gsCons_e, ↓FD.wM_e, ↓FD.wIxT_e, ↓FD.wFld_e, ↓FD.wMeth_e, ↓FD.wMake_e, ↓FD.sFldD_e, ↓FD.wDGet_e, ↓FD.sDput_e, ↓FD.wDNewK_e, ↓FD.wDNewT_e, ↓FD.wDisp1_e, ↓FD.wIce_e, ↓FD.gSub_e, ↓FD.wCallK_e, ↓FD.t1_e, ↓FD.t2_e, ↓FD.t1w_e, ↓FD.tYesD_e, ↓FD.gDIn_e, ↓FD.gDNin_e, ↓FD.gIndexT_e, ↓FD.gIndex_e, ↓FD.gInt_e, ↓FD.gAbs_e, ↓FD.gMax_e, ↓FD.gMin_e, ↓FD.gDivmod_e, ↓FD.wFz_e, ↓FD.wDGetD_e, ↓FD.t3_e, ↓FD.iZip3D_e, ↓sFor_eq, ↓wLc_eq, ↓wLc2_eq, ↓wDc_eq, ↓look_zero, ↓look_succ, ↓got_so, ↓isB_bl, ↓isI_int, ↓isS_str, ↓isT_tup, ↓isT_ftp, ↓isT_ktp, ↓isT_tp, ↓one_one, ↓two_two, ↓startD_cc, ↓startD_cn, ↓startD_nn, ↓FD.ix_str, ↓FD.ix_tup, ↓ix_ftp, ↓ix_ktp, ↓ix_lst, ↓ix_scr, ↓ix_tp, ↓atI0, ↓atI1, ↓atI2, ↓atI3, ↓FD.eq_str, ↓FD.ne_str, ↓FD.eq_int, ↓FD.ne_int, ↓FD.add_int, ↓FD.sub_int, ↓FD.lt_int, ↓FD.le_int, ↓FD.gt_int, ↓FD.ge_int, ↓FD.add_str, ↓FD.add_lst, ↓FD.add_tup, ↓FD.mul_int, ↓FD.mod_int, ↓FD.fdiv_int, ↓FD.pow_int, ↓isN_non, ↓notN_non, ↓FD.len_str, ↓len_tup, ↓len_ftp, ↓len_ktp, ↓len_lst, ↓len_scr, ↓len_tp, ↓seq_tup, ↓seq_ftp, ↓seq_ktp, ↓seq_lst, ↓seq_scr, ↓seq_tp, ↓in_tup, ↓in_ftp, ↓in_ktp, ↓in_lst, ↓nin_tup, ↓nin_ftp, ↓nin_ktp, ↓nin_lst, ↓FD.in_str, ↓nin_str, ↓isC_one, ↓asL_lst, ↓asL_scr, ↓if_tt, ↓if_ff, ↓isi_ss, ↓isi_tt, ↓isi_st, ↓isi_ts, ↓ty_str, ↓ty_tup, ↓ty_ftp, ↓ty_tp, ↓all_lst, ↓any_lst, ↓flat_s, ↓flat_set, ↓tuple_lst, ↓FD.int_int, ↓eq_ftp_nil, ↓ne_ftp_nil, ↓isNon_non, ↓isNon_int, ↓isNon_str, ↓isNon_ptr, ↓isNon_tup, ↓isNon_ftp, ↓inL_strs, ↓flatSs, ↓inL_sets, ↓flatSets, ↓FM.tw, ↓FM.tw3, ↓FM.sl_str, ↓sl_set, ↓cell_upd, ↓lk_sw, ↓lk_ru, ↓lk_st, ↓lk_place, ↓lk_has, ↓lk_keeps, ↓lk_wrongs, ↓lk_goods, ↓lk_ways_from, ↓lk_text, ↓ins_pan, ↓FD.fit_le, ↓cx_K, ↓nox_K, ↓blk_K, ↓bx_K, ↓c1, ↓c2, ↓c3, ↓c4, ↓inL_cons, ↓inL_nil, ↓all_bools, ↓any_bools, ↓in_tp, ↓nin_tp, ↓FM.sl_ftp, ↓FM.sl_tup, ↓FM.sl_lst, ↓FM.sl_scr, ↓index_eq, ↓ex_ftp, ↓eqd_str, ↓wf_at, ↓isT_cl, ↓isT_st, ↓isT_lit, ↓ix_lit0, ↓ix_lit1, ↓len_lit, ↓ty_lit, ↓eq_lit, ↓ne_lit, ↓eq_set, ↓ne_set, ↓len_set, ↓ty_set, ↓isS_set, ↓isC_sg, ↓sNever_e, ↓enumD_map, ↓dpAll_strs, ↓dpAll_mapI, ↓ne_lst_nil, ↓eq_lst_nil, ↓isT_grp, ↓len_grp, ↓isDc_wf, ↓wn_at, ↓isT_way, ↓len_way, ↓ty_way, ↓ty_st, ↓len_st, ↓ix_st0, ↓ix_st1, ↓inD_lits, ↓ninD_lits, ↓dpAll_sets, ↓three_three, ↓zip3_sets, ↓isT_z3, ↓inL_lock, ↓ninT_lits, ↓FM.tp_t, ↓FM.tp_f, Bool.not_true, Bool.not_false, Bool.false_eq_true, if_false, if_true, true_and, and_true, List.set_cons_zero, List.set_cons_succ, List.length_cons, List.length_nil, List.length_map, eq_self, decide_true, decide_false, Bool.true_eq_false, or_self, Bool.or_self, List.all_cons, List.all_nil, Bool.and_true, Bool.true_and, Bool.or_false, Bool.false_or, Bool.or_true, Bool.true_or, Bool.and_false, Bool.false_and, Int.reduceLT, Int.reduceLE, Int.reduceEq, Nat.reduceLeDiff, Nat.reduceAdd, Nat.reduceLT, wf_some, wn_some, fold_lit, fold_litp, fold_litm, sg_iff, sg_in_pm, isNon_opt, isEmpty_map, ↓reduceIte, nq_0_1, nq_0_2, nq_0_3, nq_0_4, nq_0_5, nq_0_6, nq_0_7, nq_1_0, nq_1_2, nq_1_3, nq_1_4, nq_1_5, nq_1_6, nq_1_7, nq_2_0, nq_2_1, nq_2_3, nq_2_4, nq_2_5, nq_2_6, nq_2_7, nq_3_0, nq_3_1, nq_3_2, nq_3_4, nq_3_5, nq_3_6, nq_3_7, nq_4_0, nq_4_1, nq_4_2, nq_4_3, nq_4_5, nq_4_6, nq_4_7, nq_5_0, nq_5_1, nq_5_2, nq_5_3, nq_5_4, nq_5_6, nq_5_7, nq_6_0, nq_6_1, nq_6_2, nq_6_3, nq_6_4, nq_6_5, nq_6_7, nq_7_0, nq_7_1, nq_7_2, nq_7_3, nq_7_4, nq_7_5, nq_7_6])
theorem mk_Panel (T : Tx P w K mg base) : PubC P w K mg base 5 "Panel" (He.ga K "Panel") ["self", "switches", "rules"] [] (sp_Panel___init__ K) := by
  have S := sc_Panel___init__
  refine pubC_of T.d_Panel___init__ T.mk_Panel T.gc_Panel S (by simp) (fun _ _ _ _ _ _ _ us its h1 h2 => match us, its, h1, h2 with | [_, _, _], [_], _, _ => ⟨_, rfl, rfl⟩) (fun ds M post h => by unfold sp_Panel___init__ at h; grind) fun f cdv A outer s H gd hr => ⟨_, (ds_cons (ds_expr (de_call (ok_check_switches T) (hr.mono (by decide)) gd (da_cons (dv 1) da_nil)))
      (ds_cons (ds_if (dt_not (dt_val (de_isi (T := "tuple") (dv 2) T.m_isinstance T.m_tuple (by decide +kernel))))
      (ds_one ds_never)
      ds_nil)
      (ds_cons (ds_set (i := 3) S.nd (de_call (ok_wrong_rule T) (hr.mono (by decide)) gd (da_cons (dv 2) (da_cons (dv 1) da_nil))))
      (ds_cons (ds_if (dt_cmp o_notN (dv 3) dnon)
      (ds_one ds_never)
      ds_nil)
      (ds_cons (ds_fld T.c_Panel T.n_Panel_switches (dv 0) (dv 1))
      (ds_cons (ds_fld T.c_Panel T.n_Panel_rules (dv 0) (dv 2))
      (ds_cons (ds_fld T.c_Panel T.n_Panel_steps (dv 0) (de_dcT (own := [("literal", 4)]) hr rfl S.nd (di_list (de_call (ok_literals_of T) (hr.mono (by decide)) gd (da_cons (dv 1) da_nil))) (blkOk_by (N := ["self", "switches", "rules", "wrong", "literal", "index", "rule", "one", "other"]) (sc := defScope (inClass (top 41) 0)) (by decide +kernel)) tgt1 (fun _ _ _ _ _ => pg_name (i := 4) S.nd rfl (Or.inl rfl)) (fun _ _ _ _ _ => dts_nil) (fun _ _ _ _ _ => (dv 4)) (fun _ _ _ _ _ => (de_new da_nil))))
      (ds_one (ds_for PassesOwn.never rfl (di_enumT T.m_enumerate (da_cons (dv 2) da_nil)) (dg_tup (n := 2) rfl (dgs_cons (dg_name (i := 5) S.nd) (dgs_cons (dg_name (i := 6) S.nd) dgs_nil)))
      (ds_one (ds_for PassesOwn.never rfl (di_list (de_call (ok_steps_of T) (hr.mono (by decide)) gd (da_cons (dv 6) da_nil))) (dg_tup (n := 2) rfl (dgs_cons (dg_name (i := 7) S.nd) (dgs_cons (dg_name (i := 8) S.nd) dgs_nil)))
      (ds_one (ds_expr (de_ml PySem.F.slot_list_append PySem.F.type_list_append m_append (de_dget hr (de_fld T.c_Panel T.n_Panel_steps (dv 0)) (dv 7)) (da_cons (de_tup (da_cons (dv 5) (da_cons (dv 8) da_nil))) da_nil))))))))))))))), ?_⟩
  rintro ds M post ⟨a, fg, p, rfl, ha, h⟩
  have l10 := p.sw.2.1
  (try walk_at "Panel___init__")
  refine ⟨p.sw.1, wrongSw_none p.sw, ?_⟩
  rw [wrongRu_none p.ru p.len, insOf_eq ha]
  (try walk_at "Panel___init__")
  rw [insOf_eq Mem.upd_same]
  have e1 : putFD "switches" (strsF p.ss) [] = ([("switches", strsF p.ss)] : List (Str × D)) := rfl
  rw [e1, pf2, Mem.upd_upd]
  refine ⟨by simp, by omega, ?_⟩
  intro d hd
  have da : d ≠ a := fun e => by rw [e, Mem.upd_same] at hd; cases hd
  have bd : (M.del a) d = none := by rw [Mem.upd_ne da] at hd; rw [Mem.del_ne da]; exact hd
  refine ⟨fun i M' => ∃ q, DictI (M.del a) a (He.ga K "Panel") [("switches", strsF p.ss), ("rules", tp fg (p.rs.map ruleD))] d q ((lits p.ss).take i) (fun _ => []) M', ⟨fun _ => 0, ?_⟩, fun _ _ _ => trivial, ?_, ?_⟩
  · refine ⟨?_, Mem.upd_same, da, Mem.del_same, bd, fun b hb => by simp at hb, fun b hb => by simp at hb, fun x o e => ?_⟩
    · rw [Mem.upd_ne (Ne.symm da), Mem.upd_same]
    · have xa : x ≠ a := fun z => by rw [z, Mem.del_same] at e; cases e
      have xd : x ≠ d := fun z => by rw [z, bd] at e; cases e
      rw [Mem.upd_ne xd, Mem.upd_ne xa]
      rw [Mem.del_ne xa] at e; exact e
  · rintro i y M' hy ⟨q, I⟩
    obtain ⟨b, hb, rfl⟩ := map_at hy
    have nb : b ∉ (lits p.ss).take i := by
      intro m
      have nd := lits_nodup p.sw.2.2.1
      obtain ⟨hi, e⟩ := List.getElem?_eq_some_iff.mp hb
      obtain ⟨j, hj, e2⟩ := List.mem_iff_getElem.mp m
      rw [List.length_take] at hj
      rw [List.getElem_take] at e2
      have := (List.getElem_inj (h₀ := by omega) (h₁ := hi) nd).mp (e2.trans e.symm)
      omega
    (try walk_at "Panel___init__")
    intro r hr
    obtain ⟨h1, q', h2⟩ := I.new nb hr
    rw [dPut_T h1 keyT_lit, tk_one hb]
    refine ⟨?_, q', h2⟩
    rw [List.length_map, List.length_take, lits_len]; omega
  · rintro M' ⟨q, I⟩
    rw [List.length_map, List.take_length] at I
    rw [insOf_eq I.inst, pf3]
    refine ⟨by simp, ?_⟩
    refine for_map p.rs.zipIdx (fun q => D.tup [.int (q.2 : Int), ruleD q.1]) (fun i Γ' M2 => (∃ x y u v, Γ' = [some (.ptr a), some (strsF p.ss), some (tp fg (p.rs.map ruleD)), some .non, none, x, y, u, v]) ∧ DictI (M.del a) a (He.ga K "Panel") [("switches", strsF p.ss), ("rules", tp fg (p.rs.map ruleD)), ("steps", .ptr d)] d q (lits p.ss) (stP (p.rs.zipIdx.take i)) M2) ⟨⟨_, _, _, _, rfl⟩, I.setf _⟩ (fun _ _ _ _ => trivial) ?_ ?_
    · rintro i ⟨r, k⟩ hx Γ' M2 ⟨⟨x, y, u, v, rfl⟩, J⟩
      have hr2 : ruleOk p.ss r = true := p.ru r (by obtain ⟨_, _, e⟩ := List.mem_zipIdx (List.mem_of_getElem? hx); rw [e]; exact List.getElem_mem _)
      have li : i < 240 := by
        have := (List.getElem?_eq_some_iff.mp hx).1
        rw [List.length_zipIdx] at this
        have := p.len
        omega
      (try walk_at "Panel___init__")
      refine for_map (steps r) clD (fun j Γ' M2 => (∃ x y, Γ' = [some (.ptr a), some (strsF p.ss), some (tp fg (p.rs.map ruleD)), some .non, none, some (.int (k : Int)), some (ruleD r), x, y]) ∧ DictI (M.del a) a (He.ga K "Panel") [("switches", strsF p.ss), ("rules", tp fg (p.rs.map ruleD)), ("steps", .ptr d)] d q (lits p.ss) (fun b => stP (p.rs.zipIdx.take i) b ++ (((steps r).take j).filter fun q => decide (q.1 = b)).map fun q => (k, q.2)) M2) ⟨⟨_, _, rfl⟩, J.congr fun b hb => by simp⟩ (fun _ _ _ _ => trivial) ?_ ?_
      · rintro j ⟨one, other⟩ hc Γ' M3 ⟨⟨x, y, rfl⟩, J⟩
        have hs : StepP p.rs one other := ⟨r, by obtain ⟨_, _, e⟩ := List.mem_zipIdx (List.mem_of_getElem? hx); rw [e]; exact List.getElem_mem _, List.mem_of_getElem? hc⟩
        have ho : one ∈ lits p.ss := mem_lits.mpr (step_in p.ru hs).1
        (try walk_at "Panel___init__")
        rw [insR_ptr J.inst]
        have lk : ([("switches", strsF p.ss), ("rules", tp fg (p.rs.map ruleD)), ("steps", .ptr d)] : List (Str × D)).lookup ("steps" : Str) = some (D.ptr d) := rfl
        rw [lk, got_so, dAt_T J.dict keyT_lit, val_map.1 ho, got_so]
        have ce := (J.cells one ho).1
        rw [append_eq ce]
        refine ⟨okL_cell ce, ?_, ⟨_, _, rfl⟩, ?_⟩
        · rw [List.length_map, List.length_append, List.length_map]
          have h1 := stP_len one (p.rs.zipIdx.take i)
          rw [List.length_take] at h1
          have h2 : (((steps r).take j).filter fun q => decide (q.1 = one)).length ≤ ((steps r).take j).length := List.length_filter_le ..
          rw [List.length_take] at h2
          have h3 := steps_len r
          omega
        · refine (J.app ho (k, other)).congr fun b hb => ?_
          rw [tk_one hc, List.filter_append, List.map_append]
          by_cases e : b = one
          · subst e; simp
          · have e2 : ¬ one = b := fun z => e z.symm
            simp [e, e2]
      · rintro Γ' M3 ⟨⟨x, y, rfl⟩, J⟩
        refine ⟨⟨_, _, _, _, rfl⟩, J.congr fun b hb => ?_⟩
        rw [List.take_length]
        unfold stP
        rw [tk_fm hx]
    · rintro Γ' M2 ⟨⟨x, y, u, v, rfl⟩, J⟩
      rw [List.take_length] at J
      exact h M2 J.frame J.fz
end
end LW

namespace LW
open PySem PySem.Spec PyProof.Rows L2 FD FM
local macro_rules | `(tactic| walk_at "w") => `(tactic| simp only [↓FD.sSeq_e, ↓FD.sRet_e, ↓FD.sIf_e, ↓FD.sAsg_e, ↓FD.gSet_e, ↓FD.sDrop_e, ↓FD.sNext_e, ↓FD.sPar_e, ↓FD.sPar3_e, ↓FD.wIf_e, ↓FD.wOp_e, ↓FD.wUn_e, ↓FD.wVar_e, ↓FD.wC_e, ↓FD.wTst_e, ↓FD.wAnd_e, ↓FD.wOr_e, ↓FD.wNot_e, ↓FD.wAndV_e, ↓FD.wOrV_e, ↓FD.wNotV_e, ↓FD.wChain_e, ↓FD.aNil_e, ↓FD.aCons_e, ↓FD.wTup_e, ↓FD.wLst_e, ↓FD.wFtp_e, ↓FD.wNew_e, ↓FD.wCall_e, ↓FD.wB_e, ↓FD.wSl_e, ↓FD.oSome_e, ↓FD.oNone_e, ↓FD.wIsi_e, ↓FD.wIsiC_e, ↓FD.p1_e, ↓FD.p2_e, ↓FD.gLen_e, ↓FD.iLst_e, ↓FD.iTup_e, ↓FD.iStrD_e, ↓FD.iEnT_e, ↓FD.iEnL_e, ↓FD.iRng_e, ↓FD.iRng2_e, ↓FD.gTup_e, ↓FD.gsNil_e, ↓FD.gsCons_e, ↓FD.wM_e, ↓FD.wIxT_e, ↓FD.wFld_e, ↓FD.wMeth_e, ↓FD.wMake_e, ↓FD.sFldD_e, ↓FD.wDGet_e, ↓FD.sDput_e, ↓FD.wDNewK_e, ↓FD.wDNewT_e, ↓FD.wDisp1_e, ↓FD.wIce_e, ↓FD.gSub_e, ↓FD.wCallK_e, ↓FD.t1_e, ↓FD.t2_e, ↓FD.t1w_e, ↓FD.tYesD_e, ↓FD.gDIn_e, ↓FD.gDNin_e, ↓FD.gIndexT_e, ↓FD.gIndex_e, ↓FD.gInt_e, ↓FD.gAbs_e, ↓FD.gMax_e, ↓FD.gMin_e, ↓FD.gDivmod_e, ↓FD.wFz_e, ↓FD.wDGetD_e, ↓FD.t3_e, ↓FD.iZip3D_e, ↓sFor_eq, ↓wLc_eq, ↓wLc2_eq, ↓wDc_eq, ↓look_zero, ↓look_succ, ↓got_so, ↓isB_bl, ↓isI_int, ↓isS_str, ↓isT_tup, ↓isT_ftp, ↓isT_ktp, ↓isT_tp, ↓one_one, ↓two_two, ↓startD_cc, ↓startD_cn, ↓startD_nn, ↓FD.ix_str, ↓FD.ix_tup, ↓ix_ftp, ↓ix_ktp, ↓ix_lst, ↓ix_scr, ↓ix_tp, ↓atI0, ↓atI1, ↓atI2, ↓atI3, ↓FD.eq_str, ↓FD.ne_str, ↓FD.eq_int, ↓FD.ne_int, ↓FD.add_int, ↓FD.sub_int, ↓FD.lt_int, ↓FD.le_int, ↓FD.gt_int, ↓FD.ge_int, ↓FD.add_str, ↓FD.add_lst, ↓FD.add_tup, ↓FD.mul_int, ↓FD.mod_int, ↓FD.fdiv_int, ↓FD.pow_int, ↓isN_non, ↓notN_non, ↓FD.len_str, ↓len_tup, ↓len_ftp, ↓len_ktp, ↓len_lst, ↓len_scr, ↓len_tp, ↓seq_tup, ↓seq_ftp, ↓seq_ktp, ↓seq_lst, ↓seq_scr, ↓seq_tp, ↓in_tup, ↓in_ftp, ↓in_ktp, ↓in_lst, ↓nin_tup, ↓nin_ftp, ↓nin_ktp, ↓nin_lst, ↓FD.in_str, ↓nin_str, ↓isC_one, ↓asL_lst, ↓asL_scr, ↓if_tt, ↓if_ff, ↓isi_ss, ↓isi_tt, ↓isi_st, ↓isi_ts, ↓ty_str, ↓ty_tup, ↓ty_ftp, ↓ty_tp, ↓all_lst, ↓any_lst, ↓flat_s, ↓flat_set, ↓tuple_lst, ↓FD.int_int, ↓eq_ftp_nil, ↓ne_ftp_nil, ↓isNon_non, ↓isNon_int, ↓isNon_str, ↓isNon_ptr, ↓isNon_tup, ↓isNon_ftp, ↓inL_strs, ↓flatSs, ↓inL_sets, ↓flatSets, ↓FM.tw, ↓FM.tw3, ↓FM.sl_str, ↓sl_set, ↓cell_upd, ↓lk_sw, ↓lk_ru, ↓lk_st, ↓lk_place, ↓lk_has, ↓lk_keeps, ↓lk_wrongs, ↓lk_goods, ↓lk_ways_from, ↓lk_text, ↓ins_pan, ↓FD.fit_le, ↓cx_K, ↓nox_K, ↓blk_K, ↓bx_K, ↓c1, ↓c2, ↓c3, ↓c4, ↓inL_cons, ↓inL_nil, ↓all_bools, ↓any_bools, ↓in_tp, ↓nin_tp, ↓FM.sl_ftp, ↓FM.sl_tup, ↓FM.sl_lst, ↓FM.sl_scr, ↓index_eq, ↓ex_ftp, ↓eqd_str, ↓wf_at, ↓isT_cl, ↓isT_st, ↓isT_lit, ↓ix_lit0, ↓ix_lit1, ↓len_lit, ↓ty_lit, ↓eq_lit, ↓ne_lit, ↓eq_set, ↓ne_set, ↓len_set, ↓ty_set, ↓isS_set, ↓isC_sg, ↓sNever_e, ↓enumD_map, ↓dpAll_strs, ↓dpAll_mapI, ↓ne_lst_nil, ↓eq_lst_nil, ↓isT_grp, ↓len_grp, ↓isDc_wf, ↓wn_at, ↓isT_way, ↓len_way, ↓ty_way, ↓ty_st, ↓len_st, ↓ix_st0, ↓ix_st1, ↓inD_lits, ↓ninD_lits, ↓dpAll_sets, ↓three_three, ↓zip3_sets, ↓isT_z3, ↓inL_lock, ↓ninT_lits, ↓FM.tp_t, ↓FM.tp_f, Bool.not_true, Bool.not_false, Bool.false_eq_true, if_false, if_true, true_and, and_true, List.set_cons_zero, List.set_cons_succ, List.length_cons, List.length_nil, List.length_map, eq_self, decide_true, decide_false, Bool.true_eq_false, or_self, Bool.or_self, List.all_cons, List.all_nil, Bool.and_true, Bool.true_and, Bool.or_false, Bool.false_or, Bool.or_true, Bool.true_or, Bool.and_false, Bool.false_and, Int.reduceLT, Int.reduceLE, Int.reduceEq, Nat.reduceLeDiff, Nat.reduceAdd, Nat.reduceLT, wf_some, wn_some, fold_lit, fold_litp, fold_litm, sg_iff, sg_in_pm, isNon_opt, isEmpty_map, ↓reduceIte, nq_0_1, nq_0_2, nq_0_3, nq_0_4, nq_0_5, nq_0_6, nq_0_7, nq_1_0, nq_1_2, nq_1_3, nq_1_4, nq_1_5, nq_1_6, nq_1_7, nq_2_0, nq_2_1, nq_2_3, nq_2_4, nq_2_5, nq_2_6, nq_2_7, nq_3_0, nq_3_1, nq_3_2, nq_3_4, nq_3_5, nq_3_6, nq_3_7, nq_4_0, nq_4_1, nq_4_2, nq_4_3, nq_4_5, nq_4_6, nq_4_7, nq_5_0, nq_5_1, nq_5_2, nq_5_3, nq_5_4, nq_5_6, nq_5_7, nq_6_0, nq_6_1, nq_6_2, nq_6_3, nq_6_4, nq_6_5, nq_6_7, nq_7_0, nq_7_1, nq_7_2, nq_7_3, nq_7_4, nq_7_5, nq_7_6])
section
variable {P : Program} {w : World} {K : PySem.W.Frag} {mg : Str → Option Value} {base : Heap}
theorem sc_check_panel : FnScope ["panel"] ["panel"] (defScope (top 42)) := ⟨rfl, rfl, rfl, by decide +kernel, rfl, by decide +kernel, by decide +kernel⟩
def sp_check_panel (K : PySem.W.Frag) : DSp := fun ds M post => ∃ (fg : Bool) (p : Pan), ds = [panF K fg p] ∧ post .non M
theorem cl_check_panel {fg : Bool} {p : Pan} {M : Mem} {post : WK} : sp_check_panel K [panF K fg p] M post = post .non M := by
  simp [-Bool.exists_bool, sp_check_panel, tp_inj, litD_inj, strs_inj, ruleD_inj, clD_inj, setD_inj, rules_inj, lits_inj, sets_inj, ints_inj, panF_inj, rngs_inj, rngE_inj, sg_inj, and_assoc, Int.natCast_inj]
theorem fn_check_panel (T : Tx P w K mg base) : Fng P w K mg base 1 "check_panel" (top 42) ["panel"] (sp_check_panel K) := by
  have S := sc_check_panel
  refine fng_of T.d_check_panel T.g_check_panel S (fun ds M post h => by unfold sp_check_panel at h; grind) fun f cdv A outer s H gd hr => ⟨_, (ds_one (ds_if (dt_not (dt_val (de_isiC T.q_Panel (dv 0) T.m_isinstance)))
      (ds_one ds_never)
      ds_nil)), ?_⟩
  rintro ds M post ⟨fg, p, rfl, h⟩
  (try walk_at "w")
  exact h
theorem ok_check_panel (T : Tx P w K mg base) : Pub P w K mg base 1 "check_panel" ["panel"] (sp_check_panel K) := (fn_check_panel T).pub fun _ _ _ _ _ _ us hl => match us, hl with | [_], _ => rfl
theorem sc_all_settings : FnScope ["many", "found", "turn", "head", "sign"] ["many"] (defScope (top 26)) := ⟨rfl, rfl, rfl, by decide +kernel, rfl, by decide +kernel, by decide +kernel⟩
def sp_all_settings : DSp := fun ds M post => ∃ (n : Nat), ds = [.int (n : Int)] ∧ (n ≤ 12 ∧ post (.lst ((every n).map setD)) M)
theorem cl_all_settings {n : Nat} {M : Mem} {post : WK} : sp_all_settings [.int (n : Int)] M post = (n ≤ 12 ∧ post (.lst ((every n).map setD)) M) := by
  simp [-Bool.exists_bool, sp_all_settings, tp_inj, litD_inj, strs_inj, ruleD_inj, clD_inj, setD_inj, rules_inj, lits_inj, sets_inj, ints_inj, panF_inj, rngs_inj, rngE_inj, sg_inj, and_assoc, Int.natCast_inj]
local macro_rules | `(tactic| walk_at "all_settings") => `(tactic| simp only [↓FD.sSeq_e, ↓FD.sRet_e, ↓FD.sIf_e, ↓FD.sAsg_e, ↓FD.gSet_e, ↓FD.sDrop_e, ↓FD.sNext_e, ↓FD.sPar_e, ↓FD.sPar3_e, ↓FD.wIf_e, ↓FD.wOp_e, ↓FD.wUn_e, ↓FD.wVar_e, ↓FD.wC_e, ↓FD.wTst_e, ↓FD.wAnd_e, ↓FD.wOr_e, ↓FD.wNot_e, ↓FD.wAndV_e, ↓FD.wOrV_e, ↓FD.wNotV_e, ↓FD.wChain_e, ↓FD.aNil_e, ↓FD.aCons_e, ↓FD.wTup_e, ↓FD.wLst_e, ↓FD.wFtp_e, ↓FD.wNew_e, ↓FD.wCall_e, ↓FD.wB_e, ↓FD.wSl_e, ↓FD.oSome_e, ↓FD.oNone_e, ↓FD.wIsi_e, ↓FD.wIsiC_e, ↓FD.p1_e, ↓FD.p2_e, ↓FD.gLen_e, ↓FD.iLst_e, ↓FD.iTup_e, ↓FD.iStrD_e, ↓FD.iEnT_e, ↓FD.iEnL_e, ↓FD.iRng_e, ↓FD.iRng2_e, ↓FD.gTup_e, ↓FD.gsNil_e, ↓FD.gsCons_e, ↓FD.wM_e, ↓FD.wIxT_e, ↓FD.wFld_e, ↓FD.wMeth_e, ↓FD.wMake_e, ↓FD.sFldD_e, ↓FD.wDGet_e, ↓FD.sDput_e, ↓FD.wDNewK_e, ↓FD.wDNewT_e, ↓FD.wDisp1_e, ↓FD.wIce_e, ↓FD.gSub_e, ↓FD.wCallK_e, ↓FD.t1_e, ↓FD.t2_e, ↓FD.t1w_e, ↓FD.tYesD_e, ↓FD.gDIn_e, ↓FD.gDNin_e, ↓FD.gIndexT_e, ↓FD.gIndex_e, ↓FD.gAbs_e, ↓FD.gMax_e, ↓FD.gMin_e, ↓FD.gDivmod_e, ↓FD.wFz_e, ↓FD.wDGetD_e, ↓FD.t3_e, ↓FD.iZip3D_e, ↓sFor_eq, ↓wLc_eq, ↓wLc2_eq, ↓wDc_eq, ↓look_zero, ↓look_succ, ↓got_so, ↓isB_bl, ↓isI_int, ↓isS_str, ↓isT_tup, ↓isT_ftp, ↓isT_ktp, ↓isT_tp, ↓one_one, ↓two_two, ↓startD_cc, ↓startD_cn, ↓startD_nn, ↓FD.ix_str, ↓FD.ix_tup, ↓ix_ftp, ↓ix_ktp, ↓ix_lst, ↓ix_scr, ↓ix_tp, ↓atI0, ↓atI1, ↓atI2, ↓atI3, ↓FD.eq_str, ↓FD.ne_str, ↓FD.eq_int, ↓FD.ne_int, ↓FD.add_int, ↓FD.sub_int, ↓FD.lt_int, ↓FD.le_int, ↓FD.gt_int, ↓FD.ge_int, ↓FD.add_str, ↓FD.add_lst, ↓FD.add_tup, ↓FD.mul_int, ↓FD.mod_int, ↓FD.fdiv_int, ↓FD.pow_int, ↓isN_non, ↓notN_non, ↓FD.len_str, ↓len_tup, ↓len_ftp, ↓len_ktp, ↓len_lst, ↓len_scr, ↓len_tp, ↓seq_tup, ↓seq_ftp, ↓seq_ktp, ↓seq_lst, ↓seq_scr, ↓seq_tp, ↓in_tup, ↓in_ftp, ↓in_ktp, ↓in_lst, ↓nin_tup, ↓nin_ftp, ↓nin_ktp, ↓nin_lst, ↓FD.in_str, ↓nin_str, ↓isC_one, ↓asL_lst, ↓asL_scr, ↓if_tt, ↓if_ff, ↓isi_ss, ↓isi_tt, ↓isi_st, ↓isi_ts, ↓ty_str, ↓ty_tup, ↓ty_ftp, ↓ty_tp, ↓all_lst, ↓any_lst, ↓flat_s, ↓flat_set, ↓tuple_lst, ↓FD.int_int, ↓eq_ftp_nil, ↓ne_ftp_nil, ↓isNon_non, ↓isNon_int, ↓isNon_str, ↓isNon_ptr, ↓isNon_tup, ↓isNon_ftp, ↓inL_strs, ↓flatSs, ↓inL_sets, ↓flatSets, ↓FM.tw, ↓FM.tw3, ↓FM.sl_str, ↓sl_set, ↓cell_upd, ↓lk_sw, ↓lk_ru, ↓lk_st, ↓lk_place, ↓lk_has, ↓lk_keeps, ↓lk_wrongs, ↓lk_goods, ↓lk_ways_from, ↓lk_text, ↓ins_pan, ↓FD.fit_le, ↓cx_K, ↓nox_K, ↓blk_K, ↓bx_K, ↓c1, ↓c2, ↓c3, ↓c4, ↓inL_cons, ↓inL_nil, ↓all_bools, ↓any_bools, ↓in_tp, ↓nin_tp, ↓FM.sl_ftp, ↓FM.sl_tup, ↓FM.sl_lst, ↓FM.sl_scr, ↓index_eq, ↓ex_ftp, ↓eqd_str, ↓wf_at, ↓isT_cl, ↓isT_st, ↓isT_lit, ↓ix_lit0, ↓ix_lit1, ↓len_lit, ↓ty_lit, ↓eq_lit, ↓ne_lit, ↓eq_set, ↓ne_set, ↓len_set, ↓ty_set, ↓isS_set, ↓isC_sg, ↓sNever_e, ↓enumD_map, ↓dpAll_strs, ↓dpAll_mapI, ↓ne_lst_nil, ↓eq_lst_nil, ↓isT_grp, ↓len_grp, ↓isDc_wf, ↓wn_at, ↓isT_way, ↓len_way, ↓ty_way, ↓ty_st, ↓len_st, ↓ix_st0, ↓ix_st1, ↓inD_lits, ↓ninD_lits, ↓dpAll_sets, ↓three_three, ↓zip3_sets, ↓isT_z3, ↓inL_lock, ↓ninT_lits, ↓FM.tp_t, ↓FM.tp_f, ↓ixN30, ↓ixN31, ↓ixN32, ↓ix_upd, ↓FM.eq_bl, ↓FM.ne_bl, ↓FM.sl_tp, ↓lstOf_lst, ↓okL_lst, ↓gMulS_eq, ↓add_sets, ↓add_setb, ↓add_setp, ↓add_setm, ↓rngE_e, ↓ix_rule0, ↓repr_bb, ↓isB_isD, ↓isB_notD, ↓wLcN_eq, ↓optW_some, ↓optW_none, ↓isNon_way, ↓ne_way0, ↓mulL2, ↓add_rules, ↓add_rulesT, ↓add_rulesF, ↓ne_ftp_sets, ↓ne_ftp_lits, ↓ne_ftp_strs, Option.isSome_some, Option.isSome_none, Option.isNone_some, Option.isNone_none, Option.map_some, Option.map_none, isNon_optW, pick_nil, pick_cons, List.getElem?_cons_zero, List.getElem?_cons_succ, List.nil_append, List.append_nil, List.cons_append, Bool.decide_eq_true, Bool.decide_eq_false, Int.reduceAbs, Int.reduceToNat, Int.reducePow, true_or, or_true, Mem.upd_upd, rng_int, Bool.not_true, Bool.not_false, Bool.false_eq_true, if_false, if_true, true_and, and_true, List.set_cons_zero, List.set_cons_succ, List.length_cons, List.length_nil, List.length_map, eq_self, decide_true, decide_false, Bool.true_eq_false, or_self, Bool.or_self, List.all_cons, List.all_nil, Bool.and_true, Bool.true_and, Bool.or_false, Bool.false_or, Bool.or_true, Bool.true_or, Bool.and_false, Bool.false_and, Int.reduceLT, Int.reduceLE, Int.reduceEq, Nat.reduceLeDiff, Nat.reduceAdd, Nat.reduceLT, wf_some, wn_some, fold_lit, fold_litp, fold_litm, sg_iff, sg_in_pm, isNon_opt, isEmpty_map, ↓reduceIte, nq_0_1, nq_0_2, nq_0_3, nq_0_4, nq_0_5, nq_0_6, nq_0_7, nq_1_0, nq_1_2, nq_1_3, nq_1_4, nq_1_5, nq_1_6, nq_1_7, nq_2_0, nq_2_1, nq_2_3, nq_2_4, nq_2_5, nq_2_6, nq_2_7, nq_3_0, nq_3_1, nq_3_2, nq_3_4, nq_3_5, nq_3_6, nq_3_7, nq_4_0, nq_4_1, nq_4_2, nq_4_3, nq_4_5, nq_4_6, nq_4_7, nq_5_0, nq_5_1, nq_5_2, nq_5_3, nq_5_4, nq_5_6, nq_5_7, nq_6_0, nq_6_1, nq_6_2, nq_6_3, nq_6_4, nq_6_5, nq_6_7, nq_7_0, nq_7_1, nq_7_2, nq_7_3, nq_7_4, nq_7_5, nq_7_6])
theorem fn_all_settings (T : Tx P w K mg base) : Fng P w K mg base 1 "all_settings" (top 26) ["many"] sp_all_settings := by
  have S := sc_all_settings
  refine fng_of T.d_all_settings T.g_all_settings S (fun ds M post h => by unfold sp_all_settings at h; grind) fun f cdv A outer s H gd hr => ⟨_, (ds_cons (ds_set (i := 1) S.nd (de_lst (da_cons dstr da_nil)))
      (ds_cons (ds_for PassesOwn.never rfl (di_range T.m_range (da_cons (dv 0) da_nil)) (dg_name (i := 2) S.nd)
      (ds_one (ds_setLc2 (i := 1) (own := [("head", 3), ("sign", 4)]) (vs1 := [4]) rfl S.nd (di_list (dv 1)) (blkOk_by (N := ["many", "found", "turn", "head", "sign"]) (sc := defScope (top 26)) (by decide +kernel)) (by decide) (tgt1w (by decide)) tgt1 (fun _ _ _ _ _ => pg_name (i := 3) S.nd rfl (Or.inl rfl)) (fun _ _ _ _ _ => dts_nil) (fun _ _ _ _ _ => (di_str T.k_SIGNS)) (fun _ _ _ _ _ => pg_name (i := 4) S.nd rfl (Or.inl rfl)) (fun _ _ _ _ _ => dts_nil) (fun _ _ _ _ _ => (de_op o_add (dv 3) (dv 4))) (sw_true rfl rfl rfl (by decide +kernel)))))
      (ds_one (ds_ret (dv 1))))), ?_⟩
  rintro ds M post ⟨n, rfl, hn, h⟩
  have e0 : [D.str (Str.ofString "")] = (every 0).map setD := by unfold setD; rw [setS_nil]; rfl
  (try walk_at "all_settings")
  rw [e0]
  refine ⟨by omega, by omega, ?_⟩
  refine for_map (List.range n) rngE (fun i Γ' M' => (∃ x y z, Γ' = [some (.int (n : Int)), some (.lst ((every i).map setD)), x, y, z]) ∧ M' = M) ⟨⟨_, _, _, rfl⟩, rfl⟩ (fun _ _ _ _ => trivial) ?_ ?_
  · rintro i k hk Γ' M' ⟨⟨x, y, z, rfl⟩, rfl⟩
    have hi : i < n := by have := (List.getElem?_eq_some_iff.mp hk).1; rw [List.length_range] at this; exact this
    have es := every_small (n := i) (by omega)
    have e : ((every i).flatMap fun t => ([true, false].map fun b => setD (t ++ [b]))) = (every (i + 1)).map setD := by
      rw [every_succ, List.map_flatMap]
      rfl
    have es2 := every_small (n := i + 1) (by omega)
    (try walk_at "all_settings")
    refine lc2_map (every i) setD (fun _ => [true, false]) (fun b => D.str (sg b)) (fun t b => setD (t ++ [b])) trivial ?_ ?_ ?_ ?_ ?_
    · rw [e, List.length_map]; omega
    · intro t ht k hk
      have tl := every_mem_len ht
      (try walk_at "all_settings")
      rw [signs_pm]
      refine hk _ trivial _ ?_
      intro b hb yes hy
      (try walk_at "all_settings")
      exact ⟨by omega, hy⟩
    · intro Γ2 P Q i hh
      exact i _ _ _ hh
    · intro d P Q i hh
      exact i _ hh
    · rw [e]
      (try walk_at "all_settings")
      exact ⟨_, _, _, rfl⟩
  · rintro Γ' M' ⟨⟨x, y, z, rfl⟩, rfl⟩
    rw [List.length_range]
    (try walk_at "all_settings")
    exact h
theorem ok_all_settings (T : Tx P w K mg base) : Pub P w K mg base 1 "all_settings" ["many"] sp_all_settings := (fn_all_settings T).pub fun _ _ _ _ _ _ us hl => match us, hl with | [_], _ => rfl
theorem sc_Panel_has : FnScope ["self", "setting", "literal"] ["self", "setting", "literal"] (defScope (inClass (top 41) 4)) := ⟨rfl, rfl, rfl, by decide +kernel, rfl, by decide +kernel, by decide +kernel⟩
def sp_Panel_has (K : PySem.W.Frag) : DSp := fun ds M post => ∃ (fg : Bool) (p : Pan) (t : List Bool) (a : Lit), ds = [panF K fg p, setD t, litD a] ∧ (a.n ∈ p.ss ∧ t.length = p.ss.length ∧ post (.bl (hasL p.ss t a)) M)
theorem cl_Panel_has {fg : Bool} {p : Pan} {t : List Bool} {a : Lit} {M : Mem} {post : WK} : sp_Panel_has K [panF K fg p, setD t, litD a] M post = (a.n ∈ p.ss ∧ t.length = p.ss.length ∧ post (.bl (hasL p.ss t a)) M) := by
  simp [-Bool.exists_bool, sp_Panel_has, tp_inj, litD_inj, strs_inj, ruleD_inj, clD_inj, setD_inj, rules_inj, lits_inj, sets_inj, ints_inj, panF_inj, rngs_inj, rngE_inj, sg_inj, and_assoc, Int.natCast_inj]
theorem ok_Panel_has (T : Tx P w K mg base) : PubM P w K mg base 1 (He.ga K "Panel") "has" ["self", "setting", "literal"] (sp_Panel_has K) := by
  have S := sc_Panel_has
  refine pubM_of T.d_Panel_has T.h_Panel_has S (fun _ _ _ _ _ _ us hl => match us, hl with | [_, _, _], _ => rfl) (fun ds M post h => by unfold sp_Panel_has at h; grind) fun f cdv A outer s H gd hr => ⟨_, (ds_one (ds_ret (de_cmp (o_eq hr) (de_ix o_ix (dv 1) (de_ixT (de_fld T.c_Panel T.n_Panel_switches (dv 0)) (da_cons (de_ix o_ix (dv 2) dint) da_nil))) (de_ix o_ix (dv 2) dint)))), ?_⟩
  rintro ds M post ⟨fg, p, t, a, rfl, hn, hl, h⟩
  (try walk_at "w")
  simp only [find_eq hn, ix_set (val_at hn hl)]
  (try walk_at "w")
  unfold hasL at h
  rw [Bool.beq_eq_decide_eq] at h
  exact h
theorem sc_Panel_keeps : FnScope ["self", "rule", "setting", "one", "other"] ["self", "rule", "setting"] (defScope (inClass (top 41) 5)) := ⟨rfl, rfl, rfl, by decide +kernel, rfl, by decide +kernel, by decide +kernel⟩
def sp_Panel_keeps (K : PySem.W.Frag) : DSp := fun ds M post => ∃ (fg : Bool) (p : Pan) (r : Rule) (t : List Bool), ds = [panF K fg p, ruleD r, setD t] ∧ (ruleOk p.ss r = true ∧ t.length = p.ss.length ∧ post (.bl (keepsR p.ss t r)) M)
theorem cl_Panel_keeps {fg : Bool} {p : Pan} {r : Rule} {t : List Bool} {M : Mem} {post : WK} : sp_Panel_keeps K [panF K fg p, ruleD r, setD t] M post = (ruleOk p.ss r = true ∧ t.length = p.ss.length ∧ post (.bl (keepsR p.ss t r)) M) := by
  simp [-Bool.exists_bool, sp_Panel_keeps, tp_inj, litD_inj, strs_inj, ruleD_inj, clD_inj, setD_inj, rules_inj, lits_inj, sets_inj, ints_inj, panF_inj, rngs_inj, rngE_inj, sg_inj, and_assoc, Int.natCast_inj]
local macro_rules | `(tactic| walk_at "Panel_keeps") => `(tactic| simp only [↓cl_Panel_has, cl_Panel_has, ↓cl_clauses_of, cl_clauses_of, ↓FD.sSeq_e, ↓FD.sRet_e, ↓FD.sIf_e, ↓FD.sAsg_e, ↓FD.gSet_e, ↓FD.sDrop_e, ↓FD.sNext_e, ↓FD.sPar_e, ↓FD.sPar3_e, ↓FD.wIf_e, ↓FD.wOp_e, ↓FD.wUn_e, ↓FD.wVar_e, ↓FD.wC_e, ↓FD.wTst_e, ↓FD.wAnd_e, ↓FD.wOr_e, ↓FD.wNot_e, ↓FD.wAndV_e, ↓FD.wOrV_e, ↓FD.wNotV_e, ↓FD.wChain_e, ↓FD.aNil_e, ↓FD.aCons_e, ↓FD.wTup_e, ↓FD.wLst_e, ↓FD.wFtp_e, ↓FD.wNew_e, ↓FD.wCall_e, ↓FD.wB_e, ↓FD.wSl_e, ↓FD.oSome_e, ↓FD.oNone_e, ↓FD.wIsi_e, ↓FD.wIsiC_e, ↓FD.p1_e, ↓FD.p2_e, ↓FD.gLen_e, ↓FD.iLst_e, ↓FD.iTup_e, ↓FD.iStrD_e, ↓FD.iEnT_e, ↓FD.iEnL_e, ↓FD.iRng_e, ↓FD.iRng2_e, ↓FD.gTup_e, ↓FD.gsNil_e, ↓FD.gsCons_e, ↓FD.wM_e, ↓FD.wIxT_e, ↓FD.wFld_e, ↓FD.wMeth_e, ↓FD.wMake_e, ↓FD.sFldD_e, ↓FD.wDGet_e, ↓FD.sDput_e, ↓FD.wDNewK_e, ↓FD.wDNewT_e, ↓FD.wDisp1_e, ↓FD.wIce_e, ↓FD.gSub_e, ↓FD.wCallK_e, ↓FD.t1_e, ↓FD.t2_e, ↓FD.t1w_e, ↓FD.tYesD_e, ↓FD.gDIn_e, ↓FD.gDNin_e, ↓FD.gIndexT_e, ↓FD.gIndex_e, ↓FD.gInt_e, ↓FD.gAbs_e, ↓FD.gMax_e, ↓FD.gMin_e, ↓FD.gDivmod_e, ↓FD.wFz_e, ↓FD.wDGetD_e, ↓FD.t3_e, ↓FD.iZip3D_e, ↓sFor_eq, ↓wLc_eq, ↓wLc2_eq, ↓wDc_eq, ↓look_zero, ↓look_succ, ↓got_so, ↓isB_bl, ↓isI_int, ↓isS_str, ↓isT_tup, ↓isT_ftp, ↓isT_ktp, ↓isT_tp, ↓one_one, ↓two_two, ↓startD_cc, ↓startD_cn, ↓startD_nn, ↓FD.ix_str, ↓FD.ix_tup, ↓ix_ftp, ↓ix_ktp, ↓ix_lst, ↓ix_scr, ↓ix_tp, ↓atI0, ↓atI1, ↓atI2, ↓atI3, ↓FD.eq_str, ↓FD.ne_str, ↓FD.eq_int, ↓FD.ne_int, ↓FD.add_int, ↓FD.sub_int, ↓FD.lt_int, ↓FD.le_int, ↓FD.gt_int, ↓FD.ge_int, ↓FD.add_str, ↓FD.add_lst, ↓FD.add_tup, ↓FD.mul_int, ↓FD.mod_int, ↓FD.fdiv_int, ↓FD.pow_int, ↓isN_non, ↓notN_non, ↓FD.len_str, ↓len_tup, ↓len_ftp, ↓len_ktp, ↓len_lst, ↓len_scr, ↓len_tp, ↓seq_tup, ↓seq_ftp, ↓seq_ktp, ↓seq_lst, ↓seq_scr, ↓seq_tp, ↓in_tup, ↓in_ftp, ↓in_ktp, ↓in_lst, ↓nin_tup, ↓nin_ftp, ↓nin_ktp, ↓nin_lst, ↓FD.in_str, ↓nin_str, ↓isC_one, ↓asL_lst, ↓asL_scr, ↓if_tt, ↓if_ff, ↓isi_ss, ↓isi_tt, ↓isi_st, ↓isi_ts, ↓ty_str, ↓ty_tup, ↓ty_ftp, ↓ty_tp, ↓all_lst, ↓any_lst, ↓flat_s, ↓flat_set, ↓tuple_lst, ↓FD.int_int, ↓eq_ftp_nil, ↓ne_ftp_nil, ↓isNon_non, ↓isNon_int, ↓isNon_str, ↓isNon_ptr, ↓isNon_tup, ↓isNon_ftp, ↓inL_strs, ↓flatSs, ↓inL_sets, ↓flatSets, ↓FM.tw, ↓FM.tw3, ↓FM.sl_str, ↓sl_set, ↓cell_upd, ↓lk_sw, ↓lk_ru, ↓lk_st, ↓lk_place, ↓lk_has, ↓lk_keeps, ↓lk_wrongs, ↓lk_goods, ↓lk_ways_from, ↓lk_text, ↓ins_pan, ↓FD.fit_le, ↓cx_K, ↓nox_K, ↓blk_K, ↓bx_K, ↓c1, ↓c2, ↓c3, ↓c4, ↓inL_cons, ↓inL_nil, ↓all_bools, ↓any_bools, ↓in_tp, ↓nin_tp, ↓FM.sl_ftp, ↓FM.sl_tup, ↓FM.sl_lst, ↓FM.sl_scr, ↓index_eq, ↓ex_ftp, ↓eqd_str, ↓wf_at, ↓isT_cl, ↓isT_st, ↓isT_lit, ↓ix_lit0, ↓ix_lit1, ↓len_lit, ↓ty_lit, ↓eq_lit, ↓ne_lit, ↓eq_set, ↓ne_set, ↓len_set, ↓ty_set, ↓isS_set, ↓isC_sg, ↓sNever_e, ↓enumD_map, ↓dpAll_strs, ↓dpAll_mapI, ↓ne_lst_nil, ↓eq_lst_nil, ↓isT_grp, ↓len_grp, ↓isDc_wf, ↓wn_at, ↓isT_way, ↓len_way, ↓ty_way, ↓ty_st, ↓len_st, ↓ix_st0, ↓ix_st1, ↓inD_lits, ↓ninD_lits, ↓dpAll_sets, ↓three_three, ↓zip3_sets, ↓isT_z3, ↓inL_lock, ↓ninT_lits, ↓FM.tp_t, ↓FM.tp_f, Bool.not_true, Bool.not_false, Bool.false_eq_true, if_false, if_true, true_and, and_true, List.set_cons_zero, List.set_cons_succ, List.length_cons, List.length_nil, List.length_map, eq_self, decide_true, decide_false, Bool.true_eq_false, or_self, Bool.or_self, List.all_cons, List.all_nil, Bool.and_true, Bool.true_and, Bool.or_false, Bool.false_or, Bool.or_true, Bool.true_or, Bool.and_false, Bool.false_and, Int.reduceLT, Int.reduceLE, Int.reduceEq, Nat.reduceLeDiff, Nat.reduceAdd, Nat.reduceLT, wf_some, wn_some, fold_lit, fold_litp, fold_litm, sg_iff, sg_in_pm, isNon_opt, isEmpty_map, ↓reduceIte, nq_0_1, nq_0_2, nq_0_3, nq_0_4, nq_0_5, nq_0_6, nq_0_7, nq_1_0, nq_1_2, nq_1_3, nq_1_4, nq_1_5, nq_1_6, nq_1_7, nq_2_0, nq_2_1, nq_2_3, nq_2_4, nq_2_5, nq_2_6, nq_2_7, nq_3_0, nq_3_1, nq_3_2, nq_3_4, nq_3_5, nq_3_6, nq_3_7, nq_4_0, nq_4_1, nq_4_2, nq_4_3, nq_4_5, nq_4_6, nq_4_7, nq_5_0, nq_5_1, nq_5_2, nq_5_3, nq_5_4, nq_5_6, nq_5_7, nq_6_0, nq_6_1, nq_6_2, nq_6_3, nq_6_4, nq_6_5, nq_6_7, nq_7_0, nq_7_1, nq_7_2, nq_7_3, nq_7_4, nq_7_5, nq_7_6])
theorem ok_Panel_keeps (T : Tx P w K mg base) : PubM P w K mg base 4 (He.ga K "Panel") "keeps" ["self", "rule", "setting"] (sp_Panel_keeps K) := by
  have S := sc_Panel_keeps
  refine pubM_of T.d_Panel_keeps T.h_Panel_keeps S (fun _ _ _ _ _ _ us hl => match us, hl with | [_, _, _], _ => rfl) (fun ds M post h => by unfold sp_Panel_keeps at h; grind) fun f cdv A outer s H gd hr => ⟨_, (ds_one (ds_ret (de_b (c_all rfl) T.m_all (by decide +kernel) (da_cons (de_lc (own := [("one", 3), ("other", 4)]) rfl S.nd (di_list (de_call (ok_clauses_of T) (hr.mono (by decide)) gd (da_cons (dv 1) da_nil))) (blkOk_by (N := ["self", "rule", "setting", "one", "other"]) (sc := defScope (inClass (top 41) 5)) (by decide +kernel)) (tgt2 (by decide)) (fun _ _ _ _ _ => pg_tup rfl (pgs_cons (pg_name (i := 3) S.nd rfl (Or.inl rfl)) (pgs_cons (pg_name (i := 4) S.nd rfl (Or.inl rfl)) pgs_nil))) (fun _ _ _ _ _ => dts_nil) (fun _ _ _ _ _ => (de_or (de_meth T.c_Panel (ok_Panel_has T) (hr.mono (by decide)) gd (dv 0) (da_cons (dv 2) (da_cons (dv 3) da_nil))) (de_one (de_meth T.c_Panel (ok_Panel_has T) (hr.mono (by decide)) gd (dv 0) (da_cons (dv 2) (da_cons (dv 4) da_nil))))))) da_nil)))), ?_⟩
  rintro ds M post ⟨fg, p, r, t, rfl, hr2, hl, h⟩
  (try walk_at "Panel_keeps")
  refine lc_map (clauses r) clD (fun c => D.bl (keepsC p.ss t c)) trivial ?_ ?_
  · intro c hc yes hy
    have hn := cl_in hr2 hc
    (try walk_at "Panel_keeps")
    refine ⟨hn.1, hl, ?_⟩
    unfold keepsC at hy
    cases h1 : hasL p.ss t c.1 with
    | true => rw [h1] at hy; (try walk_at "Panel_keeps"); exact hy
    | false => rw [h1] at hy; (try walk_at "Panel_keeps"); exact ⟨hn.2, hl, hy⟩
  · rw [all_bools]
    exact h
end
end LW

namespace LW
open PySem PySem.Spec PyProof.Rows L2 FD FM
local macro_rules | `(tactic| walk_at "w") => `(tactic| simp only [↓FD.sSeq_e, ↓FD.sRet_e, ↓FD.sIf_e, ↓FD.sAsg_e, ↓FD.gSet_e, ↓FD.sDrop_e, ↓FD.sNext_e, ↓FD.sPar_e, ↓FD.sPar3_e, ↓FD.wIf_e, ↓FD.wOp_e, ↓FD.wUn_e, ↓FD.wVar_e, ↓FD.wC_e, ↓FD.wTst_e, ↓FD.wAnd_e, ↓FD.wOr_e, ↓FD.wNot_e, ↓FD.wAndV_e, ↓FD.wOrV_e, ↓FD.wNotV_e, ↓FD.wChain_e, ↓FD.aNil_e, ↓FD.aCons_e, ↓FD.wTup_e, ↓FD.wLst_e, ↓FD.wFtp_e, ↓FD.wNew_e, ↓FD.wCall_e, ↓FD.wB_e, ↓FD.wSl_e, ↓FD.oSome_e, ↓FD.oNone_e, ↓FD.wIsi_e, ↓FD.wIsiC_e, ↓FD.p1_e, ↓FD.p2_e, ↓FD.gLen_e, ↓FD.iLst_e, ↓FD.iTup_e, ↓FD.iStrD_e, ↓FD.iEnT_e, ↓FD.iEnL_e, ↓FD.iRng_e, ↓FD.iRng2_e, ↓FD.gTup_e, ↓FD.gsNil_e, ↓FD.gsCons_e, ↓FD.wM_e, ↓FD.wIxT_e, ↓FD.wFld_e, ↓FD.wMeth_e, ↓FD.wMake_e, ↓FD.sFldD_e, ↓FD.wDGet_e, ↓FD.sDput_e, ↓FD.wDNewK_e, ↓FD.wDNewT_e, ↓FD.wDisp1_e, ↓FD.wIce_e, ↓FD.gSub_e, ↓FD.wCallK_e, ↓FD.t1_e, ↓FD.t2_e, ↓FD.t1w_e, ↓FD.tYesD_e, ↓FD.gDIn_e, ↓FD.gDNin_e, ↓FD.gIndexT_e, ↓FD.gIndex_e, ↓FD.gInt_e, ↓FD.gAbs_e, ↓FD.gMax_e, ↓FD.gMin_e, ↓FD.gDivmod_e, ↓FD.wFz_e, ↓FD.wDGetD_e, ↓FD.t3_e, ↓FD.iZip3D_e, ↓sFor_eq, ↓wLc_eq, ↓wLc2_eq, ↓wDc_eq, ↓look_zero, ↓look_succ, ↓got_so, ↓isB_bl, ↓isI_int, ↓isS_str, ↓isT_tup, ↓isT_ftp, ↓isT_ktp, ↓isT_tp, ↓one_one, ↓two_two, ↓startD_cc, ↓startD_cn, ↓startD_nn, ↓FD.ix_str, ↓FD.ix_tup, ↓ix_ftp, ↓ix_ktp, ↓ix_lst, ↓ix_scr, ↓ix_tp, ↓atI0, ↓atI1, ↓atI2, ↓atI3, ↓FD.eq_str, ↓FD.ne_str, ↓FD.eq_int, ↓FD.ne_int, ↓FD.add_int, ↓FD.sub_int, ↓FD.lt_int, ↓FD.le_int, ↓FD.gt_int, ↓FD.ge_int, ↓FD.add_str, ↓FD.add_lst, ↓FD.add_tup, ↓FD.mul_int, ↓FD.mod_int, ↓FD.fdiv_int, ↓FD.pow_int, ↓isN_non, ↓notN_non, ↓FD.len_str, ↓len_tup, ↓len_ftp, ↓len_ktp, ↓len_lst, ↓len_scr, ↓len_tp, ↓seq_tup, ↓seq_ftp, ↓seq_ktp, ↓seq_lst, ↓seq_scr, ↓seq_tp, ↓in_tup, ↓in_ftp, ↓in_ktp, ↓in_lst, ↓nin_tup, ↓nin_ftp, ↓nin_ktp, ↓nin_lst, ↓FD.in_str, ↓nin_str, ↓isC_one, ↓asL_lst, ↓asL_scr, ↓if_tt, ↓if_ff, ↓isi_ss, ↓isi_tt, ↓isi_st, ↓isi_ts, ↓ty_str, ↓ty_tup, ↓ty_ftp, ↓ty_tp, ↓all_lst, ↓any_lst, ↓flat_s, ↓flat_set, ↓tuple_lst, ↓FD.int_int, ↓eq_ftp_nil, ↓ne_ftp_nil, ↓isNon_non, ↓isNon_int, ↓isNon_str, ↓isNon_ptr, ↓isNon_tup, ↓isNon_ftp, ↓inL_strs, ↓flatSs, ↓inL_sets, ↓flatSets, ↓FM.tw, ↓FM.tw3, ↓FM.sl_str, ↓sl_set, ↓cell_upd, ↓lk_sw, ↓lk_ru, ↓lk_st, ↓lk_place, ↓lk_has, ↓lk_keeps, ↓lk_wrongs, ↓lk_goods, ↓lk_ways_from, ↓lk_text, ↓ins_pan, ↓FD.fit_le, ↓cx_K, ↓nox_K, ↓blk_K, ↓bx_K, ↓c1, ↓c2, ↓c3, ↓c4, ↓inL_cons, ↓inL_nil, ↓all_bools, ↓any_bools, ↓in_tp, ↓nin_tp, ↓FM.sl_ftp, ↓FM.sl_tup, ↓FM.sl_lst, ↓FM.sl_scr, ↓index_eq, ↓ex_ftp, ↓eqd_str, ↓wf_at, ↓isT_cl, ↓isT_st, ↓isT_lit, ↓ix_lit0, ↓ix_lit1, ↓len_lit, ↓ty_lit, ↓eq_lit, ↓ne_lit, ↓eq_set, ↓ne_set, ↓len_set, ↓ty_set, ↓isS_set, ↓isC_sg, ↓sNever_e, ↓enumD_map, ↓dpAll_strs, ↓dpAll_mapI, ↓ne_lst_nil, ↓eq_lst_nil, ↓isT_grp, ↓len_grp, ↓isDc_wf, ↓wn_at, ↓isT_way, ↓len_way, ↓ty_way, ↓ty_st, ↓len_st, ↓ix_st0, ↓ix_st1, ↓inD_lits, ↓ninD_lits, ↓dpAll_sets, ↓three_three, ↓zip3_sets, ↓isT_z3, ↓inL_lock, ↓ninT_lits, ↓FM.tp_t, ↓FM.tp_f, Bool.not_true, Bool.not_false, Bool.false_eq_true, if_false, if_true, true_and, and_true, List.set_cons_zero, List.set_cons_succ, List.length_cons, List.length_nil, List.length_map, eq_self, decide_true, decide_false, Bool.true_eq_false, or_self, Bool.or_self, List.all_cons, List.all_nil, Bool.and_true, Bool.true_and, Bool.or_false, Bool.false_or, Bool.or_true, Bool.true_or, Bool.and_false, Bool.false_and, Int.reduceLT, Int.reduceLE, Int.reduceEq, Nat.reduceLeDiff, Nat.reduceAdd, Nat.reduceLT, wf_some, wn_some, fold_lit, fold_litp, fold_litm, sg_iff, sg_in_pm, isNon_opt, isEmpty_map, ↓reduceIte, nq_0_1, nq_0_2, nq_0_3, nq_0_4, nq_0_5, nq_0_6, nq_0_7, nq_1_0, nq_1_2, nq_1_3, nq_1_4, nq_1_5, nq_1_6, nq_1_7, nq_2_0, nq_2_1, nq_2_3, nq_2_4, nq_2_5, nq_2_6, nq_2_7, nq_3_0, nq_3_1, nq_3_2, nq_3_4, nq_3_5, nq_3_6, nq_3_7, nq_4_0, nq_4_1, nq_4_2, nq_4_3, nq_4_5, nq_4_6, nq_4_7, nq_5_0, nq_5_1, nq_5_2, nq_5_3, nq_5_4, nq_5_6, nq_5_7, nq_6_0, nq_6_1, nq_6_2, nq_6_3, nq_6_4, nq_6_5, nq_6_7, nq_7_0, nq_7_1, nq_7_2, nq_7_3, nq_7_4, nq_7_5, nq_7_6])
section
variable {P : Program} {w : World} {K : PySem.W.Frag} {mg : Str → Option Value} {base : Heap}
theorem sc_Panel_wrongs : FnScope ["self", "setting", "index", "rule"] ["self", "setting"] (defScope (inClass (top 41) 6)) := ⟨rfl, rfl, rfl, by decide +kernel, rfl, by decide +kernel, by decide +kernel⟩
def sp_Panel_wrongs (K : PySem.W.Frag) : DSp := fun ds M post => ∃ (fg : Bool) (p : Pan) (t : List Bool), ds = [panF K fg p, setD t] ∧ (t.length = p.ss.length ∧ post (.ftp ((wrongIx p.ss p.rs t).map fun (i : Nat) => D.int (i : Int))) M)
theorem cl_Panel_wrongs {fg : Bool} {p : Pan} {t : List Bool} {M : Mem} {post : WK} : sp_Panel_wrongs K [panF K fg p, setD t] M post = (t.length = p.ss.length ∧ post (.ftp ((wrongIx p.ss p.rs t).map fun (i : Nat) => D.int (i : Int))) M) := by
  simp [-Bool.exists_bool, sp_Panel_wrongs, tp_inj, litD_inj, strs_inj, ruleD_inj, clD_inj, setD_inj, rules_inj, lits_inj, sets_inj, ints_inj, panF_inj, rngs_inj, rngE_inj, sg_inj, and_assoc, Int.natCast_inj]
local macro_rules | `(tactic| walk_at "Panel_wrongs") => `(tactic| simp only [↓cl_Panel_keeps, cl_Panel_keeps, ↓FD.sSeq_e, ↓FD.sRet_e, ↓FD.sIf_e, ↓FD.sAsg_e, ↓FD.gSet_e, ↓FD.sDrop_e, ↓FD.sNext_e, ↓FD.sPar_e, ↓FD.sPar3_e, ↓FD.wIf_e, ↓FD.wOp_e, ↓FD.wUn_e, ↓FD.wVar_e, ↓FD.wC_e, ↓FD.wTst_e, ↓FD.wAnd_e, ↓FD.wOr_e, ↓FD.wNot_e, ↓FD.wAndV_e, ↓FD.wOrV_e, ↓FD.wNotV_e, ↓FD.wChain_e, ↓FD.aNil_e, ↓FD.aCons_e, ↓FD.wTup_e, ↓FD.wLst_e, ↓FD.wFtp_e, ↓FD.wNew_e, ↓FD.wCall_e, ↓FD.wB_e, ↓FD.wSl_e, ↓FD.oSome_e, ↓FD.oNone_e, ↓FD.wIsi_e, ↓FD.wIsiC_e, ↓FD.p1_e, ↓FD.p2_e, ↓FD.gLen_e, ↓FD.iLst_e, ↓FD.iTup_e, ↓FD.iStrD_e, ↓FD.iEnT_e, ↓FD.iEnL_e, ↓FD.iRng_e, ↓FD.iRng2_e, ↓FD.gTup_e, ↓FD.gsNil_e, ↓FD.gsCons_e, ↓FD.wM_e, ↓FD.wIxT_e, ↓FD.wFld_e, ↓FD.wMeth_e, ↓FD.wMake_e, ↓FD.sFldD_e, ↓FD.wDGet_e, ↓FD.sDput_e, ↓FD.wDNewK_e, ↓FD.wDNewT_e, ↓FD.wDisp1_e, ↓FD.wIce_e, ↓FD.gSub_e, ↓FD.wCallK_e, ↓FD.t1_e, ↓FD.t2_e, ↓FD.t1w_e, ↓FD.tYesD_e, ↓FD.gDIn_e, ↓FD.gDNin_e, ↓FD.gIndexT_e, ↓FD.gIndex_e, ↓FD.gInt_e, ↓FD.gAbs_e, ↓FD.gMax_e, ↓FD.gMin_e, ↓FD.gDivmod_e, ↓FD.wFz_e, ↓FD.wDGetD_e, ↓FD.t3_e, ↓FD.iZip3D_e, ↓sFor_eq, ↓wLc_eq, ↓wLc2_eq, ↓wDc_eq, ↓look_zero, ↓look_succ, ↓got_so, ↓isB_bl, ↓isI_int, ↓isS_str, ↓isT_tup, ↓isT_ftp, ↓isT_ktp, ↓isT_tp, ↓one_one, ↓two_two, ↓startD_cc, ↓startD_cn, ↓startD_nn, ↓FD.ix_str, ↓FD.ix_tup, ↓ix_ftp, ↓ix_ktp, ↓ix_lst, ↓ix_scr, ↓ix_tp, ↓atI0, ↓atI1, ↓atI2, ↓atI3, ↓FD.eq_str, ↓FD.ne_str, ↓FD.eq_int, ↓FD.ne_int, ↓FD.add_int, ↓FD.sub_int, ↓FD.lt_int, ↓FD.le_int, ↓FD.gt_int, ↓FD.ge_int, ↓FD.add_str, ↓FD.add_lst, ↓FD.add_tup, ↓FD.mul_int, ↓FD.mod_int, ↓FD.fdiv_int, ↓FD.pow_int, ↓isN_non, ↓notN_non, ↓FD.len_str, ↓len_tup, ↓len_ftp, ↓len_ktp, ↓len_lst, ↓len_scr, ↓len_tp, ↓seq_tup, ↓seq_ftp, ↓seq_ktp, ↓seq_lst, ↓seq_scr, ↓seq_tp, ↓in_tup, ↓in_ftp, ↓in_ktp, ↓in_lst, ↓nin_tup, ↓nin_ftp, ↓nin_ktp, ↓nin_lst, ↓FD.in_str, ↓nin_str, ↓isC_one, ↓asL_lst, ↓asL_scr, ↓if_tt, ↓if_ff, ↓isi_ss, ↓isi_tt, ↓isi_st, ↓isi_ts, ↓ty_str, ↓ty_tup, ↓ty_ftp, ↓ty_tp, ↓all_lst, ↓any_lst, ↓flat_s, ↓flat_set, ↓tuple_lst, ↓FD.int_int, ↓eq_ftp_nil, ↓ne_ftp_nil, ↓isNon_non, ↓isNon_int, ↓isNon_str, ↓isNon_ptr, ↓isNon_tup, ↓isNon_ftp, ↓inL_strs, ↓flatSs, ↓inL_sets, ↓flatSets, ↓FM.tw, ↓FM.tw3, ↓FM.sl_str, ↓sl_set, ↓cell_upd, ↓lk_sw, ↓lk_ru, ↓lk_st, ↓lk_place, ↓lk_has, ↓lk_keeps, ↓lk_wrongs, ↓lk_goods, ↓lk_ways_from, ↓lk_text, ↓ins_pan, ↓FD.fit_le, ↓cx_K, ↓nox_K, ↓blk_K, ↓bx_K, ↓c1, ↓c2, ↓c3, ↓c4, ↓inL_cons, ↓inL_nil, ↓all_bools, ↓any_bools, ↓in_tp, ↓nin_tp, ↓FM.sl_ftp, ↓FM.sl_tup, ↓FM.sl_lst, ↓FM.sl_scr, ↓index_eq, ↓ex_ftp, ↓eqd_str, ↓wf_at, ↓isT_cl, ↓isT_st, ↓isT_lit, ↓ix_lit0, ↓ix_lit1, ↓len_lit, ↓ty_lit, ↓eq_lit, ↓ne_lit, ↓eq_set, ↓ne_set, ↓len_set, ↓ty_set, ↓isS_set, ↓isC_sg, ↓sNever_e, ↓enumD_map, ↓dpAll_strs, ↓dpAll_mapI, ↓ne_lst_nil, ↓eq_lst_nil, ↓isT_grp, ↓len_grp, ↓isDc_wf, ↓wn_at, ↓isT_way, ↓len_way, ↓ty_way, ↓ty_st, ↓len_st, ↓ix_st0, ↓ix_st1, ↓inD_lits, ↓ninD_lits, ↓dpAll_sets, ↓three_three, ↓zip3_sets, ↓isT_z3, ↓inL_lock, ↓ninT_lits, ↓FM.tp_t, ↓FM.tp_f, Bool.not_true, Bool.not_false, Bool.false_eq_true, if_false, if_true, true_and, and_true, List.set_cons_zero, List.set_cons_succ, List.length_cons, List.length_nil, List.length_map, eq_self, decide_true, decide_false, Bool.true_eq_false, or_self, Bool.or_self, List.all_cons, List.all_nil, Bool.and_true, Bool.true_and, Bool.or_false, Bool.false_or, Bool.or_true, Bool.true_or, Bool.and_false, Bool.false_and, Int.reduceLT, Int.reduceLE, Int.reduceEq, Nat.reduceLeDiff, Nat.reduceAdd, Nat.reduceLT, wf_some, wn_some, fold_lit, fold_litp, fold_litm, sg_iff, sg_in_pm, isNon_opt, isEmpty_map, ↓reduceIte, nq_0_1, nq_0_2, nq_0_3, nq_0_4, nq_0_5, nq_0_6, nq_0_7, nq_1_0, nq_1_2, nq_1_3, nq_1_4, nq_1_5, nq_1_6, nq_1_7, nq_2_0, nq_2_1, nq_2_3, nq_2_4, nq_2_5, nq_2_6, nq_2_7, nq_3_0, nq_3_1, nq_3_2, nq_3_4, nq_3_5, nq_3_6, nq_3_7, nq_4_0, nq_4_1, nq_4_2, nq_4_3, nq_4_5, nq_4_6, nq_4_7, nq_5_0, nq_5_1, nq_5_2, nq_5_3, nq_5_4, nq_5_6, nq_5_7, nq_6_0, nq_6_1, nq_6_2, nq_6_3, nq_6_4, nq_6_5, nq_6_7, nq_7_0, nq_7_1, nq_7_2, nq_7_3, nq_7_4, nq_7_5, nq_7_6])
theorem ok_Panel_wrongs (T : Tx P w K mg base) : PubM P w K mg base 5 (He.ga K "Panel") "wrongs" ["self", "setting"] (sp_Panel_wrongs K) := by
  have S := sc_Panel_wrongs
  refine pubM_of T.d_Panel_wrongs T.h_Panel_wrongs S (fun _ _ _ _ _ _ us hl => match us, hl with | [_, _], _ => rfl) (fun ds M post h => by unfold sp_Panel_wrongs at h; grind) fun f cdv A outer s H gd hr => ⟨_, (ds_one (ds_ret (de_ty c_tuple T.m_tuple (by decide +kernel) (da_cons (de_lc (own := [("index", 2), ("rule", 3)]) rfl S.nd (di_enumT T.m_enumerate (da_cons (de_fld T.c_Panel T.n_Panel_rules (dv 0)) da_nil)) (blkOk_by (N := ["self", "setting", "index", "rule"]) (sc := defScope (inClass (top 41) 6)) (by decide +kernel)) (tgt2 (by decide)) (fun _ _ _ _ _ => pg_tup rfl (pgs_cons (pg_name (i := 2) S.nd rfl (Or.inl rfl)) (pgs_cons (pg_name (i := 3) S.nd rfl (Or.inl rfl)) pgs_nil))) (fun _ _ _ _ _ => (dts_one (dt_not (dt_val (de_meth T.c_Panel (ok_Panel_keeps T) (hr.mono (by decide)) gd (dv 0) (da_cons (dv 3) (da_cons (dv 1) da_nil))))))) (fun _ _ _ _ _ => (dv 2))) da_nil)))), ?_⟩
  rintro ds M post ⟨fg, p, t, rfl, hl, h⟩
  (try walk_at "Panel_wrongs")
  refine lc_pure p.rs.zipIdx (fun q => D.tup [.int (q.2 : Int), ruleD q.1]) (fun q => !keepsR p.ss t q.1) (fun q => D.int (q.2 : Int)) trivial ?_ ?_
  · rintro ⟨r, i⟩ hx yes no hy hn
    have hr2 : ruleOk p.ss r = true := p.ru r (by obtain ⟨_, _, e⟩ := List.mem_zipIdx hx; rw [e]; exact List.getElem_mem _)
    (try walk_at "Panel_wrongs")
    refine ⟨hr2, hl, ?_⟩
    cases h1 : keepsR p.ss t r with
    | true => (try walk_at "Panel_wrongs"); exact hn (by rw [h1]; rfl)
    | false => (try walk_at "Panel_wrongs"); exact hy (by rw [h1]; rfl)
  · rw [tuple_lst]
    unfold wrongIx at h
    rw [List.map_map] at h
    exact h
theorem sc_Panel_goods : FnScope ["self", "setting"] ["self"] (defScope (inClass (top 41) 7)) := ⟨rfl, rfl, rfl, by decide +kernel, rfl, by decide +kernel, by decide +kernel⟩
def sp_Panel_goods (K : PySem.W.Frag) : DSp := fun ds M post => ∃ (fg : Bool) (p : Pan), ds = [panF K fg p] ∧ post (.lst ((goodsL p.ss p.rs).map setD)) M
theorem cl_Panel_goods {fg : Bool} {p : Pan} {M : Mem} {post : WK} : sp_Panel_goods K [panF K fg p] M post = post (.lst ((goodsL p.ss p.rs).map setD)) M := by
  simp [-Bool.exists_bool, sp_Panel_goods, tp_inj, litD_inj, strs_inj, ruleD_inj, clD_inj, setD_inj, rules_inj, lits_inj, sets_inj, ints_inj, panF_inj, rngs_inj, rngE_inj, sg_inj, and_assoc, Int.natCast_inj]
local macro_rules | `(tactic| walk_at "Panel_goods") => `(tactic| simp only [↓cl_all_settings, cl_all_settings, ↓cl_Panel_wrongs, cl_Panel_wrongs, ↓FD.sSeq_e, ↓FD.sRet_e, ↓FD.sIf_e, ↓FD.sAsg_e, ↓FD.gSet_e, ↓FD.sDrop_e, ↓FD.sNext_e, ↓FD.sPar_e, ↓FD.sPar3_e, ↓FD.wIf_e, ↓FD.wOp_e, ↓FD.wUn_e, ↓FD.wVar_e, ↓FD.wC_e, ↓FD.wTst_e, ↓FD.wAnd_e, ↓FD.wOr_e, ↓FD.wNot_e, ↓FD.wAndV_e, ↓FD.wOrV_e, ↓FD.wNotV_e, ↓FD.wChain_e, ↓FD.aNil_e, ↓FD.aCons_e, ↓FD.wTup_e, ↓FD.wLst_e, ↓FD.wFtp_e, ↓FD.wNew_e, ↓FD.wCall_e, ↓FD.wB_e, ↓FD.wSl_e, ↓FD.oSome_e, ↓FD.oNone_e, ↓FD.wIsi_e, ↓FD.wIsiC_e, ↓FD.p1_e, ↓FD.p2_e, ↓FD.gLen_e, ↓FD.iLst_e, ↓FD.iTup_e, ↓FD.iStrD_e, ↓FD.iEnT_e, ↓FD.iEnL_e, ↓FD.iRng_e, ↓FD.iRng2_e, ↓FD.gTup_e, ↓FD.gsNil_e, ↓FD.gsCons_e, ↓FD.wM_e, ↓FD.wIxT_e, ↓FD.wFld_e, ↓FD.wMeth_e, ↓FD.wMake_e, ↓FD.sFldD_e, ↓FD.wDGet_e, ↓FD.sDput_e, ↓FD.wDNewK_e, ↓FD.wDNewT_e, ↓FD.wDisp1_e, ↓FD.wIce_e, ↓FD.gSub_e, ↓FD.wCallK_e, ↓FD.t1_e, ↓FD.t2_e, ↓FD.t1w_e, ↓FD.tYesD_e, ↓FD.gDIn_e, ↓FD.gDNin_e, ↓FD.gIndexT_e, ↓FD.gIndex_e, ↓FD.gInt_e, ↓FD.gAbs_e, ↓FD.gMax_e, ↓FD.gMin_e, ↓FD.gDivmod_e, ↓FD.wFz_e, ↓FD.wDGetD_e, ↓FD.t3_e, ↓FD.iZip3D_e, ↓sFor_eq, ↓wLc_eq, ↓wLc2_eq, ↓wDc_eq, ↓look_zero, ↓look_succ, ↓got_so, ↓isB_bl, ↓isI_int, ↓isS_str, ↓isT_tup, ↓isT_ftp, ↓isT_ktp, ↓isT_tp, ↓one_one, ↓two_two, ↓startD_cc, ↓startD_cn, ↓startD_nn, ↓FD.ix_str, ↓FD.ix_tup, ↓ix_ftp, ↓ix_ktp, ↓ix_lst, ↓ix_scr, ↓ix_tp, ↓atI0, ↓atI1, ↓atI2, ↓atI3, ↓FD.eq_str, ↓FD.ne_str, ↓FD.eq_int, ↓FD.ne_int, ↓FD.add_int, ↓FD.sub_int, ↓FD.lt_int, ↓FD.le_int, ↓FD.gt_int, ↓FD.ge_int, ↓FD.add_str, ↓FD.add_lst, ↓FD.add_tup, ↓FD.mul_int, ↓FD.mod_int, ↓FD.fdiv_int, ↓FD.pow_int, ↓isN_non, ↓notN_non, ↓FD.len_str, ↓len_tup, ↓len_ftp, ↓len_ktp, ↓len_lst, ↓len_scr, ↓len_tp, ↓seq_tup, ↓seq_ftp, ↓seq_ktp, ↓seq_lst, ↓seq_scr, ↓seq_tp, ↓in_tup, ↓in_ftp, ↓in_ktp, ↓in_lst, ↓nin_tup, ↓nin_ftp, ↓nin_ktp, ↓nin_lst, ↓FD.in_str, ↓nin_str, ↓isC_one, ↓asL_lst, ↓asL_scr, ↓if_tt, ↓if_ff, ↓isi_ss, ↓isi_tt, ↓isi_st, ↓isi_ts, ↓ty_str, ↓ty_tup, ↓ty_ftp, ↓ty_tp, ↓all_lst, ↓any_lst, ↓flat_s, ↓flat_set, ↓tuple_lst, ↓FD.int_int, ↓eq_ftp_nil, ↓ne_ftp_nil, ↓isNon_non, ↓isNon_int, ↓isNon_str, ↓isNon_ptr, ↓isNon_tup, ↓isNon_ftp, ↓inL_strs, ↓flatSs, ↓inL_sets, ↓flatSets, ↓FM.tw, ↓FM.tw3, ↓FM.sl_str, ↓sl_set, ↓cell_upd, ↓lk_sw, ↓lk_ru, ↓lk_st, ↓lk_place, ↓lk_has, ↓lk_keeps, ↓lk_wrongs, ↓lk_goods, ↓lk_ways_from, ↓lk_text, ↓ins_pan, ↓FD.fit_le, ↓cx_K, ↓nox_K, ↓blk_K, ↓bx_K, ↓c1, ↓c2, ↓c3, ↓c4, ↓inL_cons, ↓inL_nil, ↓all_bools, ↓any_bools, ↓in_tp, ↓nin_tp, ↓FM.sl_ftp, ↓FM.sl_tup, ↓FM.sl_lst, ↓FM.sl_scr, ↓index_eq, ↓ex_ftp, ↓eqd_str, ↓wf_at, ↓isT_cl, ↓isT_st, ↓isT_lit, ↓ix_lit0, ↓ix_lit1, ↓len_lit, ↓ty_lit, ↓eq_lit, ↓ne_lit, ↓eq_set, ↓ne_set, ↓len_set, ↓ty_set, ↓isS_set, ↓isC_sg, ↓sNever_e, ↓enumD_map, ↓dpAll_strs, ↓dpAll_mapI, ↓ne_lst_nil, ↓eq_lst_nil, ↓isT_grp, ↓len_grp, ↓isDc_wf, ↓wn_at, ↓isT_way, ↓len_way, ↓ty_way, ↓ty_st, ↓len_st, ↓ix_st0, ↓ix_st1, ↓inD_lits, ↓ninD_lits, ↓dpAll_sets, ↓three_three, ↓zip3_sets, ↓isT_z3, ↓inL_lock, ↓ninT_lits, ↓FM.tp_t, ↓FM.tp_f, Bool.not_true, Bool.not_false, Bool.false_eq_true, if_false, if_true, true_and, and_true, List.set_cons_zero, List.set_cons_succ, List.length_cons, List.length_nil, List.length_map, eq_self, decide_true, decide_false, Bool.true_eq_false, or_self, Bool.or_self, List.all_cons, List.all_nil, Bool.and_true, Bool.true_and, Bool.or_false, Bool.false_or, Bool.or_true, Bool.true_or, Bool.and_false, Bool.false_and, Int.reduceLT, Int.reduceLE, Int.reduceEq, Nat.reduceLeDiff, Nat.reduceAdd, Nat.reduceLT, wf_some, wn_some, fold_lit, fold_litp, fold_litm, sg_iff, sg_in_pm, isNon_opt, isEmpty_map, ↓reduceIte, nq_0_1, nq_0_2, nq_0_3, nq_0_4, nq_0_5, nq_0_6, nq_0_7, nq_1_0, nq_1_2, nq_1_3, nq_1_4, nq_1_5, nq_1_6, nq_1_7, nq_2_0, nq_2_1, nq_2_3, nq_2_4, nq_2_5, nq_2_6, nq_2_7, nq_3_0, nq_3_1, nq_3_2, nq_3_4, nq_3_5, nq_3_6, nq_3_7, nq_4_0, nq_4_1, nq_4_2, nq_4_3, nq_4_5, nq_4_6, nq_4_7, nq_5_0, nq_5_1, nq_5_2, nq_5_3, nq_5_4, nq_5_6, nq_5_7, nq_6_0, nq_6_1, nq_6_2, nq_6_3, nq_6_4, nq_6_5, nq_6_7, nq_7_0, nq_7_1, nq_7_2, nq_7_3, nq_7_4, nq_7_5, nq_7_6])
theorem ok_Panel_goods (T : Tx P w K mg base) : PubM P w K mg base 6 (He.ga K "Panel") "goods" ["self"] (sp_Panel_goods K) := by
  have S := sc_Panel_goods
  refine pubM_of T.d_Panel_goods T.h_Panel_goods S (fun _ _ _ _ _ _ us hl => match us, hl with | [_], _ => rfl) (fun ds M post h => by unfold sp_Panel_goods at h; grind) fun f cdv A outer s H gd hr => ⟨_, (ds_one (ds_ret (de_lc (own := [("setting", 1)]) rfl S.nd (di_list (de_call (ok_all_settings T) (hr.mono (by decide)) gd (da_cons (de_b c_len T.m_len (by decide +kernel) (da_cons (de_fld T.c_Panel T.n_Panel_switches (dv 0)) da_nil)) da_nil))) (blkOk_by (N := ["self", "setting"]) (sc := defScope (inClass (top 41) 7)) (by decide +kernel)) tgt1 (fun _ _ _ _ _ => pg_name (i := 1) S.nd rfl (Or.inl rfl)) (fun _ _ _ _ _ => (dts_one (dt_cmp (o_eq hr) (de_meth T.c_Panel (ok_Panel_wrongs T) (hr.mono (by decide)) gd (dv 0) (da_cons (dv 1) da_nil)) (de_tup da_nil)))) (fun _ _ _ _ _ => (dv 1))))), ?_⟩
  rintro ds M post ⟨fg, p, rfl, h⟩
  have l10 := p.sw.2.1
  (try walk_at "Panel_goods")
  refine ⟨by omega, ?_⟩
  refine lc_pure (every p.ss.length) setD (good p.ss p.rs) setD trivial ?_ h
  intro t ht yes no hy hn
  (try walk_at "Panel_goods")
  refine ⟨every_mem_len ht, ?_⟩
  rw [wrongIx_em]
  cases h1 : good p.ss p.rs t with
  | true => (try walk_at "Panel_goods"); exact hy h1
  | false => (try walk_at "Panel_goods"); exact hn h1
theorem sc_settings : FnScope ["panel"] ["panel"] (defScope (top 49)) := ⟨rfl, rfl, rfl, by decide +kernel, rfl, by decide +kernel, by decide +kernel⟩
def sp_settings (K : PySem.W.Frag) : DSp := fun ds M post => ∃ (fg : Bool) (p : Pan), ds = [panF K fg p] ∧ post (.ftp ((goodsL p.ss p.rs).map setD)) M
theorem cl_settings {fg : Bool} {p : Pan} {M : Mem} {post : WK} : sp_settings K [panF K fg p] M post = post (.ftp ((goodsL p.ss p.rs).map setD)) M := by
  simp [-Bool.exists_bool, sp_settings, tp_inj, litD_inj, strs_inj, ruleD_inj, clD_inj, setD_inj, rules_inj, lits_inj, sets_inj, ints_inj, panF_inj, rngs_inj, rngE_inj, sg_inj, and_assoc, Int.natCast_inj]
local macro_rules | `(tactic| walk_at "settings") => `(tactic| simp only [↓cl_check_panel, cl_check_panel, ↓cl_Panel_goods, cl_Panel_goods, ↓FD.sSeq_e, ↓FD.sRet_e, ↓FD.sIf_e, ↓FD.sAsg_e, ↓FD.gSet_e, ↓FD.sDrop_e, ↓FD.sNext_e, ↓FD.sPar_e, ↓FD.sPar3_e, ↓FD.wIf_e, ↓FD.wOp_e, ↓FD.wUn_e, ↓FD.wVar_e, ↓FD.wC_e, ↓FD.wTst_e, ↓FD.wAnd_e, ↓FD.wOr_e, ↓FD.wNot_e, ↓FD.wAndV_e, ↓FD.wOrV_e, ↓FD.wNotV_e, ↓FD.wChain_e, ↓FD.aNil_e, ↓FD.aCons_e, ↓FD.wTup_e, ↓FD.wLst_e, ↓FD.wFtp_e, ↓FD.wNew_e, ↓FD.wCall_e, ↓FD.wB_e, ↓FD.wSl_e, ↓FD.oSome_e, ↓FD.oNone_e, ↓FD.wIsi_e, ↓FD.wIsiC_e, ↓FD.p1_e, ↓FD.p2_e, ↓FD.gLen_e, ↓FD.iLst_e, ↓FD.iTup_e, ↓FD.iStrD_e, ↓FD.iEnT_e, ↓FD.iEnL_e, ↓FD.iRng_e, ↓FD.iRng2_e, ↓FD.gTup_e, ↓FD.gsNil_e, ↓FD.gsCons_e, ↓FD.wM_e, ↓FD.wIxT_e, ↓FD.wFld_e, ↓FD.wMeth_e, ↓FD.wMake_e, ↓FD.sFldD_e, ↓FD.wDGet_e, ↓FD.sDput_e, ↓FD.wDNewK_e, ↓FD.wDNewT_e, ↓FD.wDisp1_e, ↓FD.wIce_e, ↓FD.gSub_e, ↓FD.wCallK_e, ↓FD.t1_e, ↓FD.t2_e, ↓FD.t1w_e, ↓FD.tYesD_e, ↓FD.gDIn_e, ↓FD.gDNin_e, ↓FD.gIndexT_e, ↓FD.gIndex_e, ↓FD.gInt_e, ↓FD.gAbs_e, ↓FD.gMax_e, ↓FD.gMin_e, ↓FD.gDivmod_e, ↓FD.wFz_e, ↓FD.wDGetD_e, ↓FD.t3_e, ↓FD.iZip3D_e, ↓sFor_eq, ↓wLc_eq, ↓wLc2_eq, ↓wDc_eq, ↓look_zero, ↓look_succ, ↓got_so, ↓isB_bl, ↓isI_int, ↓isS_str, ↓isT_tup, ↓isT_ftp, ↓isT_ktp, ↓isT_tp, ↓one_one, ↓two_two, ↓startD_cc, ↓startD_cn, ↓startD_nn, ↓FD.ix_str, ↓FD.ix_tup, ↓ix_ftp, ↓ix_ktp, ↓ix_lst, ↓ix_scr, ↓ix_tp, ↓atI0, ↓atI1, ↓atI2, ↓atI3, ↓FD.eq_str, ↓FD.ne_str, ↓FD.eq_int, ↓FD.ne_int, ↓FD.add_int, ↓FD.sub_int, ↓FD.lt_int, ↓FD.le_int, ↓FD.gt_int, ↓FD.ge_int, ↓FD.add_str, ↓FD.add_lst, ↓FD.add_tup, ↓FD.mul_int, ↓FD.mod_int, ↓FD.fdiv_int, ↓FD.pow_int, ↓isN_non, ↓notN_non, ↓FD.len_str, ↓len_tup, ↓len_ftp, ↓len_ktp, ↓len_lst, ↓len_scr, ↓len_tp, ↓seq_tup, ↓seq_ftp, ↓seq_ktp, ↓seq_lst, ↓seq_scr, ↓seq_tp, ↓in_tup, ↓in_ftp, ↓in_ktp, ↓in_lst, ↓nin_tup, ↓nin_ftp, ↓nin_ktp, ↓nin_lst, ↓FD.in_str, ↓nin_str, ↓isC_one, ↓asL_lst, ↓asL_scr, ↓if_tt, ↓if_ff, ↓isi_ss, ↓isi_tt, ↓isi_st, ↓isi_ts, ↓ty_str, ↓ty_tup, ↓ty_ftp, ↓ty_tp, ↓all_lst, ↓any_lst, ↓flat_s, ↓flat_set, ↓tuple_lst, ↓FD.int_int, ↓eq_ftp_nil, ↓ne_ftp_nil, ↓isNon_non, ↓isNon_int, ↓isNon_str, ↓isNon_ptr, ↓isNon_tup, ↓isNon_ftp, ↓inL_strs, ↓flatSs, ↓inL_sets, ↓flatSets, ↓FM.tw, ↓FM.tw3, ↓FM.sl_str, ↓sl_set, ↓cell_upd, ↓lk_sw, ↓lk_ru, ↓lk_st, ↓lk_place, ↓lk_has, ↓lk_keeps, ↓lk_wrongs, ↓lk_goods, ↓lk_ways_from, ↓lk_text, ↓ins_pan, ↓FD.fit_le, ↓cx_K, ↓nox_K, ↓blk_K, ↓bx_K, ↓c1, ↓c2, ↓c3, ↓c4, ↓inL_cons, ↓inL_nil, ↓all_bools, ↓any_bools, ↓in_tp, ↓nin_tp, ↓FM.sl_ftp, ↓FM.sl_tup, ↓FM.sl_lst, ↓FM.sl_scr, ↓index_eq, ↓ex_ftp, ↓eqd_str, ↓wf_at, ↓isT_cl, ↓isT_st, ↓isT_lit, ↓ix_lit0, ↓ix_lit1, ↓len_lit, ↓ty_lit, ↓eq_lit, ↓ne_lit, ↓eq_set, ↓ne_set, ↓len_set, ↓ty_set, ↓isS_set, ↓isC_sg, ↓sNever_e, ↓enumD_map, ↓dpAll_strs, ↓dpAll_mapI, ↓ne_lst_nil, ↓eq_lst_nil, ↓isT_grp, ↓len_grp, ↓isDc_wf, ↓wn_at, ↓isT_way, ↓len_way, ↓ty_way, ↓ty_st, ↓len_st, ↓ix_st0, ↓ix_st1, ↓inD_lits, ↓ninD_lits, ↓dpAll_sets, ↓three_three, ↓zip3_sets, ↓isT_z3, ↓inL_lock, ↓ninT_lits, ↓FM.tp_t, ↓FM.tp_f, Bool.not_true, Bool.not_false, Bool.false_eq_true, if_false, if_true, true_and, and_true, List.set_cons_zero, List.set_cons_succ, List.length_cons, List.length_nil, List.length_map, eq_self, decide_true, decide_false, Bool.true_eq_false, or_self, Bool.or_self, List.all_cons, List.all_nil, Bool.and_true, Bool.true_and, Bool.or_false, Bool.false_or, Bool.or_true, Bool.true_or, Bool.and_false, Bool.false_and, Int.reduceLT, Int.reduceLE, Int.reduceEq, Nat.reduceLeDiff, Nat.reduceAdd, Nat.reduceLT, wf_some, wn_some, fold_lit, fold_litp, fold_litm, sg_iff, sg_in_pm, isNon_opt, isEmpty_map, ↓reduceIte, nq_0_1, nq_0_2, nq_0_3, nq_0_4, nq_0_5, nq_0_6, nq_0_7, nq_1_0, nq_1_2, nq_1_3, nq_1_4, nq_1_5, nq_1_6, nq_1_7, nq_2_0, nq_2_1, nq_2_3, nq_2_4, nq_2_5, nq_2_6, nq_2_7, nq_3_0, nq_3_1, nq_3_2, nq_3_4, nq_3_5, nq_3_6, nq_3_7, nq_4_0, nq_4_1, nq_4_2, nq_4_3, nq_4_5, nq_4_6, nq_4_7, nq_5_0, nq_5_1, nq_5_2, nq_5_3, nq_5_4, nq_5_6, nq_5_7, nq_6_0, nq_6_1, nq_6_2, nq_6_3, nq_6_4, nq_6_5, nq_6_7, nq_7_0, nq_7_1, nq_7_2, nq_7_3, nq_7_4, nq_7_5, nq_7_6])
theorem fn_settings (T : Tx P w K mg base) : Fng P w K mg base 7 "settings" (top 49) ["panel"] (sp_settings K) := by
  have S := sc_settings
  refine fng_of T.d_settings T.g_settings S (fun ds M post h => by unfold sp_settings at h; grind) fun f cdv A outer s H gd hr => ⟨_, (ds_cons (ds_expr (de_call (ok_check_panel T) (hr.mono (by decide)) gd (da_cons (dv 0) da_nil)))
      (ds_one (ds_ret (de_ty c_tuple T.m_tuple (by decide +kernel) (da_cons (de_meth0 T.c_Panel (ok_Panel_goods T) (hr.mono (by decide)) gd (dv 0)) da_nil))))), ?_⟩
  rintro ds M post ⟨fg, p, rfl, h⟩
  (try walk_at "settings")
  exact h
theorem ok_settings (T : Tx P w K mg base) : Pub P w K mg base 7 "settings" ["panel"] (sp_settings K) := (fn_settings T).pub fun _ _ _ _ _ _ us hl => match us, hl with | [_], _ => rfl
theorem sc_check_literal : FnScope ["panel", "value"] ["panel", "value"] (defScope (top 46)) := ⟨rfl, rfl, rfl, by decide +kernel, rfl, by decide +kernel, by decide +kernel⟩
def sp_check_literal (K : PySem.W.Frag) : DSp := fun ds M post => ∃ (fg : Bool) (p : Pan) (a : Lit), ds = [panF K fg p, litD a] ∧ (a.n ∈ p.ss ∧ post .non M)
theorem cl_check_literal {fg : Bool} {p : Pan} {a : Lit} {M : Mem} {post : WK} : sp_check_literal K [panF K fg p, litD a] M post = (a.n ∈ p.ss ∧ post .non M) := by
  simp [-Bool.exists_bool, sp_check_literal, tp_inj, litD_inj, strs_inj, ruleD_inj, clD_inj, setD_inj, rules_inj, lits_inj, sets_inj, ints_inj, panF_inj, rngs_inj, rngE_inj, sg_inj, and_assoc, Int.natCast_inj]
local macro_rules | `(tactic| walk_at "check_literal") => `(tactic| simp only [↓cl_is_literal, cl_is_literal, ↓FD.sSeq_e, ↓FD.sRet_e, ↓FD.sIf_e, ↓FD.sAsg_e, ↓FD.gSet_e, ↓FD.sDrop_e, ↓FD.sNext_e, ↓FD.sPar_e, ↓FD.sPar3_e, ↓FD.wIf_e, ↓FD.wOp_e, ↓FD.wUn_e, ↓FD.wVar_e, ↓FD.wC_e, ↓FD.wTst_e, ↓FD.wAnd_e, ↓FD.wOr_e, ↓FD.wNot_e, ↓FD.wAndV_e, ↓FD.wOrV_e, ↓FD.wNotV_e, ↓FD.wChain_e, ↓FD.aNil_e, ↓FD.aCons_e, ↓FD.wTup_e, ↓FD.wLst_e, ↓FD.wFtp_e, ↓FD.wNew_e, ↓FD.wCall_e, ↓FD.wB_e, ↓FD.wSl_e, ↓FD.oSome_e, ↓FD.oNone_e, ↓FD.wIsi_e, ↓FD.wIsiC_e, ↓FD.p1_e, ↓FD.p2_e, ↓FD.gLen_e, ↓FD.iLst_e, ↓FD.iTup_e, ↓FD.iStrD_e, ↓FD.iEnT_e, ↓FD.iEnL_e, ↓FD.iRng_e, ↓FD.iRng2_e, ↓FD.gTup_e, ↓FD.gsNil_e, ↓FD.gsCons_e, ↓FD.wM_e, ↓FD.wIxT_e, ↓FD.wFld_e, ↓FD.wMeth_e, ↓FD.wMake_e, ↓FD.sFldD_e, ↓FD.wDGet_e, ↓FD.sDput_e, ↓FD.wDNewK_e, ↓FD.wDNewT_e, ↓FD.wDisp1_e, ↓FD.wIce_e, ↓FD.gSub_e, ↓FD.wCallK_e, ↓FD.t1_e, ↓FD.t2_e, ↓FD.t1w_e, ↓FD.tYesD_e, ↓FD.gDIn_e, ↓FD.gDNin_e, ↓FD.gIndexT_e, ↓FD.gIndex_e, ↓FD.gInt_e, ↓FD.gAbs_e, ↓FD.gMax_e, ↓FD.gMin_e, ↓FD.gDivmod_e, ↓FD.wFz_e, ↓FD.wDGetD_e, ↓FD.t3_e, ↓FD.iZip3D_e, ↓sFor_eq, ↓wLc_eq, ↓wLc2_eq, ↓wDc_eq, ↓look_zero, ↓look_succ, ↓got_so, ↓isB_bl, ↓isI_int, ↓isS_str, ↓isT_tup, ↓isT_ftp, ↓isT_ktp, ↓isT_tp, ↓one_one, ↓two_two, ↓startD_cc, ↓startD_cn, ↓startD_nn, ↓FD.ix_str, ↓FD.ix_tup, ↓ix_ftp, ↓ix_ktp, ↓ix_lst, ↓ix_scr, ↓ix_tp, ↓atI0, ↓atI1, ↓atI2, ↓atI3, ↓FD.eq_str, ↓FD.ne_str, ↓FD.eq_int, ↓FD.ne_int, ↓FD.add_int, ↓FD.sub_int, ↓FD.lt_int, ↓FD.le_int, ↓FD.gt_int, ↓FD.ge_int, ↓FD.add_str, ↓FD.add_lst, ↓FD.add_tup, ↓FD.mul_int, ↓FD.mod_int, ↓FD.fdiv_int, ↓FD.pow_int, ↓isN_non, ↓notN_non, ↓FD.len_str, ↓len_tup, ↓len_ftp, ↓len_ktp, ↓len_lst, ↓len_scr, ↓len_tp, ↓seq_tup, ↓seq_ftp, ↓seq_ktp, ↓seq_lst, ↓seq_scr, ↓seq_tp, ↓in_tup, ↓in_ftp, ↓in_ktp, ↓in_lst, ↓nin_tup, ↓nin_ftp, ↓nin_ktp, ↓nin_lst, ↓FD.in_str, ↓nin_str, ↓isC_one, ↓asL_lst, ↓asL_scr, ↓if_tt, ↓if_ff, ↓isi_ss, ↓isi_tt, ↓isi_st, ↓isi_ts, ↓ty_str, ↓ty_tup, ↓ty_ftp, ↓ty_tp, ↓all_lst, ↓any_lst, ↓flat_s, ↓flat_set, ↓tuple_lst, ↓FD.int_int, ↓eq_ftp_nil, ↓ne_ftp_nil, ↓isNon_non, ↓isNon_int, ↓isNon_str, ↓isNon_ptr, ↓isNon_tup, ↓isNon_ftp, ↓inL_strs, ↓flatSs, ↓inL_sets, ↓flatSets, ↓FM.tw, ↓FM.tw3, ↓FM.sl_str, ↓sl_set, ↓cell_upd, ↓lk_sw, ↓lk_ru, ↓lk_st, ↓lk_place, ↓lk_has, ↓lk_keeps, ↓lk_wrongs, ↓lk_goods, ↓lk_ways_from, ↓lk_text, ↓ins_pan, ↓FD.fit_le, ↓cx_K, ↓nox_K, ↓blk_K, ↓bx_K, ↓c1, ↓c2, ↓c3, ↓c4, ↓inL_cons, ↓inL_nil, ↓all_bools, ↓any_bools, ↓in_tp, ↓nin_tp, ↓FM.sl_ftp, ↓FM.sl_tup, ↓FM.sl_lst, ↓FM.sl_scr, ↓index_eq, ↓ex_ftp, ↓eqd_str, ↓wf_at, ↓isT_cl, ↓isT_st, ↓isT_lit, ↓ix_lit0, ↓ix_lit1, ↓len_lit, ↓ty_lit, ↓eq_lit, ↓ne_lit, ↓eq_set, ↓ne_set, ↓len_set, ↓ty_set, ↓isS_set, ↓isC_sg, ↓sNever_e, ↓enumD_map, ↓dpAll_strs, ↓dpAll_mapI, ↓ne_lst_nil, ↓eq_lst_nil, ↓isT_grp, ↓len_grp, ↓isDc_wf, ↓wn_at, ↓isT_way, ↓len_way, ↓ty_way, ↓ty_st, ↓len_st, ↓ix_st0, ↓ix_st1, ↓inD_lits, ↓ninD_lits, ↓dpAll_sets, ↓three_three, ↓zip3_sets, ↓isT_z3, ↓inL_lock, ↓ninT_lits, ↓FM.tp_t, ↓FM.tp_f, Bool.not_true, Bool.not_false, Bool.false_eq_true, if_false, if_true, true_and, and_true, List.set_cons_zero, List.set_cons_succ, List.length_cons, List.length_nil, List.length_map, eq_self, decide_true, decide_false, Bool.true_eq_false, or_self, Bool.or_self, List.all_cons, List.all_nil, Bool.and_true, Bool.true_and, Bool.or_false, Bool.false_or, Bool.or_true, Bool.true_or, Bool.and_false, Bool.false_and, Int.reduceLT, Int.reduceLE, Int.reduceEq, Nat.reduceLeDiff, Nat.reduceAdd, Nat.reduceLT, wf_some, wn_some, fold_lit, fold_litp, fold_litm, sg_iff, sg_in_pm, isNon_opt, isEmpty_map, ↓reduceIte, nq_0_1, nq_0_2, nq_0_3, nq_0_4, nq_0_5, nq_0_6, nq_0_7, nq_1_0, nq_1_2, nq_1_3, nq_1_4, nq_1_5, nq_1_6, nq_1_7, nq_2_0, nq_2_1, nq_2_3, nq_2_4, nq_2_5, nq_2_6, nq_2_7, nq_3_0, nq_3_1, nq_3_2, nq_3_4, nq_3_5, nq_3_6, nq_3_7, nq_4_0, nq_4_1, nq_4_2, nq_4_3, nq_4_5, nq_4_6, nq_4_7, nq_5_0, nq_5_1, nq_5_2, nq_5_3, nq_5_4, nq_5_6, nq_5_7, nq_6_0, nq_6_1, nq_6_2, nq_6_3, nq_6_4, nq_6_5, nq_6_7, nq_7_0, nq_7_1, nq_7_2, nq_7_3, nq_7_4, nq_7_5, nq_7_6])
theorem fn_check_literal (T : Tx P w K mg base) : Fng P w K mg base 2 "check_literal" (top 46) ["panel", "value"] (sp_check_literal K) := by
  have S := sc_check_literal
  refine fng_of T.d_check_literal T.g_check_literal S (fun ds M post h => by unfold sp_check_literal at h; grind) fun f cdv A outer s H gd hr => ⟨_, (ds_one (ds_if (dt_not (dt_val (de_call (ok_is_literal T) (hr.mono (by decide)) gd (da_cons (dv 1) (da_cons (de_fld T.c_Panel T.n_Panel_switches (dv 0)) da_nil)))))
      (ds_one ds_never)
      ds_nil)), ?_⟩
  rintro ds M post ⟨fg, p, a, rfl, h1, h⟩
  have e : litOk p.ss a = true := decide_eq_true h1
  (try walk_at "check_literal")
  simp only [e]
  (try walk_at "check_literal")
  exact h
theorem ok_check_literal (T : Tx P w K mg base) : Pub P w K mg base 2 "check_literal" ["panel", "value"] (sp_check_literal K) := (fn_check_literal T).pub fun _ _ _ _ _ _ us hl => match us, hl with | [_, _], _ => rfl
end
end LW

namespace LW
open PySem PySem.Spec PyProof.Rows L2 FD FM
local macro_rules | `(tactic| walk_at "w") => `(tactic| simp only [↓FD.sSeq_e, ↓FD.sRet_e, ↓FD.sIf_e, ↓FD.sAsg_e, ↓FD.gSet_e, ↓FD.sDrop_e, ↓FD.sNext_e, ↓FD.sPar_e, ↓FD.sPar3_e, ↓FD.wIf_e, ↓FD.wOp_e, ↓FD.wUn_e, ↓FD.wVar_e, ↓FD.wC_e, ↓FD.wTst_e, ↓FD.wAnd_e, ↓FD.wOr_e, ↓FD.wNot_e, ↓FD.wAndV_e, ↓FD.wOrV_e, ↓FD.wNotV_e, ↓FD.wChain_e, ↓FD.aNil_e, ↓FD.aCons_e, ↓FD.wTup_e, ↓FD.wLst_e, ↓FD.wFtp_e, ↓FD.wNew_e, ↓FD.wCall_e, ↓FD.wB_e, ↓FD.wSl_e, ↓FD.oSome_e, ↓FD.oNone_e, ↓FD.wIsi_e, ↓FD.wIsiC_e, ↓FD.p1_e, ↓FD.p2_e, ↓FD.gLen_e, ↓FD.iLst_e, ↓FD.iTup_e, ↓FD.iStrD_e, ↓FD.iEnT_e, ↓FD.iEnL_e, ↓FD.iRng_e, ↓FD.iRng2_e, ↓FD.gTup_e, ↓FD.gsNil_e, ↓FD.gsCons_e, ↓FD.wM_e, ↓FD.wIxT_e, ↓FD.wFld_e, ↓FD.wMeth_e, ↓FD.wMake_e, ↓FD.sFldD_e, ↓FD.wDGet_e, ↓FD.sDput_e, ↓FD.wDNewK_e, ↓FD.wDNewT_e, ↓FD.wDisp1_e, ↓FD.wIce_e, ↓FD.gSub_e, ↓FD.wCallK_e, ↓FD.t1_e, ↓FD.t2_e, ↓FD.t1w_e, ↓FD.tYesD_e, ↓FD.gDIn_e, ↓FD.gDNin_e, ↓FD.gIndexT_e, ↓FD.gIndex_e, ↓FD.gInt_e, ↓FD.gAbs_e, ↓FD.gMax_e, ↓FD.gMin_e, ↓FD.gDivmod_e, ↓FD.wFz_e, ↓FD.wDGetD_e, ↓FD.t3_e, ↓FD.iZip3D_e, ↓sFor_eq, ↓wLc_eq, ↓wLc2_eq, ↓wDc_eq, ↓look_zero, ↓look_succ, ↓got_so, ↓isB_bl, ↓isI_int, ↓isS_str, ↓isT_tup, ↓isT_ftp, ↓isT_ktp, ↓isT_tp, ↓one_one, ↓two_two, ↓startD_cc, ↓startD_cn, ↓startD_nn, ↓FD.ix_str, ↓FD.ix_tup, ↓ix_ftp, ↓ix_ktp, ↓ix_lst, ↓ix_scr, ↓ix_tp, ↓atI0, ↓atI1, ↓atI2, ↓atI3, ↓FD.eq_str, ↓FD.ne_str, ↓FD.eq_int, ↓FD.ne_int, ↓FD.add_int, ↓FD.sub_int, ↓FD.lt_int, ↓FD.le_int, ↓FD.gt_int, ↓FD.ge_int, ↓FD.add_str, ↓FD.add_lst, ↓FD.add_tup, ↓FD.mul_int, ↓FD.mod_int, ↓FD.fdiv_int, ↓FD.pow_int, ↓isN_non, ↓notN_non, ↓FD.len_str, ↓len_tup, ↓len_ftp, ↓len_ktp, ↓len_lst, ↓len_scr, ↓len_tp, ↓seq_tup, ↓seq_ftp, ↓seq_ktp, ↓seq_lst, ↓seq_scr, ↓seq_tp, ↓in_tup, ↓in_ftp, ↓in_ktp, ↓in_lst, ↓nin_tup, ↓nin_ftp, ↓nin_ktp, ↓nin_lst, ↓FD.in_str, ↓nin_str, ↓isC_one, ↓asL_lst, ↓asL_scr, ↓if_tt, ↓if_ff, ↓isi_ss, ↓isi_tt, ↓isi_st, ↓isi_ts, ↓ty_str, ↓ty_tup, ↓ty_ftp, ↓ty_tp, ↓all_lst, ↓any_lst, ↓flat_s, ↓flat_set, ↓tuple_lst, ↓FD.int_int, ↓eq_ftp_nil, ↓ne_ftp_nil, ↓isNon_non, ↓isNon_int, ↓isNon_str, ↓isNon_ptr, ↓isNon_tup, ↓isNon_ftp, ↓inL_strs, ↓flatSs, ↓inL_sets, ↓flatSets, ↓FM.tw, ↓FM.tw3, ↓FM.sl_str, ↓sl_set, ↓cell_upd, ↓lk_sw, ↓lk_ru, ↓lk_st, ↓lk_place, ↓lk_has, ↓lk_keeps, ↓lk_wrongs, ↓lk_goods, ↓lk_ways_from, ↓lk_text, ↓ins_pan, ↓FD.fit_le, ↓cx_K, ↓nox_K, ↓blk_K, ↓bx_K, ↓c1, ↓c2, ↓c3, ↓c4, ↓inL_cons, ↓inL_nil, ↓all_bools, ↓any_bools, ↓in_tp, ↓nin_tp, ↓FM.sl_ftp, ↓FM.sl_tup, ↓FM.sl_lst, ↓FM.sl_scr, ↓index_eq, ↓ex_ftp, ↓eqd_str, ↓wf_at, ↓isT_cl, ↓isT_st, ↓isT_lit, ↓ix_lit0, ↓ix_lit1, ↓len_lit, ↓ty_lit, ↓eq_lit, ↓ne_lit, ↓eq_set, ↓ne_set, ↓len_set, ↓ty_set, ↓isS_set, ↓isC_sg, ↓sNever_e, ↓enumD_map, ↓dpAll_strs, ↓dpAll_mapI, ↓ne_lst_nil, ↓eq_lst_nil, ↓isT_grp, ↓len_grp, ↓isDc_wf, ↓wn_at, ↓isT_way, ↓len_way, ↓ty_way, ↓ty_st, ↓len_st, ↓ix_st0, ↓ix_st1, ↓inD_lits, ↓ninD_lits, ↓dpAll_sets, ↓three_three, ↓zip3_sets, ↓isT_z3, ↓inL_lock, ↓ninT_lits, ↓FM.tp_t, ↓FM.tp_f, Bool.not_true, Bool.not_false, Bool.false_eq_true, if_false, if_true, true_and, and_true, List.set_cons_zero, List.set_cons_succ, List.length_cons, List.length_nil, List.length_map, eq_self, decide_true, decide_false, Bool.true_eq_false, or_self, Bool.or_self, List.all_cons, List.all_nil, Bool.and_true, Bool.true_and, Bool.or_false, Bool.false_or, Bool.or_true, Bool.true_or, Bool.and_false, Bool.false_and, Int.reduceLT, Int.reduceLE, Int.reduceEq, Nat.reduceLeDiff, Nat.reduceAdd, Nat.reduceLT, wf_some, wn_some, fold_lit, fold_litp, fold_litm, sg_iff, sg_in_pm, isNon_opt, isEmpty_map, ↓reduceIte, nq_0_1, nq_0_2, nq_0_3, nq_0_4, nq_0_5, nq_0_6, nq_0_7, nq_1_0, nq_1_2, nq_1_3, nq_1_4, nq_1_5, nq_1_6, nq_1_7, nq_2_0, nq_2_1, nq_2_3, nq_2_4, nq_2_5, nq_2_6, nq_2_7, nq_3_0, nq_3_1, nq_3_2, nq_3_4, nq_3_5, nq_3_6, nq_3_7, nq_4_0, nq_4_1, nq_4_2, nq_4_3, nq_4_5, nq_4_6, nq_4_7, nq_5_0, nq_5_1, nq_5_2, nq_5_3, nq_5_4, nq_5_6, nq_5_7, nq_6_0, nq_6_1, nq_6_2, nq_6_3, nq_6_4, nq_6_5, nq_6_7, nq_7_0, nq_7_1, nq_7_2, nq_7_3, nq_7_4, nq_7_5, nq_7_6])
section
variable {P : Program} {w : World} {K : PySem.W.Frag} {mg : Str → Option Value} {base : Heap}
theorem sc_Panel_ways_from : FnScope ["self", "literal", "known", "layer", "later", "one", "index", "other"] ["self", "literal"] (defScope (inClass (top 41) 8)) := ⟨rfl, rfl, rfl, by decide +kernel, rfl, by decide +kernel, by decide +kernel⟩
def sp_Panel_ways_from (K : PySem.W.Frag) : DSp := fun ds M post => ∃ (fg : Bool) (p : Pan) (a : Lit), ds = [panF K fg p, litD a] ∧ (a.n ∈ p.ss ∧ post (wfD p a) M)
theorem cl_Panel_ways_from {fg : Bool} {p : Pan} {a : Lit} {M : Mem} {post : WK} : sp_Panel_ways_from K [panF K fg p, litD a] M post = (a.n ∈ p.ss ∧ post (wfD p a) M) := by
  simp [-Bool.exists_bool, sp_Panel_ways_from, tp_inj, litD_inj, strs_inj, ruleD_inj, clD_inj, setD_inj, rules_inj, lits_inj, sets_inj, ints_inj, panF_inj, rngs_inj, rngE_inj, sg_inj, and_assoc, Int.natCast_inj]
theorem ok_Panel_ways_from (T : Tx P w K mg base) : PubM P w K mg base 1 (He.ga K "Panel") "ways_from" ["self", "literal"] (sp_Panel_ways_from K) := by
  have S := sc_Panel_ways_from
  refine pubM_of T.d_Panel_ways_from T.h_Panel_ways_from S (fun _ _ _ _ _ _ us hl => match us, hl with | [_, _], _ => rfl) (fun ds M post h => by unfold sp_Panel_ways_from at h; grind) fun f cdv A outer s H gd hr => ⟨_, (ds_cons (ds_par (i := 2) (j := 3) rfl S.nd (da_cons (de_dispT hr (dv 1) (de_tup da_nil)) (da_cons (de_lst (da_cons (dv 1) da_nil)) da_nil)))
      (ds_cons (ds_while PassesOwn.never (dt_cmp (o_ne hr) (dv 3) (de_lst da_nil))
      (ds_cons (ds_set (i := 4) S.nd (de_new da_nil))
      (ds_cons (ds_for PassesOwn.never rfl (di_list (dv 3)) (dg_name (i := 5) S.nd)
      (ds_one (ds_for PassesOwn.never rfl (di_list (de_dget hr (de_fld T.c_Panel T.n_Panel_steps (dv 0)) (dv 5))) (dg_tup (n := 2) rfl (dgs_cons (dg_name (i := 6) S.nd) (dgs_cons (dg_name (i := 7) S.nd) dgs_nil)))
      (ds_one (ds_if (dt_cmp (o_dnin hr) (dv 7) (dv 2))
      (ds_cons (ds_dput hr (dv 2) (dv 7) (de_op o_add (de_dget hr (dv 2) (dv 5)) (de_tup (da_cons (de_tup (da_cons (dv 6) (da_cons (dv 7) da_nil))) da_nil))))
      (ds_one (ds_expr (de_ml PySem.F.slot_list_append PySem.F.type_list_append m_append (dv 4) (da_cons (dv 7) da_nil)))))
      ds_nil)))))
      (ds_one (ds_set (i := 3) S.nd (de_ice (dv 4)))))))
      (ds_one (ds_ret (de_fz (dv 2)))))), ?_⟩
  rintro ds M post ⟨fg, p, a, rfl, ha, h⟩
  have l10 := p.sw.2.1
  (try walk_at "w")
  intro kp hkp
  have e0 : putD ([] : List (List Key × D)) (litK a) (.tup []) = knK [(a, [])] := rfl
  rw [dPut_T Mem.upd_same keyT_lit, Mem.upd_upd, e0]
  refine ⟨by simp, fun n Γ' M' => ∃ (k : Kn) (layer : List Lit) (x y z u : Option D), Γ' = [some (panF K fg p), some (litD a), some (.ptr kp), some (.lst (layer.map litD)), x, y, z, u] ∧ M' = M.upd kp (.dT (knK k)) ∧ BW p.ss p.rs a n k layer ∧ bfs p.rs n k layer = wf p.ss p.rs a, ⟨_, _, [a], _, _, _, _, rfl, rfl, bw_start ha, rfl⟩, ?_⟩
  rintro n Γ' M' ⟨k, layer, x, y, z, u, rfl, rfl, bw, eb⟩
  (try walk_at "w")
  have dl := dpAll_lits layer
  refine ⟨by omega, ?_⟩
  cases layer with
  | nil =>
    (try walk_at "w")
    rw [bfs_nil] at eb
    refine ⟨wfD p a, M, Mem.le_upd hkp, ?_, h⟩
    unfold wfD
    rw [← eb]
    exact .dT Mem.upd_same hkp rfl fzAll_same
  | cons l0 ls =>
    obtain ⟨m, rfl⟩ := bw.pos (by simp)
    rw [bfs, if_neg (by simp)] at eb
    have bs := bw.step p.ru (by simp)
    generalize hly : l0 :: ls = layer at *
    have ei : layer.isEmpty = false := by rw [← hly]; rfl
    simp only [ei]
    (try walk_at "w")
    intro lp hlp
    have kl : kp ≠ lp := fun e => by rw [← e, Mem.upd_same] at hlp; cases hlp
    have hlm : M lp = none := by rw [Mem.upd_ne (Ne.symm kl)] at hlp; exact hlp
    have mk : ∀ (k : Kn) (l : List Lit), ((M.upd kp (.dT (knK k))).upd lp (.lst (l.map litD))) kp = some (.dT (knK k)) := fun k l => by rw [Mem.upd_ne kl, Mem.upd_same]
    refine for_fold layer litD (bfsO p.rs) (k, []) (fun st Γ' M' => (∃ y z u, Γ' = [some (panF K fg p), some (litD a), some (.ptr kp), some (.lst (layer.map litD)), some (.ptr lp), y, z, u]) ∧ M' = (M.upd kp (.dT (knK st.1))).upd lp (.lst (st.2.map litD)) ∧ Run p.ss p.rs a (k, []) st) ⟨⟨_, _, _, rfl⟩, rfl, .refl bw.bi⟩ (fun _ _ _ _ => trivial) ?_ ?_
    · rintro st one ho Γ' M' ⟨⟨y, z, u, rfl⟩, rfl, rn⟩
      have hok : one ∈ k.map (·.1) := bw.lay one ho
      have hos : one.n ∈ p.ss := bw.bi.ins one hok
      (try walk_at "w")
      rw [steps_at hos]
      (try walk_at "w")
      refine for_fold (stepsAt p.rs one) stD (bfs1 one) st (fun st Γ' M' => (∃ z u, Γ' = [some (panF K fg p), some (litD a), some (.ptr kp), some (.lst (layer.map litD)), some (.ptr lp), some (litD one), z, u]) ∧ M' = (M.upd kp (.dT (knK st.1))).upd lp (.lst (st.2.map litD)) ∧ Run p.ss p.rs a (k, []) st) ⟨⟨_, _, rfl⟩, rfl, rn⟩ (fun _ _ _ _ => trivial) ?_ ?_
      · rintro st ⟨i, o⟩ hs Γ' M' ⟨⟨z, u, rfl⟩, rfl, rn⟩
        have ho2 := rn.sub one hok
        have r1 := (run1 p.ru rn.bi ho2 hs).1
        have len1 := rn.bi.len
        have len2 := rn.len
        have len0 := bw.bi.len
        (try walk_at "w")
        rw [dAt_T (mk _ _) keyT_lit, val_kn, Option.isSome_map]
        unfold bfs1 at r1 ⊢
        cases hq : (st.1.lookup o).isSome with
        | true =>
          (try walk_at "w")
          first | exact rn | exact ⟨⟨_, _, rfl⟩, rn⟩ | exact ⟨⟨_, _, rfl⟩, rfl, rn⟩
        | false =>
          (try walk_at "w")
          obtain ⟨w, hw⟩ := Option.isSome_iff_exists.mp (lk_iff.mpr ho2)
          have wl := rn.bi.wl _ (lookup_mem hw)
          simp only at wl
          simp only [hq, hw, Bool.false_eq_true, if_false, Option.getD_some] at r1
          rw [dAt_T (mk _ _) keyT_lit, val_kn, hw]
          show got (addD (wayD w) (.tup [stD (i, o)])) _
          rw [add_way]
          refine ⟨by omega, ?_⟩
          rw [dPut_T (mk _ _) keyT_lit, put_kn hq, ← upd_comm kl, Mem.upd_upd]
          refine ⟨by unfold knK; rw [List.length_map]; omega, okL_cell Mem.upd_same, ?_⟩
          rw [append_eq Mem.upd_same, Mem.upd_upd]
          simp only [List.length_nil] at len2
          refine ⟨by rw [List.length_map]; omega, ⟨_, _, rfl⟩, ?_, rn.trans r1⟩
          simp
      · rintro Γ' M' ⟨⟨z, u, rfl⟩, rfl, rn⟩
        exact ⟨⟨_, _, _, rfl⟩, rfl, rn⟩
    · rintro Γ' M' ⟨⟨y, z, u, rfl⟩, rfl, rn⟩
      (try walk_at "w")
      rw [Mem.del_upd (by rw [Mem.upd_ne (Ne.symm kl)]; exact hlm)]
      exact ⟨m, by omega, _, _, _, _, _, _, rfl, rfl, bs, eb⟩
theorem sc_needed : FnScope ["panel", "literal", "known", "each"] ["panel", "literal"] (defScope (top 51)) := ⟨rfl, rfl, rfl, by decide +kernel, rfl, by decide +kernel, by decide +kernel⟩
def sp_needed (K : PySem.W.Frag) : DSp := fun ds M post => ∃ (fg : Bool) (p : Pan) (a : Lit), ds = [panF K fg p, litD a] ∧ (a.n ∈ p.ss ∧ post (.ftp ((neededL p a).map litD)) M)
theorem cl_needed {fg : Bool} {p : Pan} {a : Lit} {M : Mem} {post : WK} : sp_needed K [panF K fg p, litD a] M post = (a.n ∈ p.ss ∧ post (.ftp ((neededL p a).map litD)) M) := by
  simp [-Bool.exists_bool, sp_needed, tp_inj, litD_inj, strs_inj, ruleD_inj, clD_inj, setD_inj, rules_inj, lits_inj, sets_inj, ints_inj, panF_inj, rngs_inj, rngE_inj, sg_inj, and_assoc, Int.natCast_inj]
local macro_rules | `(tactic| walk_at "needed") => `(tactic| simp only [↓cl_check_panel, cl_check_panel, ↓cl_check_literal, cl_check_literal, ↓cl_Panel_ways_from, cl_Panel_ways_from, ↓cl_literals_of, cl_literals_of, ↓FD.sSeq_e, ↓FD.sRet_e, ↓FD.sIf_e, ↓FD.sAsg_e, ↓FD.gSet_e, ↓FD.sDrop_e, ↓FD.sNext_e, ↓FD.sPar_e, ↓FD.sPar3_e, ↓FD.wIf_e, ↓FD.wOp_e, ↓FD.wUn_e, ↓FD.wVar_e, ↓FD.wC_e, ↓FD.wTst_e, ↓FD.wAnd_e, ↓FD.wOr_e, ↓FD.wNot_e, ↓FD.wAndV_e, ↓FD.wOrV_e, ↓FD.wNotV_e, ↓FD.wChain_e, ↓FD.aNil_e, ↓FD.aCons_e, ↓FD.wTup_e, ↓FD.wLst_e, ↓FD.wFtp_e, ↓FD.wNew_e, ↓FD.wCall_e, ↓FD.wB_e, ↓FD.wSl_e, ↓FD.oSome_e, ↓FD.oNone_e, ↓FD.wIsi_e, ↓FD.wIsiC_e, ↓FD.p1_e, ↓FD.p2_e, ↓FD.gLen_e, ↓FD.iLst_e, ↓FD.iTup_e, ↓FD.iStrD_e, ↓FD.iEnT_e, ↓FD.iEnL_e, ↓FD.iRng_e, ↓FD.iRng2_e, ↓FD.gTup_e, ↓FD.gsNil_e, ↓FD.gsCons_e, ↓FD.wM_e, ↓FD.wIxT_e, ↓FD.wFld_e, ↓FD.wMeth_e, ↓FD.wMake_e, ↓FD.sFldD_e, ↓FD.wDGet_e, ↓FD.sDput_e, ↓FD.wDNewK_e, ↓FD.wDNewT_e, ↓FD.wDisp1_e, ↓FD.wIce_e, ↓FD.gSub_e, ↓FD.wCallK_e, ↓FD.t1_e, ↓FD.t2_e, ↓FD.t1w_e, ↓FD.tYesD_e, ↓FD.gDIn_e, ↓FD.gDNin_e, ↓FD.gIndexT_e, ↓FD.gIndex_e, ↓FD.gInt_e, ↓FD.gAbs_e, ↓FD.gMax_e, ↓FD.gMin_e, ↓FD.gDivmod_e, ↓FD.wFz_e, ↓FD.wDGetD_e, ↓FD.t3_e, ↓FD.iZip3D_e, ↓sFor_eq, ↓wLc_eq, ↓wLc2_eq, ↓wDc_eq, ↓look_zero, ↓look_succ, ↓got_so, ↓isB_bl, ↓isI_int, ↓isS_str, ↓isT_tup, ↓isT_ftp, ↓isT_ktp, ↓isT_tp, ↓one_one, ↓two_two, ↓startD_cc, ↓startD_cn, ↓startD_nn, ↓FD.ix_str, ↓FD.ix_tup, ↓ix_ftp, ↓ix_ktp, ↓ix_lst, ↓ix_scr, ↓ix_tp, ↓atI0, ↓atI1, ↓atI2, ↓atI3, ↓FD.eq_str, ↓FD.ne_str, ↓FD.eq_int, ↓FD.ne_int, ↓FD.add_int, ↓FD.sub_int, ↓FD.lt_int, ↓FD.le_int, ↓FD.gt_int, ↓FD.ge_int, ↓FD.add_str, ↓FD.add_lst, ↓FD.add_tup, ↓FD.mul_int, ↓FD.mod_int, ↓FD.fdiv_int, ↓FD.pow_int, ↓isN_non, ↓notN_non, ↓FD.len_str, ↓len_tup, ↓len_ftp, ↓len_ktp, ↓len_lst, ↓len_scr, ↓len_tp, ↓seq_tup, ↓seq_ftp, ↓seq_ktp, ↓seq_lst, ↓seq_scr, ↓seq_tp, ↓in_tup, ↓in_ftp, ↓in_ktp, ↓in_lst, ↓nin_tup, ↓nin_ftp, ↓nin_ktp, ↓nin_lst, ↓FD.in_str, ↓nin_str, ↓isC_one, ↓asL_lst, ↓asL_scr, ↓if_tt, ↓if_ff, ↓isi_ss, ↓isi_tt, ↓isi_st, ↓isi_ts, ↓ty_str, ↓ty_tup, ↓ty_ftp, ↓ty_tp, ↓all_lst, ↓any_lst, ↓flat_s, ↓flat_set, ↓tuple_lst, ↓FD.int_int, ↓eq_ftp_nil, ↓ne_ftp_nil, ↓isNon_non, ↓isNon_int, ↓isNon_str, ↓isNon_ptr, ↓isNon_tup, ↓isNon_ftp, ↓inL_strs, ↓flatSs, ↓inL_sets, ↓flatSets, ↓FM.tw, ↓FM.tw3, ↓FM.sl_str, ↓sl_set, ↓cell_upd, ↓lk_sw, ↓lk_ru, ↓lk_st, ↓lk_place, ↓lk_has, ↓lk_keeps, ↓lk_wrongs, ↓lk_goods, ↓lk_ways_from, ↓lk_text, ↓ins_pan, ↓FD.fit_le, ↓cx_K, ↓nox_K, ↓blk_K, ↓bx_K, ↓c1, ↓c2, ↓c3, ↓c4, ↓inL_cons, ↓inL_nil, ↓all_bools, ↓any_bools, ↓in_tp, ↓nin_tp, ↓FM.sl_ftp, ↓FM.sl_tup, ↓FM.sl_lst, ↓FM.sl_scr, ↓index_eq, ↓ex_ftp, ↓eqd_str, ↓wf_at, ↓isT_cl, ↓isT_st, ↓isT_lit, ↓ix_lit0, ↓ix_lit1, ↓len_lit, ↓ty_lit, ↓eq_lit, ↓ne_lit, ↓eq_set, ↓ne_set, ↓len_set, ↓ty_set, ↓isS_set, ↓isC_sg, ↓sNever_e, ↓enumD_map, ↓dpAll_strs, ↓dpAll_mapI, ↓ne_lst_nil, ↓eq_lst_nil, ↓isT_grp, ↓len_grp, ↓isDc_wf, ↓wn_at, ↓isT_way, ↓len_way, ↓ty_way, ↓ty_st, ↓len_st, ↓ix_st0, ↓ix_st1, ↓inD_lits, ↓ninD_lits, ↓dpAll_sets, ↓three_three, ↓zip3_sets, ↓isT_z3, ↓inL_lock, ↓ninT_lits, ↓FM.tp_t, ↓FM.tp_f, Bool.not_true, Bool.not_false, Bool.false_eq_true, if_false, if_true, true_and, and_true, List.set_cons_zero, List.set_cons_succ, List.length_cons, List.length_nil, List.length_map, eq_self, decide_true, decide_false, Bool.true_eq_false, or_self, Bool.or_self, List.all_cons, List.all_nil, Bool.and_true, Bool.true_and, Bool.or_false, Bool.false_or, Bool.or_true, Bool.true_or, Bool.and_false, Bool.false_and, Int.reduceLT, Int.reduceLE, Int.reduceEq, Nat.reduceLeDiff, Nat.reduceAdd, Nat.reduceLT, wf_some, wn_some, fold_lit, fold_litp, fold_litm, sg_iff, sg_in_pm, isNon_opt, isEmpty_map, ↓reduceIte, nq_0_1, nq_0_2, nq_0_3, nq_0_4, nq_0_5, nq_0_6, nq_0_7, nq_1_0, nq_1_2, nq_1_3, nq_1_4, nq_1_5, nq_1_6, nq_1_7, nq_2_0, nq_2_1, nq_2_3, nq_2_4, nq_2_5, nq_2_6, nq_2_7, nq_3_0, nq_3_1, nq_3_2, nq_3_4, nq_3_5, nq_3_6, nq_3_7, nq_4_0, nq_4_1, nq_4_2, nq_4_3, nq_4_5, nq_4_6, nq_4_7, nq_5_0, nq_5_1, nq_5_2, nq_5_3, nq_5_4, nq_5_6, nq_5_7, nq_6_0, nq_6_1, nq_6_2, nq_6_3, nq_6_4, nq_6_5, nq_6_7, nq_7_0, nq_7_1, nq_7_2, nq_7_3, nq_7_4, nq_7_5, nq_7_6])
theorem fn_needed (T : Tx P w K mg base) : Fng P w K mg base 3 "needed" (top 51) ["panel", "literal"] (sp_needed K) := by
  have S := sc_needed
  refine fng_of T.d_needed T.g_needed S (fun ds M post h => by unfold sp_needed at h; grind) fun f cdv A outer s H gd hr => ⟨_, (ds_cons (ds_expr (de_call (ok_check_panel T) (hr.mono (by decide)) gd (da_cons (dv 0) da_nil)))
      (ds_cons (ds_expr (de_call (ok_check_literal T) (hr.mono (by decide)) gd (da_cons (dv 0) (da_cons (dv 1) da_nil))))
      (ds_cons (ds_set (i := 2) S.nd (de_meth T.c_Panel (ok_Panel_ways_from T) (hr.mono (by decide)) gd (dv 0) (da_cons (dv 1) da_nil)))
      (ds_one (ds_ret (de_ty c_tuple T.m_tuple (by decide +kernel) (da_cons (de_lc (own := [("each", 3)]) rfl S.nd (di_list (de_call (ok_literals_of T) (hr.mono (by decide)) gd (da_cons (de_fld T.c_Panel T.n_Panel_switches (dv 0)) da_nil))) (blkOk_by (N := ["panel", "literal", "known", "each"]) (sc := defScope (top 51)) (by decide +kernel)) tgt1 (fun _ _ _ _ _ => pg_name (i := 3) S.nd rfl (Or.inl rfl)) (fun _ _ _ _ _ => (dts_one (dt_cmp (o_din hr) (dv 3) (dv 2)))) (fun _ _ _ _ _ => (dv 3))) da_nil))))))), ?_⟩
  rintro ds M post ⟨fg, p, a, rfl, ha, h⟩
  have l10 := p.sw.2.1
  (try walk_at "needed")
  refine ⟨ha, ha, by omega, ?_⟩
  refine lc_pure (lits p.ss) litD (fun b => inW p.ss p.rs a b) litD trivial ?_ ?_
  · intro b hx yes no hy hn
    (try walk_at "needed")
    cases h1 : inW p.ss p.rs a b with
    | false => (try walk_at "needed"); exact hn h1
    | true => (try walk_at "needed"); exact hy h1
  · rw [tuple_lst]
    exact h
theorem ok_needed (T : Tx P w K mg base) : Pub P w K mg base 3 "needed" ["panel", "literal"] (sp_needed K) := (fn_needed T).pub fun _ _ _ _ _ _ us hl => match us, hl with | [_, _], _ => rfl
theorem sc_is_setting : FnScope ["value", "many", "sign"] ["value", "many"] (defScope (top 19)) := ⟨rfl, rfl, rfl, by decide +kernel, rfl, by decide +kernel, by decide +kernel⟩
def sp_is_setting : DSp := fun ds M post => ∃ (t : List Bool) (n : Nat), ds = [setD t, .int (n : Int)] ∧ post (.bl (decide (t.length = n))) M
theorem cl_is_setting {t : List Bool} {n : Nat} {M : Mem} {post : WK} : sp_is_setting [setD t, .int (n : Int)] M post = post (.bl (decide (t.length = n))) M := by
  simp [-Bool.exists_bool, sp_is_setting, tp_inj, litD_inj, strs_inj, ruleD_inj, clD_inj, setD_inj, rules_inj, lits_inj, sets_inj, ints_inj, panF_inj, rngs_inj, rngE_inj, sg_inj, and_assoc, Int.natCast_inj]
theorem fn_is_setting (T : Tx P w K mg base) : Fng P w K mg base 1 "is_setting" (top 19) ["value", "many"] sp_is_setting := by
  have S := sc_is_setting
  refine fng_of T.d_is_setting T.g_is_setting S (fun ds M post h => by unfold sp_is_setting at h; grind) fun f cdv A outer s H gd hr => ⟨_, (ds_one (ds_ret (de_and (de_isi (T := "str") (dv 0) T.m_isinstance T.m_str (by decide +kernel)) (de_and (de_cmp (o_eq hr) (de_b c_len T.m_len (by decide +kernel) (da_cons (dv 0) da_nil)) (dv 1)) (de_one (de_b (c_all rfl) T.m_all (by decide +kernel) (da_cons (de_lc (own := [("sign", 2)]) rfl S.nd (di_str (dv 0)) (blkOk_by (N := ["value", "many", "sign"]) (sc := defScope (top 19)) (by decide +kernel)) tgt1 (fun _ _ _ _ _ => pg_name (i := 2) S.nd rfl (Or.inl rfl)) (fun _ _ _ _ _ => dts_nil) (fun _ _ _ _ _ => (de_cmp o_in (dv 2) T.k_SIGNS))) da_nil))))))), ?_⟩
  rintro ds M post ⟨t, n, rfl, h⟩
  (try walk_at "w")
  by_cases e : t.length = n
  · rw [if_pos (by simp [e]), signs_set]
    refine lc_map t (fun b => D.str (sg b)) (fun b => D.bl true) trivial ?_ ?_
    · intro c hc yes hy
      (try walk_at "w")
      exact hy
    · have e2 : (t.all fun b => true) = true := by simp
      rw [all_bools, e2]
      simpa [e] using h
  · rw [if_neg (by simp; omega)]
    simpa [e] using h
theorem ok_is_setting (T : Tx P w K mg base) : Pub P w K mg base 1 "is_setting" ["value", "many"] sp_is_setting := (fn_is_setting T).pub fun _ _ _ _ _ _ us hl => match us, hl with | [_, _], _ => rfl
theorem sc_is_good_setting : FnScope ["panel", "value"] ["panel", "value"] (defScope (top 43)) := ⟨rfl, rfl, rfl, by decide +kernel, rfl, by decide +kernel, by decide +kernel⟩
def sp_is_good_setting (K : PySem.W.Frag) : DSp := fun ds M post => ∃ (fg : Bool) (p : Pan) (t : List Bool), ds = [panF K fg p, setD t] ∧ post (.bl (decide (t.length = p.ss.length) && good p.ss p.rs t)) M
theorem cl_is_good_setting {fg : Bool} {p : Pan} {t : List Bool} {M : Mem} {post : WK} : sp_is_good_setting K [panF K fg p, setD t] M post = post (.bl (decide (t.length = p.ss.length) && good p.ss p.rs t)) M := by
  simp [-Bool.exists_bool, sp_is_good_setting, tp_inj, litD_inj, strs_inj, ruleD_inj, clD_inj, setD_inj, rules_inj, lits_inj, sets_inj, ints_inj, panF_inj, rngs_inj, rngE_inj, sg_inj, and_assoc, Int.natCast_inj]
local macro_rules | `(tactic| walk_at "is_good_setting") => `(tactic| simp only [↓cl_is_setting, cl_is_setting, ↓cl_Panel_wrongs, cl_Panel_wrongs, ↓FD.sSeq_e, ↓FD.sRet_e, ↓FD.sIf_e, ↓FD.sAsg_e, ↓FD.gSet_e, ↓FD.sDrop_e, ↓FD.sNext_e, ↓FD.sPar_e, ↓FD.sPar3_e, ↓FD.wIf_e, ↓FD.wOp_e, ↓FD.wUn_e, ↓FD.wVar_e, ↓FD.wC_e, ↓FD.wTst_e, ↓FD.wAnd_e, ↓FD.wOr_e, ↓FD.wNot_e, ↓FD.wAndV_e, ↓FD.wOrV_e, ↓FD.wNotV_e, ↓FD.wChain_e, ↓FD.aNil_e, ↓FD.aCons_e, ↓FD.wTup_e, ↓FD.wLst_e, ↓FD.wFtp_e, ↓FD.wNew_e, ↓FD.wCall_e, ↓FD.wB_e, ↓FD.wSl_e, ↓FD.oSome_e, ↓FD.oNone_e, ↓FD.wIsi_e, ↓FD.wIsiC_e, ↓FD.p1_e, ↓FD.p2_e, ↓FD.gLen_e, ↓FD.iLst_e, ↓FD.iTup_e, ↓FD.iStrD_e, ↓FD.iEnT_e, ↓FD.iEnL_e, ↓FD.iRng_e, ↓FD.iRng2_e, ↓FD.gTup_e, ↓FD.gsNil_e, ↓FD.gsCons_e, ↓FD.wM_e, ↓FD.wIxT_e, ↓FD.wFld_e, ↓FD.wMeth_e, ↓FD.wMake_e, ↓FD.sFldD_e, ↓FD.wDGet_e, ↓FD.sDput_e, ↓FD.wDNewK_e, ↓FD.wDNewT_e, ↓FD.wDisp1_e, ↓FD.wIce_e, ↓FD.gSub_e, ↓FD.wCallK_e, ↓FD.t1_e, ↓FD.t2_e, ↓FD.t1w_e, ↓FD.tYesD_e, ↓FD.gDIn_e, ↓FD.gDNin_e, ↓FD.gIndexT_e, ↓FD.gIndex_e, ↓FD.gInt_e, ↓FD.gAbs_e, ↓FD.gMax_e, ↓FD.gMin_e, ↓FD.gDivmod_e, ↓FD.wFz_e, ↓FD.wDGetD_e, ↓FD.t3_e, ↓FD.iZip3D_e, ↓sFor_eq, ↓wLc_eq, ↓wLc2_eq, ↓wDc_eq, ↓look_zero, ↓look_succ, ↓got_so, ↓isB_bl, ↓isI_int, ↓isS_str, ↓isT_tup, ↓isT_ftp, ↓isT_ktp, ↓isT_tp, ↓one_one, ↓two_two, ↓startD_cc, ↓startD_cn, ↓startD_nn, ↓FD.ix_str, ↓FD.ix_tup, ↓ix_ftp, ↓ix_ktp, ↓ix_lst, ↓ix_scr, ↓ix_tp, ↓atI0, ↓atI1, ↓atI2, ↓atI3, ↓FD.eq_str, ↓FD.ne_str, ↓FD.eq_int, ↓FD.ne_int, ↓FD.add_int, ↓FD.sub_int, ↓FD.lt_int, ↓FD.le_int, ↓FD.gt_int, ↓FD.ge_int, ↓FD.add_str, ↓FD.add_lst, ↓FD.add_tup, ↓FD.mul_int, ↓FD.mod_int, ↓FD.fdiv_int, ↓FD.pow_int, ↓isN_non, ↓notN_non, ↓FD.len_str, ↓len_tup, ↓len_ftp, ↓len_ktp, ↓len_lst, ↓len_scr, ↓len_tp, ↓seq_tup, ↓seq_ftp, ↓seq_ktp, ↓seq_lst, ↓seq_scr, ↓seq_tp, ↓in_tup, ↓in_ftp, ↓in_ktp, ↓in_lst, ↓nin_tup, ↓nin_ftp, ↓nin_ktp, ↓nin_lst, ↓FD.in_str, ↓nin_str, ↓isC_one, ↓asL_lst, ↓asL_scr, ↓if_tt, ↓if_ff, ↓isi_ss, ↓isi_tt, ↓isi_st, ↓isi_ts, ↓ty_str, ↓ty_tup, ↓ty_ftp, ↓ty_tp, ↓all_lst, ↓any_lst, ↓flat_s, ↓flat_set, ↓tuple_lst, ↓FD.int_int, ↓eq_ftp_nil, ↓ne_ftp_nil, ↓isNon_non, ↓isNon_int, ↓isNon_str, ↓isNon_ptr, ↓isNon_tup, ↓isNon_ftp, ↓inL_strs, ↓flatSs, ↓inL_sets, ↓flatSets, ↓FM.tw, ↓FM.tw3, ↓FM.sl_str, ↓sl_set, ↓cell_upd, ↓lk_sw, ↓lk_ru, ↓lk_st, ↓lk_place, ↓lk_has, ↓lk_keeps, ↓lk_wrongs, ↓lk_goods, ↓lk_ways_from, ↓lk_text, ↓ins_pan, ↓FD.fit_le, ↓cx_K, ↓nox_K, ↓blk_K, ↓bx_K, ↓c1, ↓c2, ↓c3, ↓c4, ↓inL_cons, ↓inL_nil, ↓all_bools, ↓any_bools, ↓in_tp, ↓nin_tp, ↓FM.sl_ftp, ↓FM.sl_tup, ↓FM.sl_lst, ↓FM.sl_scr, ↓index_eq, ↓ex_ftp, ↓eqd_str, ↓wf_at, ↓isT_cl, ↓isT_st, ↓isT_lit, ↓ix_lit0, ↓ix_lit1, ↓len_lit, ↓ty_lit, ↓eq_lit, ↓ne_lit, ↓eq_set, ↓ne_set, ↓len_set, ↓ty_set, ↓isS_set, ↓isC_sg, ↓sNever_e, ↓enumD_map, ↓dpAll_strs, ↓dpAll_mapI, ↓ne_lst_nil, ↓eq_lst_nil, ↓isT_grp, ↓len_grp, ↓isDc_wf, ↓wn_at, ↓isT_way, ↓len_way, ↓ty_way, ↓ty_st, ↓len_st, ↓ix_st0, ↓ix_st1, ↓inD_lits, ↓ninD_lits, ↓dpAll_sets, ↓three_three, ↓zip3_sets, ↓isT_z3, ↓inL_lock, ↓ninT_lits, ↓FM.tp_t, ↓FM.tp_f, Bool.not_true, Bool.not_false, Bool.false_eq_true, if_false, if_true, true_and, and_true, List.set_cons_zero, List.set_cons_succ, List.length_cons, List.length_nil, List.length_map, eq_self, decide_true, decide_false, Bool.true_eq_false, or_self, Bool.or_self, List.all_cons, List.all_nil, Bool.and_true, Bool.true_and, Bool.or_false, Bool.false_or, Bool.or_true, Bool.true_or, Bool.and_false, Bool.false_and, Int.reduceLT, Int.reduceLE, Int.reduceEq, Nat.reduceLeDiff, Nat.reduceAdd, Nat.reduceLT, wf_some, wn_some, fold_lit, fold_litp, fold_litm, sg_iff, sg_in_pm, isNon_opt, isEmpty_map, ↓reduceIte, nq_0_1, nq_0_2, nq_0_3, nq_0_4, nq_0_5, nq_0_6, nq_0_7, nq_1_0, nq_1_2, nq_1_3, nq_1_4, nq_1_5, nq_1_6, nq_1_7, nq_2_0, nq_2_1, nq_2_3, nq_2_4, nq_2_5, nq_2_6, nq_2_7, nq_3_0, nq_3_1, nq_3_2, nq_3_4, nq_3_5, nq_3_6, nq_3_7, nq_4_0, nq_4_1, nq_4_2, nq_4_3, nq_4_5, nq_4_6, nq_4_7, nq_5_0, nq_5_1, nq_5_2, nq_5_3, nq_5_4, nq_5_6, nq_5_7, nq_6_0, nq_6_1, nq_6_2, nq_6_3, nq_6_4, nq_6_5, nq_6_7, nq_7_0, nq_7_1, nq_7_2, nq_7_3, nq_7_4, nq_7_5, nq_7_6])
theorem fn_is_good_setting (T : Tx P w K mg base) : Fng P w K mg base 6 "is_good_setting" (top 43) ["panel", "value"] (sp_is_good_setting K) := by
  have S := sc_is_good_setting
  refine fng_of T.d_is_good_setting T.g_is_good_setting S (fun ds M post h => by unfold sp_is_good_setting at h; grind) fun f cdv A outer s H gd hr => ⟨_, (ds_one (ds_ret (de_and (de_call (ok_is_setting T) (hr.mono (by decide)) gd (da_cons (dv 1) (da_cons (de_b c_len T.m_len (by decide +kernel) (da_cons (de_fld T.c_Panel T.n_Panel_switches (dv 0)) da_nil)) da_nil))) (de_one (de_cmp (o_eq hr) (de_meth T.c_Panel (ok_Panel_wrongs T) (hr.mono (by decide)) gd (dv 0) (da_cons (dv 1) da_nil)) (de_tup da_nil)))))), ?_⟩
  rintro ds M post ⟨fg, p, t, rfl, h⟩
  (try walk_at "is_good_setting")
  by_cases e : t.length = p.ss.length
  · simp only [e, decide_true, Bool.true_and] at h ⊢
    (try walk_at "is_good_setting")
    rw [wrongIx_em]
    exact h
  · simp only [e, decide_false, Bool.false_and] at h ⊢
    (try walk_at "is_good_setting")
    exact h
theorem ok_is_good_setting (T : Tx P w K mg base) : Pub P w K mg base 6 "is_good_setting" ["panel", "value"] (sp_is_good_setting K) := (fn_is_good_setting T).pub fun _ _ _ _ _ _ us hl => match us, hl with | [_, _], _ => rfl
end
end LW

namespace LW
open PySem PySem.Spec PyProof.Rows L2 FD FM
local macro_rules | `(tactic| walk_at "w") => `(tactic| simp only [↓FD.sSeq_e, ↓FD.sRet_e, ↓FD.sIf_e, ↓FD.sAsg_e, ↓FD.gSet_e, ↓FD.sDrop_e, ↓FD.sNext_e, ↓FD.sPar_e, ↓FD.sPar3_e, ↓FD.wIf_e, ↓FD.wOp_e, ↓FD.wUn_e, ↓FD.wVar_e, ↓FD.wC_e, ↓FD.wTst_e, ↓FD.wAnd_e, ↓FD.wOr_e, ↓FD.wNot_e, ↓FD.wAndV_e, ↓FD.wOrV_e, ↓FD.wNotV_e, ↓FD.wChain_e, ↓FD.aNil_e, ↓FD.aCons_e, ↓FD.wTup_e, ↓FD.wLst_e, ↓FD.wFtp_e, ↓FD.wNew_e, ↓FD.wCall_e, ↓FD.wB_e, ↓FD.wSl_e, ↓FD.oSome_e, ↓FD.oNone_e, ↓FD.wIsi_e, ↓FD.wIsiC_e, ↓FD.p1_e, ↓FD.p2_e, ↓FD.gLen_e, ↓FD.iLst_e, ↓FD.iTup_e, ↓FD.iStrD_e, ↓FD.iEnT_e, ↓FD.iEnL_e, ↓FD.iRng_e, ↓FD.iRng2_e, ↓FD.gTup_e, ↓FD.gsNil_e, ↓FD.gsCons_e, ↓FD.wM_e, ↓FD.wIxT_e, ↓FD.wFld_e, ↓FD.wMeth_e, ↓FD.wMake_e, ↓FD.sFldD_e, ↓FD.wDGet_e, ↓FD.sDput_e, ↓FD.wDNewK_e, ↓FD.wDNewT_e, ↓FD.wDisp1_e, ↓FD.wIce_e, ↓FD.gSub_e, ↓FD.wCallK_e, ↓FD.t1_e, ↓FD.t2_e, ↓FD.t1w_e, ↓FD.tYesD_e, ↓FD.gDIn_e, ↓FD.gDNin_e, ↓FD.gIndexT_e, ↓FD.gIndex_e, ↓FD.gInt_e, ↓FD.gAbs_e, ↓FD.gMax_e, ↓FD.gMin_e, ↓FD.gDivmod_e, ↓FD.wFz_e, ↓FD.wDGetD_e, ↓FD.t3_e, ↓FD.iZip3D_e, ↓sFor_eq, ↓wLc_eq, ↓wLc2_eq, ↓wDc_eq, ↓look_zero, ↓look_succ, ↓got_so, ↓isB_bl, ↓isI_int, ↓isS_str, ↓isT_tup, ↓isT_ftp, ↓isT_ktp, ↓isT_tp, ↓one_one, ↓two_two, ↓startD_cc, ↓startD_cn, ↓startD_nn, ↓FD.ix_str, ↓FD.ix_tup, ↓ix_ftp, ↓ix_ktp, ↓ix_lst, ↓ix_scr, ↓ix_tp, ↓atI0, ↓atI1, ↓atI2, ↓atI3, ↓FD.eq_str, ↓FD.ne_str, ↓FD.eq_int, ↓FD.ne_int, ↓FD.add_int, ↓FD.sub_int, ↓FD.lt_int, ↓FD.le_int, ↓FD.gt_int, ↓FD.ge_int, ↓FD.add_str, ↓FD.add_lst, ↓FD.add_tup, ↓FD.mul_int, ↓FD.mod_int, ↓FD.fdiv_int, ↓FD.pow_int, ↓isN_non, ↓notN_non, ↓FD.len_str, ↓len_tup, ↓len_ftp, ↓len_ktp, ↓len_lst, ↓len_scr, ↓len_tp, ↓seq_tup, ↓seq_ftp, ↓seq_ktp, ↓seq_lst, ↓seq_scr, ↓seq_tp, ↓in_tup, ↓in_ftp, ↓in_ktp, ↓in_lst, ↓nin_tup, ↓nin_ftp, ↓nin_ktp, ↓nin_lst, ↓FD.in_str, ↓nin_str, ↓isC_one, ↓asL_lst, ↓asL_scr, ↓if_tt, ↓if_ff, ↓isi_ss, ↓isi_tt, ↓isi_st, ↓isi_ts, ↓ty_str, ↓ty_tup, ↓ty_ftp, ↓ty_tp, ↓all_lst, ↓any_lst, ↓flat_s, ↓flat_set, ↓tuple_lst, ↓FD.int_int, ↓eq_ftp_nil, ↓ne_ftp_nil, ↓isNon_non, ↓isNon_int, ↓isNon_str, ↓isNon_ptr, ↓isNon_tup, ↓isNon_ftp, ↓inL_strs, ↓flatSs, ↓inL_sets, ↓flatSets, ↓FM.tw, ↓FM.tw3, ↓FM.sl_str, ↓sl_set, ↓cell_upd, ↓lk_sw, ↓lk_ru, ↓lk_st, ↓lk_place, ↓lk_has, ↓lk_keeps, ↓lk_wrongs, ↓lk_goods, ↓lk_ways_from, ↓lk_text, ↓ins_pan, ↓FD.fit_le, ↓cx_K, ↓nox_K, ↓blk_K, ↓bx_K, ↓c1, ↓c2, ↓c3, ↓c4, ↓inL_cons, ↓inL_nil, ↓all_bools, ↓any_bools, ↓in_tp, ↓nin_tp, ↓FM.sl_ftp, ↓FM.sl_tup, ↓FM.sl_lst, ↓FM.sl_scr, ↓index_eq, ↓ex_ftp, ↓eqd_str, ↓wf_at, ↓isT_cl, ↓isT_st, ↓isT_lit, ↓ix_lit0, ↓ix_lit1, ↓len_lit, ↓ty_lit, ↓eq_lit, ↓ne_lit, ↓eq_set, ↓ne_set, ↓len_set, ↓ty_set, ↓isS_set, ↓isC_sg, ↓sNever_e, ↓enumD_map, ↓dpAll_strs, ↓dpAll_mapI, ↓ne_lst_nil, ↓eq_lst_nil, ↓isT_grp, ↓len_grp, ↓isDc_wf, ↓wn_at, ↓isT_way, ↓len_way, ↓ty_way, ↓ty_st, ↓len_st, ↓ix_st0, ↓ix_st1, ↓inD_lits, ↓ninD_lits, ↓dpAll_sets, ↓three_three, ↓zip3_sets, ↓isT_z3, ↓inL_lock, ↓ninT_lits, ↓FM.tp_t, ↓FM.tp_f, Bool.not_true, Bool.not_false, Bool.false_eq_true, if_false, if_true, true_and, and_true, List.set_cons_zero, List.set_cons_succ, List.length_cons, List.length_nil, List.length_map, eq_self, decide_true, decide_false, Bool.true_eq_false, or_self, Bool.or_self, List.all_cons, List.all_nil, Bool.and_true, Bool.true_and, Bool.or_false, Bool.false_or, Bool.or_true, Bool.true_or, Bool.and_false, Bool.false_and, Int.reduceLT, Int.reduceLE, Int.reduceEq, Nat.reduceLeDiff, Nat.reduceAdd, Nat.reduceLT, wf_some, wn_some, fold_lit, fold_litp, fold_litm, sg_iff, sg_in_pm, isNon_opt, isEmpty_map, ↓reduceIte, nq_0_1, nq_0_2, nq_0_3, nq_0_4, nq_0_5, nq_0_6, nq_0_7, nq_1_0, nq_1_2, nq_1_3, nq_1_4, nq_1_5, nq_1_6, nq_1_7, nq_2_0, nq_2_1, nq_2_3, nq_2_4, nq_2_5, nq_2_6, nq_2_7, nq_3_0, nq_3_1, nq_3_2, nq_3_4, nq_3_5, nq_3_6, nq_3_7, nq_4_0, nq_4_1, nq_4_2, nq_4_3, nq_4_5, nq_4_6, nq_4_7, nq_5_0, nq_5_1, nq_5_2, nq_5_3, nq_5_4, nq_5_6, nq_5_7, nq_6_0, nq_6_1, nq_6_2, nq_6_3, nq_6_4, nq_6_5, nq_6_7, nq_7_0, nq_7_1, nq_7_2, nq_7_3, nq_7_4, nq_7_5, nq_7_6])
section
variable {P : Program} {w : World} {K : PySem.W.Frag} {mg : Str → Option Value} {base : Heap}
theorem sc_check_setting : FnScope ["panel", "value"] ["panel", "value"] (defScope (top 44)) := ⟨rfl, rfl, rfl, by decide +kernel, rfl, by decide +kernel, by decide +kernel⟩
def sp_check_setting (K : PySem.W.Frag) : DSp := fun ds M post => ∃ (fg : Bool) (p : Pan) (t : List Bool), ds = [panF K fg p, setD t] ∧ (t.length = p.ss.length ∧ good p.ss p.rs t = true ∧ post .non M)
theorem cl_check_setting {fg : Bool} {p : Pan} {t : List Bool} {M : Mem} {post : WK} : sp_check_setting K [panF K fg p, setD t] M post = (t.length = p.ss.length ∧ good p.ss p.rs t = true ∧ post .non M) := by
  simp [-Bool.exists_bool, sp_check_setting, tp_inj, litD_inj, strs_inj, ruleD_inj, clD_inj, setD_inj, rules_inj, lits_inj, sets_inj, ints_inj, panF_inj, rngs_inj, rngE_inj, sg_inj, and_assoc, Int.natCast_inj]
local macro_rules | `(tactic| walk_at "check_setting") => `(tactic| simp only [↓cl_is_good_setting, cl_is_good_setting, ↓FD.sSeq_e, ↓FD.sRet_e, ↓FD.sIf_e, ↓FD.sAsg_e, ↓FD.gSet_e, ↓FD.sDrop_e, ↓FD.sNext_e, ↓FD.sPar_e, ↓FD.sPar3_e, ↓FD.wIf_e, ↓FD.wOp_e, ↓FD.wUn_e, ↓FD.wVar_e, ↓FD.wC_e, ↓FD.wTst_e, ↓FD.wAnd_e, ↓FD.wOr_e, ↓FD.wNot_e, ↓FD.wAndV_e, ↓FD.wOrV_e, ↓FD.wNotV_e, ↓FD.wChain_e, ↓FD.aNil_e, ↓FD.aCons_e, ↓FD.wTup_e, ↓FD.wLst_e, ↓FD.wFtp_e, ↓FD.wNew_e, ↓FD.wCall_e, ↓FD.wB_e, ↓FD.wSl_e, ↓FD.oSome_e, ↓FD.oNone_e, ↓FD.wIsi_e, ↓FD.wIsiC_e, ↓FD.p1_e, ↓FD.p2_e, ↓FD.gLen_e, ↓FD.iLst_e, ↓FD.iTup_e, ↓FD.iStrD_e, ↓FD.iEnT_e, ↓FD.iEnL_e, ↓FD.iRng_e, ↓FD.iRng2_e, ↓FD.gTup_e, ↓FD.gsNil_e, ↓FD.gsCons_e, ↓FD.wM_e, ↓FD.wIxT_e, ↓FD.wFld_e, ↓FD.wMeth_e, ↓FD.wMake_e, ↓FD.sFldD_e, ↓FD.wDGet_e, ↓FD.sDput_e, ↓FD.wDNewK_e, ↓FD.wDNewT_e, ↓FD.wDisp1_e, ↓FD.wIce_e, ↓FD.gSub_e, ↓FD.wCallK_e, ↓FD.t1_e, ↓FD.t2_e, ↓FD.t1w_e, ↓FD.tYesD_e, ↓FD.gDIn_e, ↓FD.gDNin_e, ↓FD.gIndexT_e, ↓FD.gIndex_e, ↓FD.gInt_e, ↓FD.gAbs_e, ↓FD.gMax_e, ↓FD.gMin_e, ↓FD.gDivmod_e, ↓FD.wFz_e, ↓FD.wDGetD_e, ↓FD.t3_e, ↓FD.iZip3D_e, ↓sFor_eq, ↓wLc_eq, ↓wLc2_eq, ↓wDc_eq, ↓look_zero, ↓look_succ, ↓got_so, ↓isB_bl, ↓isI_int, ↓isS_str, ↓isT_tup, ↓isT_ftp, ↓isT_ktp, ↓isT_tp, ↓one_one, ↓two_two, ↓startD_cc, ↓startD_cn, ↓startD_nn, ↓FD.ix_str, ↓FD.ix_tup, ↓ix_ftp, ↓ix_ktp, ↓ix_lst, ↓ix_scr, ↓ix_tp, ↓atI0, ↓atI1, ↓atI2, ↓atI3, ↓FD.eq_str, ↓FD.ne_str, ↓FD.eq_int, ↓FD.ne_int, ↓FD.add_int, ↓FD.sub_int, ↓FD.lt_int, ↓FD.le_int, ↓FD.gt_int, ↓FD.ge_int, ↓FD.add_str, ↓FD.add_lst, ↓FD.add_tup, ↓FD.mul_int, ↓FD.mod_int, ↓FD.fdiv_int, ↓FD.pow_int, ↓isN_non, ↓notN_non, ↓FD.len_str, ↓len_tup, ↓len_ftp, ↓len_ktp, ↓len_lst, ↓len_scr, ↓len_tp, ↓seq_tup, ↓seq_ftp, ↓seq_ktp, ↓seq_lst, ↓seq_scr, ↓seq_tp, ↓in_tup, ↓in_ftp, ↓in_ktp, ↓in_lst, ↓nin_tup, ↓nin_ftp, ↓nin_ktp, ↓nin_lst, ↓FD.in_str, ↓nin_str, ↓isC_one, ↓asL_lst, ↓asL_scr, ↓if_tt, ↓if_ff, ↓isi_ss, ↓isi_tt, ↓isi_st, ↓isi_ts, ↓ty_str, ↓ty_tup, ↓ty_ftp, ↓ty_tp, ↓all_lst, ↓any_lst, ↓flat_s, ↓flat_set, ↓tuple_lst, ↓FD.int_int, ↓eq_ftp_nil, ↓ne_ftp_nil, ↓isNon_non, ↓isNon_int, ↓isNon_str, ↓isNon_ptr, ↓isNon_tup, ↓isNon_ftp, ↓inL_strs, ↓flatSs, ↓inL_sets, ↓flatSets, ↓FM.tw, ↓FM.tw3, ↓FM.sl_str, ↓sl_set, ↓cell_upd, ↓lk_sw, ↓lk_ru, ↓lk_st, ↓lk_place, ↓lk_has, ↓lk_keeps, ↓lk_wrongs, ↓lk_goods, ↓lk_ways_from, ↓lk_text, ↓ins_pan, ↓FD.fit_le, ↓cx_K, ↓nox_K, ↓blk_K, ↓bx_K, ↓c1, ↓c2, ↓c3, ↓c4, ↓inL_cons, ↓inL_nil, ↓all_bools, ↓any_bools, ↓in_tp, ↓nin_tp, ↓FM.sl_ftp, ↓FM.sl_tup, ↓FM.sl_lst, ↓FM.sl_scr, ↓index_eq, ↓ex_ftp, ↓eqd_str, ↓wf_at, ↓isT_cl, ↓isT_st, ↓isT_lit, ↓ix_lit0, ↓ix_lit1, ↓len_lit, ↓ty_lit, ↓eq_lit, ↓ne_lit, ↓eq_set, ↓ne_set, ↓len_set, ↓ty_set, ↓isS_set, ↓isC_sg, ↓sNever_e, ↓enumD_map, ↓dpAll_strs, ↓dpAll_mapI, ↓ne_lst_nil, ↓eq_lst_nil, ↓isT_grp, ↓len_grp, ↓isDc_wf, ↓wn_at, ↓isT_way, ↓len_way, ↓ty_way, ↓ty_st, ↓len_st, ↓ix_st0, ↓ix_st1, ↓inD_lits, ↓ninD_lits, ↓dpAll_sets, ↓three_three, ↓zip3_sets, ↓isT_z3, ↓inL_lock, ↓ninT_lits, ↓FM.tp_t, ↓FM.tp_f, Bool.not_true, Bool.not_false, Bool.false_eq_true, if_false, if_true, true_and, and_true, List.set_cons_zero, List.set_cons_succ, List.length_cons, List.length_nil, List.length_map, eq_self, decide_true, decide_false, Bool.true_eq_false, or_self, Bool.or_self, List.all_cons, List.all_nil, Bool.and_true, Bool.true_and, Bool.or_false, Bool.false_or, Bool.or_true, Bool.true_or, Bool.and_false, Bool.false_and, Int.reduceLT, Int.reduceLE, Int.reduceEq, Nat.reduceLeDiff, Nat.reduceAdd, Nat.reduceLT, wf_some, wn_some, fold_lit, fold_litp, fold_litm, sg_iff, sg_in_pm, isNon_opt, isEmpty_map, ↓reduceIte, nq_0_1, nq_0_2, nq_0_3, nq_0_4, nq_0_5, nq_0_6, nq_0_7, nq_1_0, nq_1_2, nq_1_3, nq_1_4, nq_1_5, nq_1_6, nq_1_7, nq_2_0, nq_2_1, nq_2_3, nq_2_4, nq_2_5, nq_2_6, nq_2_7, nq_3_0, nq_3_1, nq_3_2, nq_3_4, nq_3_5, nq_3_6, nq_3_7, nq_4_0, nq_4_1, nq_4_2, nq_4_3, nq_4_5, nq_4_6, nq_4_7, nq_5_0, nq_5_1, nq_5_2, nq_5_3, nq_5_4, nq_5_6, nq_5_7, nq_6_0, nq_6_1, nq_6_2, nq_6_3, nq_6_4, nq_6_5, nq_6_7, nq_7_0, nq_7_1, nq_7_2, nq_7_3, nq_7_4, nq_7_5, nq_7_6])
theorem fn_check_setting (T : Tx P w K mg base) : Fng P w K mg base 7 "check_setting" (top 44) ["panel", "value"] (sp_check_setting K) := by
  have S := sc_check_setting
  refine fng_of T.d_check_setting T.g_check_setting S (fun ds M post h => by unfold sp_check_setting at h; grind) fun f cdv A outer s H gd hr => ⟨_, (ds_one (ds_if (dt_not (dt_val (de_call (ok_is_good_setting T) (hr.mono (by decide)) gd (da_cons (dv 0) (da_cons (dv 1) da_nil)))))
      (ds_one ds_never)
      ds_nil)), ?_⟩
  rintro ds M post ⟨fg, p, t, rfl, h1, h2, h⟩
  (try walk_at "check_setting")
  simp only [h1, h2, decide_true, Bool.true_and]
  (try walk_at "check_setting")
  exact h
theorem ok_check_setting (T : Tx P w K mg base) : Pub P w K mg base 7 "check_setting" ["panel", "value"] (sp_check_setting K) := (fn_check_setting T).pub fun _ _ _ _ _ _ us hl => match us, hl with | [_, _], _ => rfl
theorem sc_check_two : FnScope ["panel", "first", "second"] ["panel", "first", "second"] (defScope (top 45)) := ⟨rfl, rfl, rfl, by decide +kernel, rfl, by decide +kernel, by decide +kernel⟩
def sp_check_two (K : PySem.W.Frag) : DSp := fun ds M post => ∃ (fg : Bool) (p : Pan) (t u : List Bool), ds = [panF K fg p, setD t, setD u] ∧ (t.length = p.ss.length ∧ good p.ss p.rs t = true ∧ u.length = p.ss.length ∧ good p.ss p.rs u = true ∧ post .non M)
theorem cl_check_two {fg : Bool} {p : Pan} {t u : List Bool} {M : Mem} {post : WK} : sp_check_two K [panF K fg p, setD t, setD u] M post = (t.length = p.ss.length ∧ good p.ss p.rs t = true ∧ u.length = p.ss.length ∧ good p.ss p.rs u = true ∧ post .non M) := by
  simp [-Bool.exists_bool, sp_check_two, tp_inj, litD_inj, strs_inj, ruleD_inj, clD_inj, setD_inj, rules_inj, lits_inj, sets_inj, ints_inj, panF_inj, rngs_inj, rngE_inj, sg_inj, and_assoc, Int.natCast_inj]
local macro_rules | `(tactic| walk_at "check_two") => `(tactic| simp only [↓cl_check_panel, cl_check_panel, ↓cl_check_setting, cl_check_setting, ↓FD.sSeq_e, ↓FD.sRet_e, ↓FD.sIf_e, ↓FD.sAsg_e, ↓FD.gSet_e, ↓FD.sDrop_e, ↓FD.sNext_e, ↓FD.sPar_e, ↓FD.sPar3_e, ↓FD.wIf_e, ↓FD.wOp_e, ↓FD.wUn_e, ↓FD.wVar_e, ↓FD.wC_e, ↓FD.wTst_e, ↓FD.wAnd_e, ↓FD.wOr_e, ↓FD.wNot_e, ↓FD.wAndV_e, ↓FD.wOrV_e, ↓FD.wNotV_e, ↓FD.wChain_e, ↓FD.aNil_e, ↓FD.aCons_e, ↓FD.wTup_e, ↓FD.wLst_e, ↓FD.wFtp_e, ↓FD.wNew_e, ↓FD.wCall_e, ↓FD.wB_e, ↓FD.wSl_e, ↓FD.oSome_e, ↓FD.oNone_e, ↓FD.wIsi_e, ↓FD.wIsiC_e, ↓FD.p1_e, ↓FD.p2_e, ↓FD.gLen_e, ↓FD.iLst_e, ↓FD.iTup_e, ↓FD.iStrD_e, ↓FD.iEnT_e, ↓FD.iEnL_e, ↓FD.iRng_e, ↓FD.iRng2_e, ↓FD.gTup_e, ↓FD.gsNil_e, ↓FD.gsCons_e, ↓FD.wM_e, ↓FD.wIxT_e, ↓FD.wFld_e, ↓FD.wMeth_e, ↓FD.wMake_e, ↓FD.sFldD_e, ↓FD.wDGet_e, ↓FD.sDput_e, ↓FD.wDNewK_e, ↓FD.wDNewT_e, ↓FD.wDisp1_e, ↓FD.wIce_e, ↓FD.gSub_e, ↓FD.wCallK_e, ↓FD.t1_e, ↓FD.t2_e, ↓FD.t1w_e, ↓FD.tYesD_e, ↓FD.gDIn_e, ↓FD.gDNin_e, ↓FD.gIndexT_e, ↓FD.gIndex_e, ↓FD.gInt_e, ↓FD.gAbs_e, ↓FD.gMax_e, ↓FD.gMin_e, ↓FD.gDivmod_e, ↓FD.wFz_e, ↓FD.wDGetD_e, ↓FD.t3_e, ↓FD.iZip3D_e, ↓sFor_eq, ↓wLc_eq, ↓wLc2_eq, ↓wDc_eq, ↓look_zero, ↓look_succ, ↓got_so, ↓isB_bl, ↓isI_int, ↓isS_str, ↓isT_tup, ↓isT_ftp, ↓isT_ktp, ↓isT_tp, ↓one_one, ↓two_two, ↓startD_cc, ↓startD_cn, ↓startD_nn, ↓FD.ix_str, ↓FD.ix_tup, ↓ix_ftp, ↓ix_ktp, ↓ix_lst, ↓ix_scr, ↓ix_tp, ↓atI0, ↓atI1, ↓atI2, ↓atI3, ↓FD.eq_str, ↓FD.ne_str, ↓FD.eq_int, ↓FD.ne_int, ↓FD.add_int, ↓FD.sub_int, ↓FD.lt_int, ↓FD.le_int, ↓FD.gt_int, ↓FD.ge_int, ↓FD.add_str, ↓FD.add_lst, ↓FD.add_tup, ↓FD.mul_int, ↓FD.mod_int, ↓FD.fdiv_int, ↓FD.pow_int, ↓isN_non, ↓notN_non, ↓FD.len_str, ↓len_tup, ↓len_ftp, ↓len_ktp, ↓len_lst, ↓len_scr, ↓len_tp, ↓seq_tup, ↓seq_ftp, ↓seq_ktp, ↓seq_lst, ↓seq_scr, ↓seq_tp, ↓in_tup, ↓in_ftp, ↓in_ktp, ↓in_lst, ↓nin_tup, ↓nin_ftp, ↓nin_ktp, ↓nin_lst, ↓FD.in_str, ↓nin_str, ↓isC_one, ↓asL_lst, ↓asL_scr, ↓if_tt, ↓if_ff, ↓isi_ss, ↓isi_tt, ↓isi_st, ↓isi_ts, ↓ty_str, ↓ty_tup, ↓ty_ftp, ↓ty_tp, ↓all_lst, ↓any_lst, ↓flat_s, ↓flat_set, ↓tuple_lst, ↓FD.int_int, ↓eq_ftp_nil, ↓ne_ftp_nil, ↓isNon_non, ↓isNon_int, ↓isNon_str, ↓isNon_ptr, ↓isNon_tup, ↓isNon_ftp, ↓inL_strs, ↓flatSs, ↓inL_sets, ↓flatSets, ↓FM.tw, ↓FM.tw3, ↓FM.sl_str, ↓sl_set, ↓cell_upd, ↓lk_sw, ↓lk_ru, ↓lk_st, ↓lk_place, ↓lk_has, ↓lk_keeps, ↓lk_wrongs, ↓lk_goods, ↓lk_ways_from, ↓lk_text, ↓ins_pan, ↓FD.fit_le, ↓cx_K, ↓nox_K, ↓blk_K, ↓bx_K, ↓c1, ↓c2, ↓c3, ↓c4, ↓inL_cons, ↓inL_nil, ↓all_bools, ↓any_bools, ↓in_tp, ↓nin_tp, ↓FM.sl_ftp, ↓FM.sl_tup, ↓FM.sl_lst, ↓FM.sl_scr, ↓index_eq, ↓ex_ftp, ↓eqd_str, ↓wf_at, ↓isT_cl, ↓isT_st, ↓isT_lit, ↓ix_lit0, ↓ix_lit1, ↓len_lit, ↓ty_lit, ↓eq_lit, ↓ne_lit, ↓eq_set, ↓ne_set, ↓len_set, ↓ty_set, ↓isS_set, ↓isC_sg, ↓sNever_e, ↓enumD_map, ↓dpAll_strs, ↓dpAll_mapI, ↓ne_lst_nil, ↓eq_lst_nil, ↓isT_grp, ↓len_grp, ↓isDc_wf, ↓wn_at, ↓isT_way, ↓len_way, ↓ty_way, ↓ty_st, ↓len_st, ↓ix_st0, ↓ix_st1, ↓inD_lits, ↓ninD_lits, ↓dpAll_sets, ↓three_three, ↓zip3_sets, ↓isT_z3, ↓inL_lock, ↓ninT_lits, ↓FM.tp_t, ↓FM.tp_f, Bool.not_true, Bool.not_false, Bool.false_eq_true, if_false, if_true, true_and, and_true, List.set_cons_zero, List.set_cons_succ, List.length_cons, List.length_nil, List.length_map, eq_self, decide_true, decide_false, Bool.true_eq_false, or_self, Bool.or_self, List.all_cons, List.all_nil, Bool.and_true, Bool.true_and, Bool.or_false, Bool.false_or, Bool.or_true, Bool.true_or, Bool.and_false, Bool.false_and, Int.reduceLT, Int.reduceLE, Int.reduceEq, Nat.reduceLeDiff, Nat.reduceAdd, Nat.reduceLT, wf_some, wn_some, fold_lit, fold_litp, fold_litm, sg_iff, sg_in_pm, isNon_opt, isEmpty_map, ↓reduceIte, nq_0_1, nq_0_2, nq_0_3, nq_0_4, nq_0_5, nq_0_6, nq_0_7, nq_1_0, nq_1_2, nq_1_3, nq_1_4, nq_1_5, nq_1_6, nq_1_7, nq_2_0, nq_2_1, nq_2_3, nq_2_4, nq_2_5, nq_2_6, nq_2_7, nq_3_0, nq_3_1, nq_3_2, nq_3_4, nq_3_5, nq_3_6, nq_3_7, nq_4_0, nq_4_1, nq_4_2, nq_4_3, nq_4_5, nq_4_6, nq_4_7, nq_5_0, nq_5_1, nq_5_2, nq_5_3, nq_5_4, nq_5_6, nq_5_7, nq_6_0, nq_6_1, nq_6_2, nq_6_3, nq_6_4, nq_6_5, nq_6_7, nq_7_0, nq_7_1, nq_7_2, nq_7_3, nq_7_4, nq_7_5, nq_7_6])
theorem fn_check_two (T : Tx P w K mg base) : Fng P w K mg base 8 "check_two" (top 45) ["panel", "first", "second"] (sp_check_two K) := by
  have S := sc_check_two
  refine fng_of T.d_check_two T.g_check_two S (fun ds M post h => by unfold sp_check_two at h; grind) fun f cdv A outer s H gd hr => ⟨_, (ds_cons (ds_expr (de_call (ok_check_panel T) (hr.mono (by decide)) gd (da_cons (dv 0) da_nil)))
      (ds_cons (ds_expr (de_call (ok_check_setting T) (hr.mono (by decide)) gd (da_cons (dv 0) (da_cons (dv 1) da_nil))))
      (ds_one (ds_expr (de_call (ok_check_setting T) (hr.mono (by decide)) gd (da_cons (dv 0) (da_cons (dv 2) da_nil))))))), ?_⟩
  rintro ds M post ⟨fg, p, t, u, rfl, h1, h2, h3, h4, h⟩
  (try walk_at "check_two")
  exact ⟨h1, h2, h3, h4, h⟩
theorem ok_check_two (T : Tx P w K mg base) : Pub P w K mg base 8 "check_two" ["panel", "first", "second"] (sp_check_two K) := (fn_check_two T).pub fun _ _ _ _ _ _ us hl => match us, hl with | [_, _, _], _ => rfl
theorem sc_has_good : FnScope ["panel", "literal", "far"] ["panel"] (defScope (top 48)) := ⟨rfl, rfl, rfl, by decide +kernel, rfl, by decide +kernel, by decide +kernel⟩
def sp_has_good (K : PySem.W.Frag) : DSp := fun ds M post => ∃ (fg : Bool) (p : Pan), ds = [panF K fg p] ∧ post (.bl (hasGood p.ss p.rs)) M
theorem cl_has_good {fg : Bool} {p : Pan} {M : Mem} {post : WK} : sp_has_good K [panF K fg p] M post = post (.bl (hasGood p.ss p.rs)) M := by
  simp [-Bool.exists_bool, sp_has_good, tp_inj, litD_inj, strs_inj, ruleD_inj, clD_inj, setD_inj, rules_inj, lits_inj, sets_inj, ints_inj, panF_inj, rngs_inj, rngE_inj, sg_inj, and_assoc, Int.natCast_inj]
local macro_rules | `(tactic| walk_at "has_good") => `(tactic| simp only [↓cl_literals_of, cl_literals_of, ↓cl_opposite, cl_opposite, ↓cl_Panel_ways_from, cl_Panel_ways_from, ↓FD.sSeq_e, ↓FD.sRet_e, ↓FD.sIf_e, ↓FD.sAsg_e, ↓FD.gSet_e, ↓FD.sDrop_e, ↓FD.sNext_e, ↓FD.sPar_e, ↓FD.sPar3_e, ↓FD.wIf_e, ↓FD.wOp_e, ↓FD.wUn_e, ↓FD.wVar_e, ↓FD.wC_e, ↓FD.wTst_e, ↓FD.wAnd_e, ↓FD.wOr_e, ↓FD.wNot_e, ↓FD.wAndV_e, ↓FD.wOrV_e, ↓FD.wNotV_e, ↓FD.wChain_e, ↓FD.aNil_e, ↓FD.aCons_e, ↓FD.wTup_e, ↓FD.wLst_e, ↓FD.wFtp_e, ↓FD.wNew_e, ↓FD.wCall_e, ↓FD.wB_e, ↓FD.wSl_e, ↓FD.oSome_e, ↓FD.oNone_e, ↓FD.wIsi_e, ↓FD.wIsiC_e, ↓FD.p1_e, ↓FD.p2_e, ↓FD.gLen_e, ↓FD.iLst_e, ↓FD.iTup_e, ↓FD.iStrD_e, ↓FD.iEnT_e, ↓FD.iEnL_e, ↓FD.iRng_e, ↓FD.iRng2_e, ↓FD.gTup_e, ↓FD.gsNil_e, ↓FD.gsCons_e, ↓FD.wM_e, ↓FD.wIxT_e, ↓FD.wFld_e, ↓FD.wMeth_e, ↓FD.wMake_e, ↓FD.sFldD_e, ↓FD.wDGet_e, ↓FD.sDput_e, ↓FD.wDNewK_e, ↓FD.wDNewT_e, ↓FD.wDisp1_e, ↓FD.wIce_e, ↓FD.gSub_e, ↓FD.wCallK_e, ↓FD.t1_e, ↓FD.t2_e, ↓FD.t1w_e, ↓FD.tYesD_e, ↓FD.gDIn_e, ↓FD.gDNin_e, ↓FD.gIndexT_e, ↓FD.gIndex_e, ↓FD.gInt_e, ↓FD.gAbs_e, ↓FD.gMax_e, ↓FD.gMin_e, ↓FD.gDivmod_e, ↓FD.wFz_e, ↓FD.wDGetD_e, ↓FD.t3_e, ↓FD.iZip3D_e, ↓sFor_eq, ↓wLc_eq, ↓wLc2_eq, ↓wDc_eq, ↓look_zero, ↓look_succ, ↓got_so, ↓isB_bl, ↓isI_int, ↓isS_str, ↓isT_tup, ↓isT_ftp, ↓isT_ktp, ↓isT_tp, ↓one_one, ↓two_two, ↓startD_cc, ↓startD_cn, ↓startD_nn, ↓FD.ix_str, ↓FD.ix_tup, ↓ix_ftp, ↓ix_ktp, ↓ix_lst, ↓ix_scr, ↓ix_tp, ↓atI0, ↓atI1, ↓atI2, ↓atI3, ↓FD.eq_str, ↓FD.ne_str, ↓FD.eq_int, ↓FD.ne_int, ↓FD.add_int, ↓FD.sub_int, ↓FD.lt_int, ↓FD.le_int, ↓FD.gt_int, ↓FD.ge_int, ↓FD.add_str, ↓FD.add_lst, ↓FD.add_tup, ↓FD.mul_int, ↓FD.mod_int, ↓FD.fdiv_int, ↓FD.pow_int, ↓isN_non, ↓notN_non, ↓FD.len_str, ↓len_tup, ↓len_ftp, ↓len_ktp, ↓len_lst, ↓len_scr, ↓len_tp, ↓seq_tup, ↓seq_ftp, ↓seq_ktp, ↓seq_lst, ↓seq_scr, ↓seq_tp, ↓in_tup, ↓in_ftp, ↓in_ktp, ↓in_lst, ↓nin_tup, ↓nin_ftp, ↓nin_ktp, ↓nin_lst, ↓FD.in_str, ↓nin_str, ↓isC_one, ↓asL_lst, ↓asL_scr, ↓if_tt, ↓if_ff, ↓isi_ss, ↓isi_tt, ↓isi_st, ↓isi_ts, ↓ty_str, ↓ty_tup, ↓ty_ftp, ↓ty_tp, ↓all_lst, ↓any_lst, ↓flat_s, ↓flat_set, ↓tuple_lst, ↓FD.int_int, ↓eq_ftp_nil, ↓ne_ftp_nil, ↓isNon_non, ↓isNon_int, ↓isNon_str, ↓isNon_ptr, ↓isNon_tup, ↓isNon_ftp, ↓inL_strs, ↓flatSs, ↓inL_sets, ↓flatSets, ↓FM.tw, ↓FM.tw3, ↓FM.sl_str, ↓sl_set, ↓cell_upd, ↓lk_sw, ↓lk_ru, ↓lk_st, ↓lk_place, ↓lk_has, ↓lk_keeps, ↓lk_wrongs, ↓lk_goods, ↓lk_ways_from, ↓lk_text, ↓ins_pan, ↓FD.fit_le, ↓cx_K, ↓nox_K, ↓blk_K, ↓bx_K, ↓c1, ↓c2, ↓c3, ↓c4, ↓inL_cons, ↓inL_nil, ↓all_bools, ↓any_bools, ↓in_tp, ↓nin_tp, ↓FM.sl_ftp, ↓FM.sl_tup, ↓FM.sl_lst, ↓FM.sl_scr, ↓index_eq, ↓ex_ftp, ↓eqd_str, ↓wf_at, ↓isT_cl, ↓isT_st, ↓isT_lit, ↓ix_lit0, ↓ix_lit1, ↓len_lit, ↓ty_lit, ↓eq_lit, ↓ne_lit, ↓eq_set, ↓ne_set, ↓len_set, ↓ty_set, ↓isS_set, ↓isC_sg, ↓sNever_e, ↓enumD_map, ↓dpAll_strs, ↓dpAll_mapI, ↓ne_lst_nil, ↓eq_lst_nil, ↓isT_grp, ↓len_grp, ↓isDc_wf, ↓wn_at, ↓isT_way, ↓len_way, ↓ty_way, ↓ty_st, ↓len_st, ↓ix_st0, ↓ix_st1, ↓inD_lits, ↓ninD_lits, ↓dpAll_sets, ↓three_three, ↓zip3_sets, ↓isT_z3, ↓inL_lock, ↓ninT_lits, ↓FM.tp_t, ↓FM.tp_f, Bool.not_true, Bool.not_false, Bool.false_eq_true, if_false, if_true, true_and, and_true, List.set_cons_zero, List.set_cons_succ, List.length_cons, List.length_nil, List.length_map, eq_self, decide_true, decide_false, Bool.true_eq_false, or_self, Bool.or_self, List.all_cons, List.all_nil, Bool.and_true, Bool.true_and, Bool.or_false, Bool.false_or, Bool.or_true, Bool.true_or, Bool.and_false, Bool.false_and, Int.reduceLT, Int.reduceLE, Int.reduceEq, Nat.reduceLeDiff, Nat.reduceAdd, Nat.reduceLT, wf_some, wn_some, fold_lit, fold_litp, fold_litm, sg_iff, sg_in_pm, isNon_opt, isEmpty_map, ↓reduceIte, nq_0_1, nq_0_2, nq_0_3, nq_0_4, nq_0_5, nq_0_6, nq_0_7, nq_1_0, nq_1_2, nq_1_3, nq_1_4, nq_1_5, nq_1_6, nq_1_7, nq_2_0, nq_2_1, nq_2_3, nq_2_4, nq_2_5, nq_2_6, nq_2_7, nq_3_0, nq_3_1, nq_3_2, nq_3_4, nq_3_5, nq_3_6, nq_3_7, nq_4_0, nq_4_1, nq_4_2, nq_4_3, nq_4_5, nq_4_6, nq_4_7, nq_5_0, nq_5_1, nq_5_2, nq_5_3, nq_5_4, nq_5_6, nq_5_7, nq_6_0, nq_6_1, nq_6_2, nq_6_3, nq_6_4, nq_6_5, nq_6_7, nq_7_0, nq_7_1, nq_7_2, nq_7_3, nq_7_4, nq_7_5, nq_7_6])
theorem fn_has_good (T : Tx P w K mg base) : Fng P w K mg base 3 "has_good" (top 48) ["panel"] (sp_has_good K) := by
  have S := sc_has_good
  refine fng_of T.d_has_good T.g_has_good S (fun ds M post h => by unfold sp_has_good at h; grind) fun f cdv A outer s H gd hr => ⟨_, (ds_cons (ds_for PassesOwn.never rfl (di_list (de_call (ok_literals_of T) (hr.mono (by decide)) gd (da_cons (de_fld T.c_Panel T.n_Panel_switches (dv 0)) da_nil))) (dg_name (i := 1) S.nd)
      (ds_cons (ds_set (i := 2) S.nd (de_call (ok_opposite T) (hr.mono (by decide)) gd (da_cons (dv 1) da_nil)))
      (ds_one (ds_if (PW.pt (dw_and (dt_cmp (o_din hr) (dv 2) (de_meth T.c_Panel (ok_Panel_ways_from T) (hr.mono (by decide)) gd (dv 0) (da_cons (dv 1) da_nil))) (dw_and1 (dt_cmp (o_din hr) (dv 1) (de_meth T.c_Panel (ok_Panel_ways_from T) (hr.mono (by decide)) gd (dv 0) (da_cons (dv 2) da_nil))))))
      (ds_one (ds_ret dbl))
      ds_nil))))
      (ds_one (ds_ret dbl))), ?_⟩
  rintro ds M post ⟨fg, p, rfl, h⟩
  have l10 := p.sw.2.1
  (try walk_at "has_good")
  refine ⟨by omega, ?_⟩
  refine for_find (lits p.ss) litD (fun a => inW p.ss p.rs a a.op && inW p.ss p.rs a.op a) (fun Γ' M' => ∃ x y, Γ' = [some (panF K fg p), x, y] ∧ M' = M) ⟨_, _, rfl, rfl⟩ (fun _ _ _ => trivial) ?_ ?_
  · rintro a hx Γ' M' ⟨x, y, rfl, rfl⟩ N
    have ha := mem_lits.mp hx
    refine ⟨fun hc hf => ?_, fun hc hN => ?_⟩
    · have e : hasGood p.ss p.rs = false := by
        unfold hasGood
        rw [Bool.not_eq_false', List.any_eq_true]
        exact ⟨a, hx, hc⟩
      rw [e] at h
      rw [Bool.and_eq_true] at hc
      (try walk_at "has_good")
      simp only [hc.1, hc.2]
      (try walk_at "has_good")
      exact ⟨ha, ha, h⟩
    · (try walk_at "has_good")
      refine ⟨ha, ?_⟩
      cases h1 : inW p.ss p.rs a a.op with
      | false => (try walk_at "has_good"); exact hN _ _ ⟨_, _, rfl, rfl⟩
      | true =>
        rw [h1, Bool.true_and] at hc
        rw [hc]
        (try walk_at "has_good")
        exact ⟨ha, hN _ _ ⟨_, _, rfl, rfl⟩⟩
  · rintro hf Γ' M' ⟨x, y, rfl, rfl⟩
    have e : hasGood p.ss p.rs = true := by
      unfold hasGood
      rw [Bool.not_eq_true', List.any_eq_false]
      exact fun a ha => List.find?_eq_none.mp hf a ha
    rw [e] at h
    (try walk_at "has_good")
    exact h
theorem ok_has_good (T : Tx P w K mg base) : Pub P w K mg base 3 "has_good" ["panel"] (sp_has_good K) := (fn_has_good T).pub fun _ _ _ _ _ _ us hl => match us, hl with | [_], _ => rfl
theorem sc_fixed_literals : FnScope ["panel", "literal"] ["panel"] (defScope (top 53)) := ⟨rfl, rfl, rfl, by decide +kernel, rfl, by decide +kernel, by decide +kernel⟩
def sp_fixed_literals (K : PySem.W.Frag) : DSp := fun ds M post => ∃ (fg : Bool) (p : Pan), ds = [panF K fg p] ∧ post (.lst ((fixedL p.ss p.rs).map litD)) M
theorem cl_fixed_literals {fg : Bool} {p : Pan} {M : Mem} {post : WK} : sp_fixed_literals K [panF K fg p] M post = post (.lst ((fixedL p.ss p.rs).map litD)) M := by
  simp [-Bool.exists_bool, sp_fixed_literals, tp_inj, litD_inj, strs_inj, ruleD_inj, clD_inj, setD_inj, rules_inj, lits_inj, sets_inj, ints_inj, panF_inj, rngs_inj, rngE_inj, sg_inj, and_assoc, Int.natCast_inj]
local macro_rules | `(tactic| walk_at "fixed_literals") => `(tactic| simp only [↓cl_literals_of, cl_literals_of, ↓cl_opposite, cl_opposite, ↓cl_Panel_ways_from, cl_Panel_ways_from, ↓FD.sSeq_e, ↓FD.sRet_e, ↓FD.sIf_e, ↓FD.sAsg_e, ↓FD.gSet_e, ↓FD.sDrop_e, ↓FD.sNext_e, ↓FD.sPar_e, ↓FD.sPar3_e, ↓FD.wIf_e, ↓FD.wOp_e, ↓FD.wUn_e, ↓FD.wVar_e, ↓FD.wC_e, ↓FD.wTst_e, ↓FD.wAnd_e, ↓FD.wOr_e, ↓FD.wNot_e, ↓FD.wAndV_e, ↓FD.wOrV_e, ↓FD.wNotV_e, ↓FD.wChain_e, ↓FD.aNil_e, ↓FD.aCons_e, ↓FD.wTup_e, ↓FD.wLst_e, ↓FD.wFtp_e, ↓FD.wNew_e, ↓FD.wCall_e, ↓FD.wB_e, ↓FD.wSl_e, ↓FD.oSome_e, ↓FD.oNone_e, ↓FD.wIsi_e, ↓FD.wIsiC_e, ↓FD.p1_e, ↓FD.p2_e, ↓FD.gLen_e, ↓FD.iLst_e, ↓FD.iTup_e, ↓FD.iStrD_e, ↓FD.iEnT_e, ↓FD.iEnL_e, ↓FD.iRng_e, ↓FD.iRng2_e, ↓FD.gTup_e, ↓FD.gsNil_e, ↓FD.gsCons_e, ↓FD.wM_e, ↓FD.wIxT_e, ↓FD.wFld_e, ↓FD.wMeth_e, ↓FD.wMake_e, ↓FD.sFldD_e, ↓FD.wDGet_e, ↓FD.sDput_e, ↓FD.wDNewK_e, ↓FD.wDNewT_e, ↓FD.wDisp1_e, ↓FD.wIce_e, ↓FD.gSub_e, ↓FD.wCallK_e, ↓FD.t1_e, ↓FD.t2_e, ↓FD.t1w_e, ↓FD.tYesD_e, ↓FD.gDIn_e, ↓FD.gDNin_e, ↓FD.gIndexT_e, ↓FD.gIndex_e, ↓FD.gInt_e, ↓FD.gAbs_e, ↓FD.gMax_e, ↓FD.gMin_e, ↓FD.gDivmod_e, ↓FD.wFz_e, ↓FD.wDGetD_e, ↓FD.t3_e, ↓FD.iZip3D_e, ↓sFor_eq, ↓wLc_eq, ↓wLc2_eq, ↓wDc_eq, ↓look_zero, ↓look_succ, ↓got_so, ↓isB_bl, ↓isI_int, ↓isS_str, ↓isT_tup, ↓isT_ftp, ↓isT_ktp, ↓isT_tp, ↓one_one, ↓two_two, ↓startD_cc, ↓startD_cn, ↓startD_nn, ↓FD.ix_str, ↓FD.ix_tup, ↓ix_ftp, ↓ix_ktp, ↓ix_lst, ↓ix_scr, ↓ix_tp, ↓atI0, ↓atI1, ↓atI2, ↓atI3, ↓FD.eq_str, ↓FD.ne_str, ↓FD.eq_int, ↓FD.ne_int, ↓FD.add_int, ↓FD.sub_int, ↓FD.lt_int, ↓FD.le_int, ↓FD.gt_int, ↓FD.ge_int, ↓FD.add_str, ↓FD.add_lst, ↓FD.add_tup, ↓FD.mul_int, ↓FD.mod_int, ↓FD.fdiv_int, ↓FD.pow_int, ↓isN_non, ↓notN_non, ↓FD.len_str, ↓len_tup, ↓len_ftp, ↓len_ktp, ↓len_lst, ↓len_scr, ↓len_tp, ↓seq_tup, ↓seq_ftp, ↓seq_ktp, ↓seq_lst, ↓seq_scr, ↓seq_tp, ↓in_tup, ↓in_ftp, ↓in_ktp, ↓in_lst, ↓nin_tup, ↓nin_ftp, ↓nin_ktp, ↓nin_lst, ↓FD.in_str, ↓nin_str, ↓isC_one, ↓asL_lst, ↓asL_scr, ↓if_tt, ↓if_ff, ↓isi_ss, ↓isi_tt, ↓isi_st, ↓isi_ts, ↓ty_str, ↓ty_tup, ↓ty_ftp, ↓ty_tp, ↓all_lst, ↓any_lst, ↓flat_s, ↓flat_set, ↓tuple_lst, ↓FD.int_int, ↓eq_ftp_nil, ↓ne_ftp_nil, ↓isNon_non, ↓isNon_int, ↓isNon_str, ↓isNon_ptr, ↓isNon_tup, ↓isNon_ftp, ↓inL_strs, ↓flatSs, ↓inL_sets, ↓flatSets, ↓FM.tw, ↓FM.tw3, ↓FM.sl_str, ↓sl_set, ↓cell_upd, ↓lk_sw, ↓lk_ru, ↓lk_st, ↓lk_place, ↓lk_has, ↓lk_keeps, ↓lk_wrongs, ↓lk_goods, ↓lk_ways_from, ↓lk_text, ↓ins_pan, ↓FD.fit_le, ↓cx_K, ↓nox_K, ↓blk_K, ↓bx_K, ↓c1, ↓c2, ↓c3, ↓c4, ↓inL_cons, ↓inL_nil, ↓all_bools, ↓any_bools, ↓in_tp, ↓nin_tp, ↓FM.sl_ftp, ↓FM.sl_tup, ↓FM.sl_lst, ↓FM.sl_scr, ↓index_eq, ↓ex_ftp, ↓eqd_str, ↓wf_at, ↓isT_cl, ↓isT_st, ↓isT_lit, ↓ix_lit0, ↓ix_lit1, ↓len_lit, ↓ty_lit, ↓eq_lit, ↓ne_lit, ↓eq_set, ↓ne_set, ↓len_set, ↓ty_set, ↓isS_set, ↓isC_sg, ↓sNever_e, ↓enumD_map, ↓dpAll_strs, ↓dpAll_mapI, ↓ne_lst_nil, ↓eq_lst_nil, ↓isT_grp, ↓len_grp, ↓isDc_wf, ↓wn_at, ↓isT_way, ↓len_way, ↓ty_way, ↓ty_st, ↓len_st, ↓ix_st0, ↓ix_st1, ↓inD_lits, ↓ninD_lits, ↓dpAll_sets, ↓three_three, ↓zip3_sets, ↓isT_z3, ↓inL_lock, ↓ninT_lits, ↓FM.tp_t, ↓FM.tp_f, Bool.not_true, Bool.not_false, Bool.false_eq_true, if_false, if_true, true_and, and_true, List.set_cons_zero, List.set_cons_succ, List.length_cons, List.length_nil, List.length_map, eq_self, decide_true, decide_false, Bool.true_eq_false, or_self, Bool.or_self, List.all_cons, List.all_nil, Bool.and_true, Bool.true_and, Bool.or_false, Bool.false_or, Bool.or_true, Bool.true_or, Bool.and_false, Bool.false_and, Int.reduceLT, Int.reduceLE, Int.reduceEq, Nat.reduceLeDiff, Nat.reduceAdd, Nat.reduceLT, wf_some, wn_some, fold_lit, fold_litp, fold_litm, sg_iff, sg_in_pm, isNon_opt, isEmpty_map, ↓reduceIte, nq_0_1, nq_0_2, nq_0_3, nq_0_4, nq_0_5, nq_0_6, nq_0_7, nq_1_0, nq_1_2, nq_1_3, nq_1_4, nq_1_5, nq_1_6, nq_1_7, nq_2_0, nq_2_1, nq_2_3, nq_2_4, nq_2_5, nq_2_6, nq_2_7, nq_3_0, nq_3_1, nq_3_2, nq_3_4, nq_3_5, nq_3_6, nq_3_7, nq_4_0, nq_4_1, nq_4_2, nq_4_3, nq_4_5, nq_4_6, nq_4_7, nq_5_0, nq_5_1, nq_5_2, nq_5_3, nq_5_4, nq_5_6, nq_5_7, nq_6_0, nq_6_1, nq_6_2, nq_6_3, nq_6_4, nq_6_5, nq_6_7, nq_7_0, nq_7_1, nq_7_2, nq_7_3, nq_7_4, nq_7_5, nq_7_6])
theorem fn_fixed_literals (T : Tx P w K mg base) : Fng P w K mg base 3 "fixed_literals" (top 53) ["panel"] (sp_fixed_literals K) := by
  have S := sc_fixed_literals
  refine fng_of T.d_fixed_literals T.g_fixed_literals S (fun ds M post h => by unfold sp_fixed_literals at h; grind) fun f cdv A outer s H gd hr => ⟨_, (ds_one (ds_ret (de_lc (own := [("literal", 1)]) rfl S.nd (di_list (de_call (ok_literals_of T) (hr.mono (by decide)) gd (da_cons (de_fld T.c_Panel T.n_Panel_switches (dv 0)) da_nil))) (blkOk_by (N := ["panel", "literal"]) (sc := defScope (top 53)) (by decide +kernel)) tgt1 (fun _ _ _ _ _ => pg_name (i := 1) S.nd rfl (Or.inl rfl)) (fun _ _ _ _ _ => (dts_one (dt_cmp (o_din hr) (dv 1) (de_meth T.c_Panel (ok_Panel_ways_from T) (hr.mono (by decide)) gd (dv 0) (da_cons (de_call (ok_opposite T) (hr.mono (by decide)) gd (da_cons (dv 1) da_nil)) da_nil))))) (fun _ _ _ _ _ => (dv 1))))), ?_⟩
  rintro ds M post ⟨fg, p, rfl, h⟩
  have l10 := p.sw.2.1
  (try walk_at "fixed_literals")
  refine ⟨by omega, ?_⟩
  refine lc_pure (lits p.ss) litD (fun a => inW p.ss p.rs a.op a) litD trivial ?_ h
  intro a hx yes no hy hn
  have ha := mem_lits.mp hx
  (try walk_at "fixed_literals")
  refine ⟨ha, ?_⟩
  cases h1 : inW p.ss p.rs a.op a with
  | true => (try walk_at "fixed_literals"); exact hy h1
  | false => (try walk_at "fixed_literals"); exact hn h1
theorem ok_fixed_literals (T : Tx P w K mg base) : Pub P w K mg base 3 "fixed_literals" ["panel"] (sp_fixed_literals K) := (fn_fixed_literals T).pub fun _ _ _ _ _ _ us hl => match us, hl with | [_], _ => rfl
end
end LW

namespace LW
open PySem PySem.Spec PyProof.Rows L2 FD FM
local macro_rules | `(tactic| walk_at "w") => `(tactic| simp only [↓FD.sSeq_e, ↓FD.sRet_e, ↓FD.sIf_e, ↓FD.sAsg_e, ↓FD.gSet_e, ↓FD.sDrop_e, ↓FD.sNext_e, ↓FD.sPar_e, ↓FD.sPar3_e, ↓FD.wIf_e, ↓FD.wOp_e, ↓FD.wUn_e, ↓FD.wVar_e, ↓FD.wC_e, ↓FD.wTst_e, ↓FD.wAnd_e, ↓FD.wOr_e, ↓FD.wNot_e, ↓FD.wAndV_e, ↓FD.wOrV_e, ↓FD.wNotV_e, ↓FD.wChain_e, ↓FD.aNil_e, ↓FD.aCons_e, ↓FD.wTup_e, ↓FD.wLst_e, ↓FD.wFtp_e, ↓FD.wNew_e, ↓FD.wCall_e, ↓FD.wB_e, ↓FD.wSl_e, ↓FD.oSome_e, ↓FD.oNone_e, ↓FD.wIsi_e, ↓FD.wIsiC_e, ↓FD.p1_e, ↓FD.p2_e, ↓FD.gLen_e, ↓FD.iLst_e, ↓FD.iTup_e, ↓FD.iStrD_e, ↓FD.iEnT_e, ↓FD.iEnL_e, ↓FD.iRng_e, ↓FD.iRng2_e, ↓FD.gTup_e, ↓FD.gsNil_e, ↓FD.gsCons_e, ↓FD.wM_e, ↓FD.wIxT_e, ↓FD.wFld_e, ↓FD.wMeth_e, ↓FD.wMake_e, ↓FD.sFldD_e, ↓FD.wDGet_e, ↓FD.sDput_e, ↓FD.wDNewK_e, ↓FD.wDNewT_e, ↓FD.wDisp1_e, ↓FD.wIce_e, ↓FD.gSub_e, ↓FD.wCallK_e, ↓FD.t1_e, ↓FD.t2_e, ↓FD.t1w_e, ↓FD.tYesD_e, ↓FD.gDIn_e, ↓FD.gDNin_e, ↓FD.gIndexT_e, ↓FD.gIndex_e, ↓FD.gInt_e, ↓FD.gAbs_e, ↓FD.gMax_e, ↓FD.gMin_e, ↓FD.gDivmod_e, ↓FD.wFz_e, ↓FD.wDGetD_e, ↓FD.t3_e, ↓FD.iZip3D_e, ↓sFor_eq, ↓wLc_eq, ↓wLc2_eq, ↓wDc_eq, ↓look_zero, ↓look_succ, ↓got_so, ↓isB_bl, ↓isI_int, ↓isS_str, ↓isT_tup, ↓isT_ftp, ↓isT_ktp, ↓isT_tp, ↓one_one, ↓two_two, ↓startD_cc, ↓startD_cn, ↓startD_nn, ↓FD.ix_str, ↓FD.ix_tup, ↓ix_ftp, ↓ix_ktp, ↓ix_lst, ↓ix_scr, ↓ix_tp, ↓atI0, ↓atI1, ↓atI2, ↓atI3, ↓FD.eq_str, ↓FD.ne_str, ↓FD.eq_int, ↓FD.ne_int, ↓FD.add_int, ↓FD.sub_int, ↓FD.lt_int, ↓FD.le_int, ↓FD.gt_int, ↓FD.ge_int, ↓FD.add_str, ↓FD.add_lst, ↓FD.add_tup, ↓FD.mul_int, ↓FD.mod_int, ↓FD.fdiv_int, ↓FD.pow_int, ↓isN_non, ↓notN_non, ↓FD.len_str, ↓len_tup, ↓len_ftp, ↓len_ktp, ↓len_lst, ↓len_scr, ↓len_tp, ↓seq_tup, ↓seq_ftp, ↓seq_ktp, ↓seq_lst, ↓seq_scr, ↓seq_tp, ↓in_tup, ↓in_ftp, ↓in_ktp, ↓in_lst, ↓nin_tup, ↓nin_ftp, ↓nin_ktp, ↓nin_lst, ↓FD.in_str, ↓nin_str, ↓isC_one, ↓asL_lst, ↓asL_scr, ↓if_tt, ↓if_ff, ↓isi_ss, ↓isi_tt, ↓isi_st, ↓isi_ts, ↓ty_str, ↓ty_tup, ↓ty_ftp, ↓ty_tp, ↓all_lst, ↓any_lst, ↓flat_s, ↓flat_set, ↓tuple_lst, ↓FD.int_int, ↓eq_ftp_nil, ↓ne_ftp_nil, ↓isNon_non, ↓isNon_int, ↓isNon_str, ↓isNon_ptr, ↓isNon_tup, ↓isNon_ftp, ↓inL_strs, ↓flatSs, ↓inL_sets, ↓flatSets, ↓FM.tw, ↓FM.tw3, ↓FM.sl_str, ↓sl_set, ↓cell_upd, ↓lk_sw, ↓lk_ru, ↓lk_st, ↓lk_place, ↓lk_has, ↓lk_keeps, ↓lk_wrongs, ↓lk_goods, ↓lk_ways_from, ↓lk_text, ↓ins_pan, ↓FD.fit_le, ↓cx_K, ↓nox_K, ↓blk_K, ↓bx_K, ↓c1, ↓c2, ↓c3, ↓c4, ↓inL_cons, ↓inL_nil, ↓all_bools, ↓any_bools, ↓in_tp, ↓nin_tp, ↓FM.sl_ftp, ↓FM.sl_tup, ↓FM.sl_lst, ↓FM.sl_scr, ↓index_eq, ↓ex_ftp, ↓eqd_str, ↓wf_at, ↓isT_cl, ↓isT_st, ↓isT_lit, ↓ix_lit0, ↓ix_lit1, ↓len_lit, ↓ty_lit, ↓eq_lit, ↓ne_lit, ↓eq_set, ↓ne_set, ↓len_set, ↓ty_set, ↓isS_set, ↓isC_sg, ↓sNever_e, ↓enumD_map, ↓dpAll_strs, ↓dpAll_mapI, ↓ne_lst_nil, ↓eq_lst_nil, ↓isT_grp, ↓len_grp, ↓isDc_wf, ↓wn_at, ↓isT_way, ↓len_way, ↓ty_way, ↓ty_st, ↓len_st, ↓ix_st0, ↓ix_st1, ↓inD_lits, ↓ninD_lits, ↓dpAll_sets, ↓three_three, ↓zip3_sets, ↓isT_z3, ↓inL_lock, ↓ninT_lits, ↓FM.tp_t, ↓FM.tp_f, Bool.not_true, Bool.not_false, Bool.false_eq_true, if_false, if_true, true_and, and_true, List.set_cons_zero, List.set_cons_succ, List.length_cons, List.length_nil, List.length_map, eq_self, decide_true, decide_false, Bool.true_eq_false, or_self, Bool.or_self, List.all_cons, List.all_nil, Bool.and_true, Bool.true_and, Bool.or_false, Bool.false_or, Bool.or_true, Bool.true_or, Bool.and_false, Bool.false_and, Int.reduceLT, Int.reduceLE, Int.reduceEq, Nat.reduceLeDiff, Nat.reduceAdd, Nat.reduceLT, wf_some, wn_some, fold_lit, fold_litp, fold_litm, sg_iff, sg_in_pm, isNon_opt, isEmpty_map, ↓reduceIte, nq_0_1, nq_0_2, nq_0_3, nq_0_4, nq_0_5, nq_0_6, nq_0_7, nq_1_0, nq_1_2, nq_1_3, nq_1_4, nq_1_5, nq_1_6, nq_1_7, nq_2_0, nq_2_1, nq_2_3, nq_2_4, nq_2_5, nq_2_6, nq_2_7, nq_3_0, nq_3_1, nq_3_2, nq_3_4, nq_3_5, nq_3_6, nq_3_7, nq_4_0, nq_4_1, nq_4_2, nq_4_3, nq_4_5, nq_4_6, nq_4_7, nq_5_0, nq_5_1, nq_5_2, nq_5_3, nq_5_4, nq_5_6, nq_5_7, nq_6_0, nq_6_1, nq_6_2, nq_6_3, nq_6_4, nq_6_5, nq_6_7, nq_7_0, nq_7_1, nq_7_2, nq_7_3, nq_7_4, nq_7_5, nq_7_6])
section
variable {P : Program} {w : World} {K : PySem.W.Frag} {mg : Str → Option Value} {base : Heap}
theorem sc_group_of : FnScope ["panel", "literal", "known", "each"] ["panel", "literal"] (defScope (top 54)) := ⟨rfl, rfl, rfl, by decide +kernel, rfl, by decide +kernel, by decide +kernel⟩
def sp_group_of (K : PySem.W.Frag) : DSp := fun ds M post => ∃ (fg : Bool) (p : Pan) (a : Lit), ds = [panF K fg p, litD a] ∧ (a.n ∈ p.ss ∧ post (grpD (groupL p.ss p.rs a)) M)
theorem cl_group_of {fg : Bool} {p : Pan} {a : Lit} {M : Mem} {post : WK} : sp_group_of K [panF K fg p, litD a] M post = (a.n ∈ p.ss ∧ post (grpD (groupL p.ss p.rs a)) M) := by
  simp [-Bool.exists_bool, sp_group_of, tp_inj, litD_inj, strs_inj, ruleD_inj, clD_inj, setD_inj, rules_inj, lits_inj, sets_inj, ints_inj, panF_inj, rngs_inj, rngE_inj, sg_inj, and_assoc, Int.natCast_inj]
local macro_rules | `(tactic| walk_at "group_of") => `(tactic| simp only [↓cl_literals_of, cl_literals_of, ↓cl_Panel_ways_from, cl_Panel_ways_from, ↓FD.sSeq_e, ↓FD.sRet_e, ↓FD.sIf_e, ↓FD.sAsg_e, ↓FD.gSet_e, ↓FD.sDrop_e, ↓FD.sNext_e, ↓FD.sPar_e, ↓FD.sPar3_e, ↓FD.wIf_e, ↓FD.wOp_e, ↓FD.wUn_e, ↓FD.wVar_e, ↓FD.wC_e, ↓FD.wTst_e, ↓FD.wAnd_e, ↓FD.wOr_e, ↓FD.wNot_e, ↓FD.wAndV_e, ↓FD.wOrV_e, ↓FD.wNotV_e, ↓FD.wChain_e, ↓FD.aNil_e, ↓FD.aCons_e, ↓FD.wTup_e, ↓FD.wLst_e, ↓FD.wFtp_e, ↓FD.wNew_e, ↓FD.wCall_e, ↓FD.wB_e, ↓FD.wSl_e, ↓FD.oSome_e, ↓FD.oNone_e, ↓FD.wIsi_e, ↓FD.wIsiC_e, ↓FD.p1_e, ↓FD.p2_e, ↓FD.gLen_e, ↓FD.iLst_e, ↓FD.iTup_e, ↓FD.iStrD_e, ↓FD.iEnT_e, ↓FD.iEnL_e, ↓FD.iRng_e, ↓FD.iRng2_e, ↓FD.gTup_e, ↓FD.gsNil_e, ↓FD.gsCons_e, ↓FD.wM_e, ↓FD.wIxT_e, ↓FD.wFld_e, ↓FD.wMeth_e, ↓FD.wMake_e, ↓FD.sFldD_e, ↓FD.wDGet_e, ↓FD.sDput_e, ↓FD.wDNewK_e, ↓FD.wDNewT_e, ↓FD.wDisp1_e, ↓FD.wIce_e, ↓FD.gSub_e, ↓FD.wCallK_e, ↓FD.t1_e, ↓FD.t2_e, ↓FD.t1w_e, ↓FD.tYesD_e, ↓FD.gDIn_e, ↓FD.gDNin_e, ↓FD.gIndexT_e, ↓FD.gIndex_e, ↓FD.gInt_e, ↓FD.gAbs_e, ↓FD.gMax_e, ↓FD.gMin_e, ↓FD.gDivmod_e, ↓FD.wFz_e, ↓FD.wDGetD_e, ↓FD.t3_e, ↓FD.iZip3D_e, ↓sFor_eq, ↓wLc_eq, ↓wLc2_eq, ↓wDc_eq, ↓look_zero, ↓look_succ, ↓got_so, ↓isB_bl, ↓isI_int, ↓isS_str, ↓isT_tup, ↓isT_ftp, ↓isT_ktp, ↓isT_tp, ↓one_one, ↓two_two, ↓startD_cc, ↓startD_cn, ↓startD_nn, ↓FD.ix_str, ↓FD.ix_tup, ↓ix_ftp, ↓ix_ktp, ↓ix_lst, ↓ix_scr, ↓ix_tp, ↓atI0, ↓atI1, ↓atI2, ↓atI3, ↓FD.eq_str, ↓FD.ne_str, ↓FD.eq_int, ↓FD.ne_int, ↓FD.add_int, ↓FD.sub_int, ↓FD.lt_int, ↓FD.le_int, ↓FD.gt_int, ↓FD.ge_int, ↓FD.add_str, ↓FD.add_lst, ↓FD.add_tup, ↓FD.mul_int, ↓FD.mod_int, ↓FD.fdiv_int, ↓FD.pow_int, ↓isN_non, ↓notN_non, ↓FD.len_str, ↓len_tup, ↓len_ftp, ↓len_ktp, ↓len_lst, ↓len_scr, ↓len_tp, ↓seq_tup, ↓seq_ftp, ↓seq_ktp, ↓seq_lst, ↓seq_scr, ↓seq_tp, ↓in_tup, ↓in_ftp, ↓in_ktp, ↓in_lst, ↓nin_tup, ↓nin_ftp, ↓nin_ktp, ↓nin_lst, ↓FD.in_str, ↓nin_str, ↓isC_one, ↓asL_lst, ↓asL_scr, ↓if_tt, ↓if_ff, ↓isi_ss, ↓isi_tt, ↓isi_st, ↓isi_ts, ↓ty_str, ↓ty_tup, ↓ty_ftp, ↓ty_tp, ↓all_lst, ↓any_lst, ↓flat_s, ↓flat_set, ↓tuple_lst, ↓FD.int_int, ↓eq_ftp_nil, ↓ne_ftp_nil, ↓isNon_non, ↓isNon_int, ↓isNon_str, ↓isNon_ptr, ↓isNon_tup, ↓isNon_ftp, ↓inL_strs, ↓flatSs, ↓inL_sets, ↓flatSets, ↓FM.tw, ↓FM.tw3, ↓FM.sl_str, ↓sl_set, ↓cell_upd, ↓lk_sw, ↓lk_ru, ↓lk_st, ↓lk_place, ↓lk_has, ↓lk_keeps, ↓lk_wrongs, ↓lk_goods, ↓lk_ways_from, ↓lk_text, ↓ins_pan, ↓FD.fit_le, ↓cx_K, ↓nox_K, ↓blk_K, ↓bx_K, ↓c1, ↓c2, ↓c3, ↓c4, ↓inL_cons, ↓inL_nil, ↓all_bools, ↓any_bools, ↓in_tp, ↓nin_tp, ↓FM.sl_ftp, ↓FM.sl_tup, ↓FM.sl_lst, ↓FM.sl_scr, ↓index_eq, ↓ex_ftp, ↓eqd_str, ↓wf_at, ↓isT_cl, ↓isT_st, ↓isT_lit, ↓ix_lit0, ↓ix_lit1, ↓len_lit, ↓ty_lit, ↓eq_lit, ↓ne_lit, ↓eq_set, ↓ne_set, ↓len_set, ↓ty_set, ↓isS_set, ↓isC_sg, ↓sNever_e, ↓enumD_map, ↓dpAll_strs, ↓dpAll_mapI, ↓ne_lst_nil, ↓eq_lst_nil, ↓isT_grp, ↓len_grp, ↓isDc_wf, ↓wn_at, ↓isT_way, ↓len_way, ↓ty_way, ↓ty_st, ↓len_st, ↓ix_st0, ↓ix_st1, ↓inD_lits, ↓ninD_lits, ↓dpAll_sets, ↓three_three, ↓zip3_sets, ↓isT_z3, ↓inL_lock, ↓ninT_lits, ↓FM.tp_t, ↓FM.tp_f, Bool.not_true, Bool.not_false, Bool.false_eq_true, if_false, if_true, true_and, and_true, List.set_cons_zero, List.set_cons_succ, List.length_cons, List.length_nil, List.length_map, eq_self, decide_true, decide_false, Bool.true_eq_false, or_self, Bool.or_self, List.all_cons, List.all_nil, Bool.and_true, Bool.true_and, Bool.or_false, Bool.false_or, Bool.or_true, Bool.true_or, Bool.and_false, Bool.false_and, Int.reduceLT, Int.reduceLE, Int.reduceEq, Nat.reduceLeDiff, Nat.reduceAdd, Nat.reduceLT, wf_some, wn_some, fold_lit, fold_litp, fold_litm, sg_iff, sg_in_pm, isNon_opt, isEmpty_map, ↓reduceIte, nq_0_1, nq_0_2, nq_0_3, nq_0_4, nq_0_5, nq_0_6, nq_0_7, nq_1_0, nq_1_2, nq_1_3, nq_1_4, nq_1_5, nq_1_6, nq_1_7, nq_2_0, nq_2_1, nq_2_3, nq_2_4, nq_2_5, nq_2_6, nq_2_7, nq_3_0, nq_3_1, nq_3_2, nq_3_4, nq_3_5, nq_3_6, nq_3_7, nq_4_0, nq_4_1, nq_4_2, nq_4_3, nq_4_5, nq_4_6, nq_4_7, nq_5_0, nq_5_1, nq_5_2, nq_5_3, nq_5_4, nq_5_6, nq_5_7, nq_6_0, nq_6_1, nq_6_2, nq_6_3, nq_6_4, nq_6_5, nq_6_7, nq_7_0, nq_7_1, nq_7_2, nq_7_3, nq_7_4, nq_7_5, nq_7_6])
theorem fn_group_of (T : Tx P w K mg base) : Fng P w K mg base 2 "group_of" (top 54) ["panel", "literal"] (sp_group_of K) := by
  have S := sc_group_of
  refine fng_of T.d_group_of T.g_group_of S (fun ds M post h => by unfold sp_group_of at h; grind) fun f cdv A outer s H gd hr => ⟨_, (ds_cons (ds_set (i := 2) S.nd (de_meth T.c_Panel (ok_Panel_ways_from T) (hr.mono (by decide)) gd (dv 0) (da_cons (dv 1) da_nil)))
      (ds_one (ds_ret (de_ty c_tuple T.m_tuple (by decide +kernel) (da_cons (de_lc (own := [("each", 3)]) rfl S.nd (di_list (de_call (ok_literals_of T) (hr.mono (by decide)) gd (da_cons (de_fld T.c_Panel T.n_Panel_switches (dv 0)) da_nil))) (blkOk_by (N := ["panel", "literal", "known", "each"]) (sc := defScope (top 54)) (by decide +kernel)) tgt1 (fun _ _ _ _ _ => pg_name (i := 3) S.nd rfl (Or.inl rfl)) (fun _ _ _ _ _ => (dts_one (PW.pt (dw_and (dt_cmp (o_din hr) (dv 3) (dv 2)) (dw_and1 (dt_cmp (o_din hr) (dv 1) (de_meth T.c_Panel (ok_Panel_ways_from T) (hr.mono (by decide)) gd (dv 0) (da_cons (dv 3) da_nil)))))))) (fun _ _ _ _ _ => (dv 3))) da_nil))))), ?_⟩
  rintro ds M post ⟨fg, p, a, rfl, ha, h⟩
  have l10 := p.sw.2.1
  (try walk_at "group_of")
  refine ⟨ha, by omega, ?_⟩
  refine lc_pure (lits p.ss) litD (fun b => inW p.ss p.rs a b && inW p.ss p.rs b a) litD trivial ?_ ?_
  · intro b hx yes no hy hn
    have hb := mem_lits.mp hx
    (try walk_at "group_of")
    cases h1 : inW p.ss p.rs a b with
    | false => (try walk_at "group_of"); exact hn (by rw [h1]; rfl)
    | true =>
      (try walk_at "group_of")
      refine ⟨hb, ?_⟩
      cases h2 : inW p.ss p.rs b a with
      | true => (try walk_at "group_of"); exact hy (by rw [h1, h2]; rfl)
      | false => (try walk_at "group_of"); exact hn (by rw [h1, h2]; rfl)
  · rw [tuple_lst]
    exact h
theorem ok_group_of (T : Tx P w K mg base) : Pub P w K mg base 2 "group_of" ["panel", "literal"] (sp_group_of K) := (fn_group_of T).pub fun _ _ _ _ _ _ us hl => match us, hl with | [_, _], _ => rfl
theorem sc_tied_groups : FnScope ["panel", "fast", "found", "seen", "literal", "switch", "group"] ["panel"] (defScope (top 55)) := ⟨rfl, rfl, rfl, by decide +kernel, rfl, by decide +kernel, by decide +kernel⟩
def sp_tied_groups (K : PySem.W.Frag) : DSp := fun ds M post => ∃ (fg : Bool) (p : Pan), ds = [panF K fg p] ∧ post (.lst ((tiedL p.ss p.rs).map grpD)) M
theorem cl_tied_groups {fg : Bool} {p : Pan} {M : Mem} {post : WK} : sp_tied_groups K [panF K fg p] M post = post (.lst ((tiedL p.ss p.rs).map grpD)) M := by
  simp [-Bool.exists_bool, sp_tied_groups, tp_inj, litD_inj, strs_inj, ruleD_inj, clD_inj, setD_inj, rules_inj, lits_inj, sets_inj, ints_inj, panF_inj, rngs_inj, rngE_inj, sg_inj, and_assoc, Int.natCast_inj]
local macro_rules | `(tactic| walk_at "tied_groups") => `(tactic| simp only [↓cl_fixed_literals, cl_fixed_literals, ↓cl_group_of, cl_group_of, ↓FD.sSeq_e, ↓FD.sRet_e, ↓FD.sIf_e, ↓FD.sAsg_e, ↓FD.gSet_e, ↓FD.sDrop_e, ↓FD.sNext_e, ↓FD.sPar_e, ↓FD.sPar3_e, ↓FD.wIf_e, ↓FD.wOp_e, ↓FD.wUn_e, ↓FD.wVar_e, ↓FD.wC_e, ↓FD.wTst_e, ↓FD.wAnd_e, ↓FD.wOr_e, ↓FD.wNot_e, ↓FD.wAndV_e, ↓FD.wOrV_e, ↓FD.wNotV_e, ↓FD.wChain_e, ↓FD.aNil_e, ↓FD.aCons_e, ↓FD.wTup_e, ↓FD.wLst_e, ↓FD.wFtp_e, ↓FD.wNew_e, ↓FD.wCall_e, ↓FD.wB_e, ↓FD.wSl_e, ↓FD.oSome_e, ↓FD.oNone_e, ↓FD.wIsi_e, ↓FD.wIsiC_e, ↓FD.p1_e, ↓FD.p2_e, ↓FD.gLen_e, ↓FD.iLst_e, ↓FD.iTup_e, ↓FD.iStrD_e, ↓FD.iEnT_e, ↓FD.iEnL_e, ↓FD.iRng_e, ↓FD.iRng2_e, ↓FD.gTup_e, ↓FD.gsNil_e, ↓FD.gsCons_e, ↓FD.wM_e, ↓FD.wIxT_e, ↓FD.wFld_e, ↓FD.wMeth_e, ↓FD.wMake_e, ↓FD.sFldD_e, ↓FD.wDGet_e, ↓FD.sDput_e, ↓FD.wDNewK_e, ↓FD.wDNewT_e, ↓FD.wDisp1_e, ↓FD.wIce_e, ↓FD.gSub_e, ↓FD.wCallK_e, ↓FD.t1_e, ↓FD.t2_e, ↓FD.t1w_e, ↓FD.tYesD_e, ↓FD.gDIn_e, ↓FD.gDNin_e, ↓FD.gIndexT_e, ↓FD.gIndex_e, ↓FD.gInt_e, ↓FD.gAbs_e, ↓FD.gMax_e, ↓FD.gMin_e, ↓FD.gDivmod_e, ↓FD.wFz_e, ↓FD.wDGetD_e, ↓FD.t3_e, ↓FD.iZip3D_e, ↓sFor_eq, ↓wLc_eq, ↓wLc2_eq, ↓wDc_eq, ↓look_zero, ↓look_succ, ↓got_so, ↓isB_bl, ↓isI_int, ↓isS_str, ↓isT_tup, ↓isT_ftp, ↓isT_ktp, ↓isT_tp, ↓one_one, ↓two_two, ↓startD_cc, ↓startD_cn, ↓startD_nn, ↓FD.ix_str, ↓FD.ix_tup, ↓ix_ftp, ↓ix_ktp, ↓ix_lst, ↓ix_scr, ↓ix_tp, ↓atI0, ↓atI1, ↓atI2, ↓atI3, ↓FD.eq_str, ↓FD.ne_str, ↓FD.eq_int, ↓FD.ne_int, ↓FD.add_int, ↓FD.sub_int, ↓FD.lt_int, ↓FD.le_int, ↓FD.gt_int, ↓FD.ge_int, ↓FD.add_str, ↓FD.add_lst, ↓FD.add_tup, ↓FD.mul_int, ↓FD.mod_int, ↓FD.fdiv_int, ↓FD.pow_int, ↓isN_non, ↓notN_non, ↓FD.len_str, ↓len_tup, ↓len_ftp, ↓len_ktp, ↓len_lst, ↓len_scr, ↓len_tp, ↓seq_tup, ↓seq_ftp, ↓seq_ktp, ↓seq_lst, ↓seq_scr, ↓seq_tp, ↓in_tup, ↓in_ftp, ↓in_ktp, ↓in_lst, ↓nin_tup, ↓nin_ftp, ↓nin_ktp, ↓nin_lst, ↓FD.in_str, ↓nin_str, ↓isC_one, ↓asL_lst, ↓asL_scr, ↓if_tt, ↓if_ff, ↓isi_ss, ↓isi_tt, ↓isi_st, ↓isi_ts, ↓ty_str, ↓ty_tup, ↓ty_ftp, ↓ty_tp, ↓all_lst, ↓any_lst, ↓flat_s, ↓flat_set, ↓tuple_lst, ↓FD.int_int, ↓eq_ftp_nil, ↓ne_ftp_nil, ↓isNon_non, ↓isNon_int, ↓isNon_str, ↓isNon_ptr, ↓isNon_tup, ↓isNon_ftp, ↓inL_strs, ↓flatSs, ↓inL_sets, ↓flatSets, ↓FM.tw, ↓FM.tw3, ↓FM.sl_str, ↓sl_set, ↓cell_upd, ↓lk_sw, ↓lk_ru, ↓lk_st, ↓lk_place, ↓lk_has, ↓lk_keeps, ↓lk_wrongs, ↓lk_goods, ↓lk_ways_from, ↓lk_text, ↓ins_pan, ↓FD.fit_le, ↓cx_K, ↓nox_K, ↓blk_K, ↓bx_K, ↓c1, ↓c2, ↓c3, ↓c4, ↓inL_cons, ↓inL_nil, ↓all_bools, ↓any_bools, ↓in_tp, ↓nin_tp, ↓FM.sl_ftp, ↓FM.sl_tup, ↓FM.sl_lst, ↓FM.sl_scr, ↓index_eq, ↓ex_ftp, ↓eqd_str, ↓wf_at, ↓isT_cl, ↓isT_st, ↓isT_lit, ↓ix_lit0, ↓ix_lit1, ↓len_lit, ↓ty_lit, ↓eq_lit, ↓ne_lit, ↓eq_set, ↓ne_set, ↓len_set, ↓ty_set, ↓isS_set, ↓isC_sg, ↓sNever_e, ↓enumD_map, ↓dpAll_strs, ↓dpAll_mapI, ↓ne_lst_nil, ↓eq_lst_nil, ↓isT_grp, ↓len_grp, ↓isDc_wf, ↓wn_at, ↓isT_way, ↓len_way, ↓ty_way, ↓ty_st, ↓len_st, ↓ix_st0, ↓ix_st1, ↓inD_lits, ↓ninD_lits, ↓dpAll_sets, ↓three_three, ↓zip3_sets, ↓isT_z3, ↓inL_lock, ↓ninT_lits, ↓FM.tp_t, ↓FM.tp_f, Bool.not_true, Bool.not_false, Bool.false_eq_true, if_false, if_true, true_and, and_true, List.set_cons_zero, List.set_cons_succ, List.length_cons, List.length_nil, List.length_map, eq_self, decide_true, decide_false, Bool.true_eq_false, or_self, Bool.or_self, List.all_cons, List.all_nil, Bool.and_true, Bool.true_and, Bool.or_false, Bool.false_or, Bool.or_true, Bool.true_or, Bool.and_false, Bool.false_and, Int.reduceLT, Int.reduceLE, Int.reduceEq, Nat.reduceLeDiff, Nat.reduceAdd, Nat.reduceLT, wf_some, wn_some, fold_lit, fold_litp, fold_litm, sg_iff, sg_in_pm, isNon_opt, isEmpty_map, ↓reduceIte, nq_0_1, nq_0_2, nq_0_3, nq_0_4, nq_0_5, nq_0_6, nq_0_7, nq_1_0, nq_1_2, nq_1_3, nq_1_4, nq_1_5, nq_1_6, nq_1_7, nq_2_0, nq_2_1, nq_2_3, nq_2_4, nq_2_5, nq_2_6, nq_2_7, nq_3_0, nq_3_1, nq_3_2, nq_3_4, nq_3_5, nq_3_6, nq_3_7, nq_4_0, nq_4_1, nq_4_2, nq_4_3, nq_4_5, nq_4_6, nq_4_7, nq_5_0, nq_5_1, nq_5_2, nq_5_3, nq_5_4, nq_5_6, nq_5_7, nq_6_0, nq_6_1, nq_6_2, nq_6_3, nq_6_4, nq_6_5, nq_6_7, nq_7_0, nq_7_1, nq_7_2, nq_7_3, nq_7_4, nq_7_5, nq_7_6])
theorem fn_tied_groups (T : Tx P w K mg base) : Fng P w K mg base 4 "tied_groups" (top 55) ["panel"] (sp_tied_groups K) := by
  have S := sc_tied_groups
  refine fng_of T.d_tied_groups T.g_tied_groups S (fun ds M post h => by unfold sp_tied_groups at h; grind) fun f cdv A outer s H gd hr => ⟨_, (ds_cons (ds_par3 (i := 1) (j := 2) (l := 3) rfl S.nd (da_cons (de_lc (own := [("literal", 4)]) rfl S.nd (di_list (de_call (ok_fixed_literals T) (hr.mono (by decide)) gd (da_cons (dv 0) da_nil))) (blkOk_by (N := ["panel", "fast", "found", "seen", "literal", "switch", "group"]) (sc := defScope (top 55)) (by decide +kernel)) tgt1 (fun _ _ _ _ _ => pg_name (i := 4) S.nd rfl (Or.inl rfl)) (fun _ _ _ _ _ => dts_nil) (fun _ _ _ _ _ => (de_ix o_ix (dv 4) dint))) (da_cons (de_new da_nil) (da_cons de_dnewK da_nil))))
      (ds_cons (ds_for PassesOwn.never rfl (di_tup (de_fld T.c_Panel T.n_Panel_switches (dv 0))) (dg_name (i := 5) S.nd)
      (ds_cons (ds_set (i := 6) S.nd (de_call (ok_group_of T) (hr.mono (by decide)) gd (da_cons (dv 0) (da_cons (de_tup (da_cons (dv 5) (da_cons dstr da_nil))) da_nil))))
      (ds_one (ds_if (PW.pt (dw_and (dt_cmp o_nin (dv 5) (dv 1)) (dw_and (dt_cmp (o_dnin hr) (dv 5) (dv 3)) (dw_and1 (dt_cmp o_gt (de_b c_len T.m_len (by decide +kernel) (da_cons (dv 6) da_nil)) dint)))))
      (ds_cons (ds_expr (de_ml PySem.F.slot_list_append PySem.F.type_list_append m_append (dv 2) (da_cons (dv 6) da_nil)))
      (ds_one (ds_expr (de_md PySem.F.slot_dict_update PySem.F.type_dict_update m_update (dv 3) (da_cons (de_dcK (own := [("literal", 4)]) hr rfl S.nd (di_tup (dv 6)) (blkOk_by (N := ["panel", "fast", "found", "seen", "literal", "switch", "group"]) (sc := defScope (top 55)) (by decide +kernel)) tgt1 (fun _ _ _ _ _ => pg_name (i := 4) S.nd rfl (Or.inl rfl)) (fun _ _ _ _ _ => dts_nil) (fun _ _ _ _ _ => (de_ix o_ix (dv 4) dint)) (fun _ _ _ _ _ => dbl)) da_nil)))))
      ds_nil))))
      (ds_one (ds_ret (de_fz (dv 2)))))), ?_⟩
  rintro ds M post ⟨fg, p, rfl, h⟩
  have l10 := p.sw.2.1
  (try walk_at "tied_groups")
  refine lc_map (fixedL p.ss p.rs) litD (fun a => D.str a.n) trivial ?_ ?_
  · intro a ha yes hy
    (try walk_at "tied_groups")
    exact hy
  intro fp hfp sp hsp
  have fs : fp ≠ sp := fun e => by rw [← e, Mem.upd_same] at hsp; cases hsp
  have hsm : M sp = none := by rw [Mem.upd_ne (Ne.symm fs)] at hsp; exact hsp
  have ef : List.map (fun a : Lit => D.str a.n) (fixedL p.ss p.rs) = ((fixedL p.ss p.rs).map (·.n)).map D.str := by rw [List.map_map]; rfl
  rw [ef]
  refine for_map p.ss D.str (fun i Γ' M' => TiI K fg p M fp sp (tiedT p.ss p.rs (p.ss.take i)) i Γ' M') ?_ (fun _ _ _ _ => trivial) ?_ ?_
  · refine ⟨⟨_, _, _, rfl⟩, (Mem.le_upd hfp).trans (Mem.le_upd hsp), ?_, by simp [tiedT], [], Mem.upd_same, fun y => by simp [tiedT, valD], by simp⟩
    rw [Mem.upd_ne fs, Mem.upd_same]
    rfl
  · rintro i x hx Γ' M' ⟨⟨u, v, z, rfl⟩, le, hf, hn, kvs, hs, hk, hl⟩
    have hxs : x ∈ p.ss := List.mem_of_getElem? hx
    have hi : i < 10 := by have := (List.getElem?_eq_some_iff.mp hx).1; omega
    have et : tiedT p.ss p.rs (p.ss.take (i + 1)) = tied1 p.ss p.rs (tiedT p.ss p.rs (p.ss.take i)) x := foldl_take hx
    rw [et]
    generalize tiedT p.ss p.rs (p.ss.take i) = st at *
    have stay : ¬ (x ∉ (fixedL p.ss p.rs).map (·.n) ∧ x ∉ st.2 ∧ 1 < (groupL p.ss p.rs ⟨x, true⟩).length) → ∀ G, (∃ u v z, G = [some (panF K fg p), some (strsL ((fixedL p.ss p.rs).map (·.n))), some (.ptr fp), some (.ptr sp), u, v, z]) → TiI K fg p M fp sp (tied1 p.ss p.rs st x) (i + 1) G M' := fun c G hG => by
      have e : tied1 p.ss p.rs st x = st := by unfold tied1; rw [if_neg c]
      rw [e]
      exact ⟨hG, le, hf, by omega, kvs, hs, hk, by omega⟩
    (try walk_at "tied_groups")
    refine ⟨hxs, ?_⟩
    by_cases h1 : x ∈ (fixedL p.ss p.rs).map (·.n)
    · simp only [h1, decide_true]
      (try walk_at "tied_groups")
      exact stay (fun c => c.1 h1) _ ⟨_, _, _, rfl⟩
    simp only [h1, decide_false]
    (try walk_at "tied_groups")
    rw [dAt_K hs rfl, hk]
    by_cases h2 : x ∈ st.2
    · simp only [h2, decide_true]
      (try walk_at "tied_groups")
      exact stay (fun c => c.2.1 h2) _ ⟨_, _, _, rfl⟩
    simp only [h2, decide_false]
    (try walk_at "tied_groups")
    by_cases h3 : 1 < (groupL p.ss p.rs ⟨x, true⟩).length
    · have gl := group_len (ss := p.ss) (rs := p.rs) (a := ⟨x, true⟩)
      have e : tied1 p.ss p.rs st x = (st.1 ++ [groupL p.ss p.rs ⟨x, true⟩], st.2 ++ (groupL p.ss p.rs ⟨x, true⟩).map (·.n)) := by unfold tied1; rw [if_pos ⟨h1, h2, h3⟩]
      rw [e]
      generalize groupL p.ss p.rs ⟨x, true⟩ = g at *
      rw [if_pos (by simp; omega), append_eq hf]
      refine ⟨okL_cell hf, by rw [List.length_map]; omega, ⟨sp, kvs, rfl, by rw [Mem.upd_ne (Ne.symm fs)]; exact hs⟩, ?_⟩
      intro q hq
      have qf : q ≠ fp := fun e => by rw [e, Mem.upd_same] at hq; cases hq
      have hq2 : M' q = none := by rw [Mem.upd_ne qf] at hq; exact hq
      have qs : q ≠ sp := fun e => by rw [e, hs] at hq2; cases hq2
      refine ⟨fun i M3 => M3 = (M'.upd fp (.lst (st.1.map grpD ++ [grpD g]))).upd q (.dK (nmK (.bl true) ((g.map (·.n)).take i))), rfl, fun _ _ _ => trivial, ?_, ?_⟩
      · rintro i y M3 hy rfl
        obtain ⟨b, hb, rfl⟩ := map_at hy
        (try walk_at "tied_groups")
        rw [dPut_K Mem.upd_same rfl, Mem.upd_upd]
        have hb2 : (g.map (·.n))[i]? = some b.n := by rw [List.getElem?_map, hb]; rfl
        rw [nmK_take hb2]
        refine ⟨?_, rfl⟩
        have := nmK_len (v := .bl true) ((g.map (·.n)).take i)
        rw [List.length_take, List.length_map] at this
        omega
      · rintro M3 rfl
        rw [List.length_map]
        have el : (g.map (·.n)).take g.length = g.map (·.n) := by rw [List.take_of_length_le]; rw [List.length_map]; exact Nat.le_refl _
        rw [el]
        have nl := nmK_len (v := .bl true) (g.map (·.n))
        rw [List.length_map] at nl
        rw [update_eq (l := kvs) (m := nmK (.bl true) (g.map (·.n))) (by rw [Mem.upd_ne (Ne.symm qs), Mem.upd_ne (Ne.symm fs)]; exact hs) Mem.upd_same]
        refine ⟨Ne.symm qs, by omega, ⟨_, _, _, rfl⟩, ?_, ?_, ?_, ?_⟩
        · intro y o e
          have n1 : y ≠ sp := fun z => by rw [z, hsm] at e; cases e
          have n2 : y ≠ q := fun z => by have := le _ _ e; rw [z, hq2] at this; cases this
          have n3 : y ≠ fp := fun z => by rw [z, hfp] at e; cases e
          rw [Mem.upd_ne n1, Mem.upd_ne n2, Mem.upd_ne n3]
          exact le _ _ e
        · rw [Mem.upd_ne fs, Mem.upd_ne (Ne.symm qf), Mem.upd_same]
          simp
        · simp; omega
        · refine ⟨_, Mem.upd_same, fun y => ?_, ?_⟩
          · rw [join_some, hk, nmK_some]
            simp
          · have := join_len (m := nmK (.bl true) (g.map (·.n))) (l := kvs)
            omega
    · rw [if_neg (by simp; omega)]
      exact stay (fun c => h3 c.2.2) _ ⟨_, _, _, rfl⟩
  · rintro Γ' M' ⟨⟨u, v, z, rfl⟩, le, hf, hn, _⟩
    rw [List.take_length] at hf
    (try walk_at "tied_groups")
    exact ⟨_, M, le, .lst hf hfp fzAll_same, h⟩
theorem ok_tied_groups (T : Tx P w K mg base) : Pub P w K mg base 4 "tied_groups" ["panel"] (sp_tied_groups K) := (fn_tied_groups T).pub fun _ _ _ _ _ _ us hl => match us, hl with | [_], _ => rfl
theorem sc_locked_switches : FnScope ["panel", "some", "group", "literal", "names", "switch"] ["panel"] (defScope (top 57)) := ⟨rfl, rfl, rfl, by decide +kernel, rfl, by decide +kernel, by decide +kernel⟩
def sp_locked_switches (K : PySem.W.Frag) : DSp := fun ds M post => ∃ (fg : Bool) (p : Pan), ds = [panF K fg p] ∧ post (lockD p) M
theorem cl_locked_switches {fg : Bool} {p : Pan} {M : Mem} {post : WK} : sp_locked_switches K [panF K fg p] M post = post (lockD p) M := by
  simp [-Bool.exists_bool, sp_locked_switches, tp_inj, litD_inj, strs_inj, ruleD_inj, clD_inj, setD_inj, rules_inj, lits_inj, sets_inj, ints_inj, panF_inj, rngs_inj, rngE_inj, sg_inj, and_assoc, Int.natCast_inj]
local macro_rules | `(tactic| walk_at "locked_switches") => `(tactic| simp only [↓cl_has_good, cl_has_good, ↓cl_fixed_literals, cl_fixed_literals, ↓cl_tied_groups, cl_tied_groups, ↓FD.sSeq_e, ↓FD.sRet_e, ↓FD.sIf_e, ↓FD.sAsg_e, ↓FD.gSet_e, ↓FD.sDrop_e, ↓FD.sNext_e, ↓FD.sPar_e, ↓FD.sPar3_e, ↓FD.wIf_e, ↓FD.wOp_e, ↓FD.wUn_e, ↓FD.wVar_e, ↓FD.wC_e, ↓FD.wTst_e, ↓FD.wAnd_e, ↓FD.wOr_e, ↓FD.wNot_e, ↓FD.wAndV_e, ↓FD.wOrV_e, ↓FD.wNotV_e, ↓FD.wChain_e, ↓FD.aNil_e, ↓FD.aCons_e, ↓FD.wTup_e, ↓FD.wLst_e, ↓FD.wFtp_e, ↓FD.wNew_e, ↓FD.wCall_e, ↓FD.wB_e, ↓FD.wSl_e, ↓FD.oSome_e, ↓FD.oNone_e, ↓FD.wIsi_e, ↓FD.wIsiC_e, ↓FD.p1_e, ↓FD.p2_e, ↓FD.gLen_e, ↓FD.iLst_e, ↓FD.iTup_e, ↓FD.iStrD_e, ↓FD.iEnT_e, ↓FD.iEnL_e, ↓FD.iRng_e, ↓FD.iRng2_e, ↓FD.gTup_e, ↓FD.gsNil_e, ↓FD.gsCons_e, ↓FD.wM_e, ↓FD.wIxT_e, ↓FD.wFld_e, ↓FD.wMeth_e, ↓FD.wMake_e, ↓FD.sFldD_e, ↓FD.wDGet_e, ↓FD.sDput_e, ↓FD.wDNewK_e, ↓FD.wDNewT_e, ↓FD.wDisp1_e, ↓FD.wIce_e, ↓FD.gSub_e, ↓FD.wCallK_e, ↓FD.t1_e, ↓FD.t2_e, ↓FD.t1w_e, ↓FD.tYesD_e, ↓FD.gDIn_e, ↓FD.gDNin_e, ↓FD.gIndexT_e, ↓FD.gIndex_e, ↓FD.gInt_e, ↓FD.gAbs_e, ↓FD.gMax_e, ↓FD.gMin_e, ↓FD.gDivmod_e, ↓FD.wFz_e, ↓FD.wDGetD_e, ↓FD.t3_e, ↓FD.iZip3D_e, ↓sFor_eq, ↓wLc_eq, ↓wLc2_eq, ↓wDc_eq, ↓look_zero, ↓look_succ, ↓got_so, ↓isB_bl, ↓isI_int, ↓isS_str, ↓isT_tup, ↓isT_ftp, ↓isT_ktp, ↓isT_tp, ↓one_one, ↓two_two, ↓startD_cc, ↓startD_cn, ↓startD_nn, ↓FD.ix_str, ↓FD.ix_tup, ↓ix_ftp, ↓ix_ktp, ↓ix_lst, ↓ix_scr, ↓ix_tp, ↓atI0, ↓atI1, ↓atI2, ↓atI3, ↓FD.eq_str, ↓FD.ne_str, ↓FD.eq_int, ↓FD.ne_int, ↓FD.add_int, ↓FD.sub_int, ↓FD.lt_int, ↓FD.le_int, ↓FD.gt_int, ↓FD.ge_int, ↓FD.add_str, ↓FD.add_lst, ↓FD.add_tup, ↓FD.mul_int, ↓FD.mod_int, ↓FD.fdiv_int, ↓FD.pow_int, ↓isN_non, ↓notN_non, ↓FD.len_str, ↓len_tup, ↓len_ftp, ↓len_ktp, ↓len_lst, ↓len_scr, ↓len_tp, ↓seq_tup, ↓seq_ftp, ↓seq_ktp, ↓seq_lst, ↓seq_scr, ↓seq_tp, ↓in_tup, ↓in_ftp, ↓in_ktp, ↓in_lst, ↓nin_tup, ↓nin_ftp, ↓nin_ktp, ↓nin_lst, ↓FD.in_str, ↓nin_str, ↓isC_one, ↓asL_lst, ↓asL_scr, ↓if_tt, ↓if_ff, ↓isi_ss, ↓isi_tt, ↓isi_st, ↓isi_ts, ↓ty_str, ↓ty_tup, ↓ty_ftp, ↓ty_tp, ↓all_lst, ↓any_lst, ↓flat_s, ↓flat_set, ↓tuple_lst, ↓FD.int_int, ↓eq_ftp_nil, ↓ne_ftp_nil, ↓isNon_non, ↓isNon_int, ↓isNon_str, ↓isNon_ptr, ↓isNon_tup, ↓isNon_ftp, ↓inL_strs, ↓flatSs, ↓inL_sets, ↓flatSets, ↓FM.tw, ↓FM.tw3, ↓FM.sl_str, ↓sl_set, ↓cell_upd, ↓lk_sw, ↓lk_ru, ↓lk_st, ↓lk_place, ↓lk_has, ↓lk_keeps, ↓lk_wrongs, ↓lk_goods, ↓lk_ways_from, ↓lk_text, ↓ins_pan, ↓FD.fit_le, ↓cx_K, ↓nox_K, ↓blk_K, ↓bx_K, ↓c1, ↓c2, ↓c3, ↓c4, ↓inL_cons, ↓inL_nil, ↓all_bools, ↓any_bools, ↓in_tp, ↓nin_tp, ↓FM.sl_ftp, ↓FM.sl_tup, ↓FM.sl_lst, ↓FM.sl_scr, ↓index_eq, ↓ex_ftp, ↓eqd_str, ↓wf_at, ↓isT_cl, ↓isT_st, ↓isT_lit, ↓ix_lit0, ↓ix_lit1, ↓len_lit, ↓ty_lit, ↓eq_lit, ↓ne_lit, ↓eq_set, ↓ne_set, ↓len_set, ↓ty_set, ↓isS_set, ↓isC_sg, ↓sNever_e, ↓enumD_map, ↓dpAll_strs, ↓dpAll_mapI, ↓ne_lst_nil, ↓eq_lst_nil, ↓isT_grp, ↓len_grp, ↓isDc_wf, ↓wn_at, ↓isT_way, ↓len_way, ↓ty_way, ↓ty_st, ↓len_st, ↓ix_st0, ↓ix_st1, ↓inD_lits, ↓ninD_lits, ↓dpAll_sets, ↓three_three, ↓zip3_sets, ↓isT_z3, ↓inL_lock, ↓ninT_lits, ↓FM.tp_t, ↓FM.tp_f, Bool.not_true, Bool.not_false, Bool.false_eq_true, if_false, if_true, true_and, and_true, List.set_cons_zero, List.set_cons_succ, List.length_cons, List.length_nil, List.length_map, eq_self, decide_true, decide_false, Bool.true_eq_false, or_self, Bool.or_self, List.all_cons, List.all_nil, Bool.and_true, Bool.true_and, Bool.or_false, Bool.false_or, Bool.or_true, Bool.true_or, Bool.and_false, Bool.false_and, Int.reduceLT, Int.reduceLE, Int.reduceEq, Nat.reduceLeDiff, Nat.reduceAdd, Nat.reduceLT, wf_some, wn_some, fold_lit, fold_litp, fold_litm, sg_iff, sg_in_pm, isNon_opt, isEmpty_map, ↓reduceIte, nq_0_1, nq_0_2, nq_0_3, nq_0_4, nq_0_5, nq_0_6, nq_0_7, nq_1_0, nq_1_2, nq_1_3, nq_1_4, nq_1_5, nq_1_6, nq_1_7, nq_2_0, nq_2_1, nq_2_3, nq_2_4, nq_2_5, nq_2_6, nq_2_7, nq_3_0, nq_3_1, nq_3_2, nq_3_4, nq_3_5, nq_3_6, nq_3_7, nq_4_0, nq_4_1, nq_4_2, nq_4_3, nq_4_5, nq_4_6, nq_4_7, nq_5_0, nq_5_1, nq_5_2, nq_5_3, nq_5_4, nq_5_6, nq_5_7, nq_6_0, nq_6_1, nq_6_2, nq_6_3, nq_6_4, nq_6_5, nq_6_7, nq_7_0, nq_7_1, nq_7_2, nq_7_3, nq_7_4, nq_7_5, nq_7_6])
theorem fn_locked_switches (T : Tx P w K mg base) : Fng P w K mg base 5 "locked_switches" (top 57) ["panel"] (sp_locked_switches K) := by
  have S := sc_locked_switches
  refine fng_of T.d_locked_switches T.g_locked_switches S (fun ds M post h => by unfold sp_locked_switches at h; grind) fun f cdv A outer s H gd hr => ⟨_, (ds_cons (ds_if (dt_not (dt_val (de_call (ok_has_good T) (hr.mono (by decide)) gd (da_cons (dv 0) da_nil))))
      (ds_one (ds_ret (de_tup da_nil)))
      ds_nil)
      (ds_cons (ds_set (i := 1) S.nd (de_op o_add (de_call (ok_fixed_literals T) (hr.mono (by decide)) gd (da_cons (dv 0) da_nil)) (de_lc2 (own := [("group", 2), ("literal", 3)]) (vs1 := [3]) rfl S.nd (di_list (de_call (ok_tied_groups T) (hr.mono (by decide)) gd (da_cons (dv 0) da_nil))) (blkOk_by (N := ["panel", "some", "group", "literal", "names", "switch"]) (sc := defScope (top 57)) (by decide +kernel)) (by decide) (tgt1w (by decide)) tgt1 (fun _ _ _ _ _ => pg_name (i := 2) S.nd rfl (Or.inl rfl)) (fun _ _ _ _ _ => dts_nil) (fun _ _ _ _ _ => (di_tup (dv 2))) (fun _ _ _ _ _ => pg_name (i := 3) S.nd rfl (Or.inl rfl)) (fun _ _ _ _ _ => dts_nil) (fun _ _ _ _ _ => (dv 3)))))
      (ds_cons (ds_set (i := 4) S.nd (de_lc (own := [("literal", 3)]) rfl S.nd (di_list (dv 1)) (blkOk_by (N := ["panel", "some", "group", "literal", "names", "switch"]) (sc := defScope (top 57)) (by decide +kernel)) tgt1 (fun _ _ _ _ _ => pg_name (i := 3) S.nd rfl (Or.inl rfl)) (fun _ _ _ _ _ => dts_nil) (fun _ _ _ _ _ => (de_ix o_ix (dv 3) dint))))
      (ds_one (ds_ret (de_ty c_tuple T.m_tuple (by decide +kernel) (da_cons (de_lc (own := [("switch", 5)]) rfl S.nd (di_tup (de_fld T.c_Panel T.n_Panel_switches (dv 0))) (blkOk_by (N := ["panel", "some", "group", "literal", "names", "switch"]) (sc := defScope (top 57)) (by decide +kernel)) tgt1 (fun _ _ _ _ _ => pg_name (i := 5) S.nd rfl (Or.inl rfl)) (fun _ _ _ _ _ => (dts_one (dt_cmp o_in (dv 5) (dv 4)))) (fun _ _ _ _ _ => (dv 5))) da_nil))))))), ?_⟩
  rintro ds M post ⟨fg, p, rfl, h⟩
  have l10 := p.sw.2.1
  (try walk_at "locked_switches")
  unfold lockD lockS at h
  cases hg : hasGood p.ss p.rs with
  | false =>
    rw [hg] at h
    (try walk_at "locked_switches")
    exact h
  | true =>
    rw [hg] at h
    (try walk_at "locked_switches")
    have tl := tiedL_len (ss := p.ss) (rs := p.rs)
    have tm : p.ss.length * (2 * p.ss.length) ≤ 10 * (2 * 10) := Nat.mul_le_mul l10 (Nat.mul_le_mul (Nat.le_refl 2) l10)
    have fl : (fixedL p.ss p.rs).length ≤ 2 * p.ss.length := by
      have : (fixedL p.ss p.rs).length ≤ (lits p.ss).length := List.length_filter_le ..
      rw [lits_len] at this; exact this
    have ef : ((tiedL p.ss p.rs).flatMap fun g => g.map litD) = (tiedL p.ss p.rs).flatten.map litD := by rw [List.map_flatten, List.flatMap_def]
    refine lc2_flat (tiedL p.ss p.rs) grpD (fun g => g.map litD) trivial ?_ ?_ ?_
    · rw [ef, List.length_map]; omega
    · intro g hg acc nx hz hnx
      (try walk_at "locked_switches")
      rw [List.length_map] at hz
      refine lc2j_map g litD litD acc nx trivial hz ?_ hnx
      intro y hy yes hh
      (try walk_at "locked_switches")
      exact hh
    · rw [ef]
      (try walk_at "locked_switches")
      refine ⟨by omega, ?_⟩
      rw [← List.map_append]
      refine lc_map (fixedL p.ss p.rs ++ (tiedL p.ss p.rs).flatten) litD (fun a => D.str a.n) trivial ?_ ?_
      · intro a ha yes hy
        (try walk_at "locked_switches")
        exact hy
      · have e2 : List.map (fun a : Lit => D.str a.n) (fixedL p.ss p.rs ++ (tiedL p.ss p.rs).flatten) = (lockNames p.ss p.rs).map D.str := by unfold lockNames; rw [List.map_map]; rfl
        rw [e2]
        refine lc_pure p.ss D.str (fun x => decide (x ∈ lockNames p.ss p.rs)) D.str trivial ?_ ?_
        · intro x hx yes no hy hn
          (try walk_at "locked_switches")
          by_cases h1 : x ∈ lockNames p.ss p.rs
          · simp only [h1, decide_true]; (try walk_at "locked_switches"); exact hy (decide_eq_true h1)
          · simp only [h1, decide_false]; (try walk_at "locked_switches"); exact hn (decide_eq_false h1)
        · rw [tuple_lst]
          exact h
theorem ok_locked_switches (T : Tx P w K mg base) : Pub P w K mg base 5 "locked_switches" ["panel"] (sp_locked_switches K) := (fn_locked_switches T).pub fun _ _ _ _ _ _ us hl => match us, hl with | [_], _ => rfl
theorem sc_unlike : FnScope ["panel", "first", "second", "switch", "one", "other"] ["panel", "first", "second"] (defScope (top 59)) := ⟨rfl, rfl, rfl, by decide +kernel, rfl, by decide +kernel, by decide +kernel⟩
def sp_unlike (K : PySem.W.Frag) : DSp := fun ds M post => ∃ (fg : Bool) (p : Pan) (t u : List Bool), ds = [panF K fg p, setD t, setD u] ∧ (t.length = p.ss.length ∧ u.length = p.ss.length ∧ post (strsL (unlikeL p.ss t u)) M)
theorem cl_unlike {fg : Bool} {p : Pan} {t u : List Bool} {M : Mem} {post : WK} : sp_unlike K [panF K fg p, setD t, setD u] M post = (t.length = p.ss.length ∧ u.length = p.ss.length ∧ post (strsL (unlikeL p.ss t u)) M) := by
  simp [-Bool.exists_bool, sp_unlike, tp_inj, litD_inj, strs_inj, ruleD_inj, clD_inj, setD_inj, rules_inj, lits_inj, sets_inj, ints_inj, panF_inj, rngs_inj, rngE_inj, sg_inj, and_assoc, Int.natCast_inj]
theorem fn_unlike (T : Tx P w K mg base) : Fng P w K mg base 1 "unlike" (top 59) ["panel", "first", "second"] (sp_unlike K) := by
  have S := sc_unlike
  refine fng_of T.d_unlike T.g_unlike S (fun ds M post h => by unfold sp_unlike at h; grind) fun f cdv A outer s H gd hr => ⟨_, (ds_one (ds_ret (de_lc (own := [("switch", 3), ("one", 4), ("other", 5)]) rfl S.nd (di_zip3 T.m_zip (da_cons (de_fld T.c_Panel T.n_Panel_switches (dv 0)) (da_cons (dv 1) (da_cons (dv 2) da_nil)))) (blkOk_by (N := ["panel", "first", "second", "switch", "one", "other"]) (sc := defScope (top 59)) (by decide +kernel)) (tgt3 (by decide) (by decide) (by decide)) (fun _ _ _ _ _ => pg_tup rfl (pgs_cons (pg_name (i := 3) S.nd rfl (Or.inl rfl)) (pgs_cons (pg_name (i := 4) S.nd rfl (Or.inl rfl)) (pgs_cons (pg_name (i := 5) S.nd rfl (Or.inl rfl)) pgs_nil)))) (fun _ _ _ _ _ => (dts_one (dt_cmp (o_ne hr) (dv 4) (dv 5)))) (fun _ _ _ _ _ => (dv 3))))), ?_⟩
  rintro ds M post ⟨fg, p, t, u, rfl, h1, h2, h⟩
  (try walk_at "w")
  refine ⟨⟨by omega, by omega⟩, ?_⟩
  refine lc_pure (p.ss.zip (t.zip u)) z3D (fun q => !decide (q.2.1 = q.2.2)) (fun q => D.str q.1) trivial ?_ ?_
  · rintro ⟨x, b, c⟩ hx yes no hy hn
    (try walk_at "w")
    by_cases e : b = c
    · simp only [e, decide_true]; (try walk_at "w"); exact hn (by simp [e])
    · simp only [e, decide_false]; (try walk_at "w"); exact hy (by simp [e])
  · unfold strsL unlikeL at h
    rw [List.map_map] at h
    exact h
theorem ok_unlike (T : Tx P w K mg base) : Pub P w K mg base 1 "unlike" ["panel", "first", "second"] (sp_unlike K) := (fn_unlike T).pub fun _ _ _ _ _ _ us hl => match us, hl with | [_, _, _], _ => rfl
end
end LW

namespace LW
open PySem PySem.Spec PyProof.Rows L2 FD FM
local macro_rules | `(tactic| walk_at "w") => `(tactic| simp only [↓FD.sSeq_e, ↓FD.sRet_e, ↓FD.sIf_e, ↓FD.sAsg_e, ↓FD.gSet_e, ↓FD.sDrop_e, ↓FD.sNext_e, ↓FD.sPar_e, ↓FD.sPar3_e, ↓FD.wIf_e, ↓FD.wOp_e, ↓FD.wUn_e, ↓FD.wVar_e, ↓FD.wC_e, ↓FD.wTst_e, ↓FD.wAnd_e, ↓FD.wOr_e, ↓FD.wNot_e, ↓FD.wAndV_e, ↓FD.wOrV_e, ↓FD.wNotV_e, ↓FD.wChain_e, ↓FD.aNil_e, ↓FD.aCons_e, ↓FD.wTup_e, ↓FD.wLst_e, ↓FD.wFtp_e, ↓FD.wNew_e, ↓FD.wCall_e, ↓FD.wB_e, ↓FD.wSl_e, ↓FD.oSome_e, ↓FD.oNone_e, ↓FD.wIsi_e, ↓FD.wIsiC_e, ↓FD.p1_e, ↓FD.p2_e, ↓FD.gLen_e, ↓FD.iLst_e, ↓FD.iTup_e, ↓FD.iStrD_e, ↓FD.iEnT_e, ↓FD.iEnL_e, ↓FD.iRng_e, ↓FD.iRng2_e, ↓FD.gTup_e, ↓FD.gsNil_e, ↓FD.gsCons_e, ↓FD.wM_e, ↓FD.wIxT_e, ↓FD.wFld_e, ↓FD.wMeth_e, ↓FD.wMake_e, ↓FD.sFldD_e, ↓FD.wDGet_e, ↓FD.sDput_e, ↓FD.wDNewK_e, ↓FD.wDNewT_e, ↓FD.wDisp1_e, ↓FD.wIce_e, ↓FD.gSub_e, ↓FD.wCallK_e, ↓FD.t1_e, ↓FD.t2_e, ↓FD.t1w_e, ↓FD.tYesD_e, ↓FD.gDIn_e, ↓FD.gDNin_e, ↓FD.gIndexT_e, ↓FD.gIndex_e, ↓FD.gInt_e, ↓FD.gAbs_e, ↓FD.gMax_e, ↓FD.gMin_e, ↓FD.gDivmod_e, ↓FD.wFz_e, ↓FD.wDGetD_e, ↓FD.t3_e, ↓FD.iZip3D_e, ↓sFor_eq, ↓wLc_eq, ↓wLc2_eq, ↓wDc_eq, ↓look_zero, ↓look_succ, ↓got_so, ↓isB_bl, ↓isI_int, ↓isS_str, ↓isT_tup, ↓isT_ftp, ↓isT_ktp, ↓isT_tp, ↓one_one, ↓two_two, ↓startD_cc, ↓startD_cn, ↓startD_nn, ↓FD.ix_str, ↓FD.ix_tup, ↓ix_ftp, ↓ix_ktp, ↓ix_lst, ↓ix_scr, ↓ix_tp, ↓atI0, ↓atI1, ↓atI2, ↓atI3, ↓FD.eq_str, ↓FD.ne_str, ↓FD.eq_int, ↓FD.ne_int, ↓FD.add_int, ↓FD.sub_int, ↓FD.lt_int, ↓FD.le_int, ↓FD.gt_int, ↓FD.ge_int, ↓FD.add_str, ↓FD.add_lst, ↓FD.add_tup, ↓FD.mul_int, ↓FD.mod_int, ↓FD.fdiv_int, ↓FD.pow_int, ↓isN_non, ↓notN_non, ↓FD.len_str, ↓len_tup, ↓len_ftp, ↓len_ktp, ↓len_lst, ↓len_scr, ↓len_tp, ↓seq_tup, ↓seq_ftp, ↓seq_ktp, ↓seq_lst, ↓seq_scr, ↓seq_tp, ↓in_tup, ↓in_ftp, ↓in_ktp, ↓in_lst, ↓nin_tup, ↓nin_ftp, ↓nin_ktp, ↓nin_lst, ↓FD.in_str, ↓nin_str, ↓isC_one, ↓asL_lst, ↓asL_scr, ↓if_tt, ↓if_ff, ↓isi_ss, ↓isi_tt, ↓isi_st, ↓isi_ts, ↓ty_str, ↓ty_tup, ↓ty_ftp, ↓ty_tp, ↓all_lst, ↓any_lst, ↓flat_s, ↓flat_set, ↓tuple_lst, ↓FD.int_int, ↓eq_ftp_nil, ↓ne_ftp_nil, ↓isNon_non, ↓isNon_int, ↓isNon_str, ↓isNon_ptr, ↓isNon_tup, ↓isNon_ftp, ↓inL_strs, ↓flatSs, ↓inL_sets, ↓flatSets, ↓FM.tw, ↓FM.tw3, ↓FM.sl_str, ↓sl_set, ↓cell_upd, ↓lk_sw, ↓lk_ru, ↓lk_st, ↓lk_place, ↓lk_has, ↓lk_keeps, ↓lk_wrongs, ↓lk_goods, ↓lk_ways_from, ↓lk_text, ↓ins_pan, ↓FD.fit_le, ↓cx_K, ↓nox_K, ↓blk_K, ↓bx_K, ↓c1, ↓c2, ↓c3, ↓c4, ↓inL_cons, ↓inL_nil, ↓all_bools, ↓any_bools, ↓in_tp, ↓nin_tp, ↓FM.sl_ftp, ↓FM.sl_tup, ↓FM.sl_lst, ↓FM.sl_scr, ↓index_eq, ↓ex_ftp, ↓eqd_str, ↓wf_at, ↓isT_cl, ↓isT_st, ↓isT_lit, ↓ix_lit0, ↓ix_lit1, ↓len_lit, ↓ty_lit, ↓eq_lit, ↓ne_lit, ↓eq_set, ↓ne_set, ↓len_set, ↓ty_set, ↓isS_set, ↓isC_sg, ↓sNever_e, ↓enumD_map, ↓dpAll_strs, ↓dpAll_mapI, ↓ne_lst_nil, ↓eq_lst_nil, ↓isT_grp, ↓len_grp, ↓isDc_wf, ↓wn_at, ↓isT_way, ↓len_way, ↓ty_way, ↓ty_st, ↓len_st, ↓ix_st0, ↓ix_st1, ↓inD_lits, ↓ninD_lits, ↓dpAll_sets, ↓three_three, ↓zip3_sets, ↓isT_z3, ↓inL_lock, ↓ninT_lits, ↓FM.tp_t, ↓FM.tp_f, Bool.not_true, Bool.not_false, Bool.false_eq_true, if_false, if_true, true_and, and_true, List.set_cons_zero, List.set_cons_succ, List.length_cons, List.length_nil, List.length_map, eq_self, decide_true, decide_false, Bool.true_eq_false, or_self, Bool.or_self, List.all_cons, List.all_nil, Bool.and_true, Bool.true_and, Bool.or_false, Bool.false_or, Bool.or_true, Bool.true_or, Bool.and_false, Bool.false_and, Int.reduceLT, Int.reduceLE, Int.reduceEq, Nat.reduceLeDiff, Nat.reduceAdd, Nat.reduceLT, wf_some, wn_some, fold_lit, fold_litp, fold_litm, sg_iff, sg_in_pm, isNon_opt, isEmpty_map, ↓reduceIte, nq_0_1, nq_0_2, nq_0_3, nq_0_4, nq_0_5, nq_0_6, nq_0_7, nq_1_0, nq_1_2, nq_1_3, nq_1_4, nq_1_5, nq_1_6, nq_1_7, nq_2_0, nq_2_1, nq_2_3, nq_2_4, nq_2_5, nq_2_6, nq_2_7, nq_3_0, nq_3_1, nq_3_2, nq_3_4, nq_3_5, nq_3_6, nq_3_7, nq_4_0, nq_4_1, nq_4_2, nq_4_3, nq_4_5, nq_4_6, nq_4_7, nq_5_0, nq_5_1, nq_5_2, nq_5_3, nq_5_4, nq_5_6, nq_5_7, nq_6_0, nq_6_1, nq_6_2, nq_6_3, nq_6_4, nq_6_5, nq_6_7, nq_7_0, nq_7_1, nq_7_2, nq_7_3, nq_7_4, nq_7_5, nq_7_6])
section
variable {P : Program} {w : World} {K : PySem.W.Frag} {mg : Str → Option Value} {base : Heap}
theorem sc_apart_in : FnScope ["panel", "first", "second", "some", "found", "switch"] ["panel", "first", "second"] (defScope (top 60)) := ⟨rfl, rfl, rfl, by decide +kernel, rfl, by decide +kernel, by decide +kernel⟩
def sp_apart_in (K : PySem.W.Frag) : DSp := fun ds M post => ∃ (fg : Bool) (p : Pan) (t u : List Bool), ds = [panF K fg p, setD t, setD u] ∧ (t.length = p.ss.length ∧ u.length = p.ss.length ∧ post (optS (apartL p t u).head?) M)
theorem cl_apart_in {fg : Bool} {p : Pan} {t u : List Bool} {M : Mem} {post : WK} : sp_apart_in K [panF K fg p, setD t, setD u] M post = (t.length = p.ss.length ∧ u.length = p.ss.length ∧ post (optS (apartL p t u).head?) M) := by
  simp [-Bool.exists_bool, sp_apart_in, tp_inj, litD_inj, strs_inj, ruleD_inj, clD_inj, setD_inj, rules_inj, lits_inj, sets_inj, ints_inj, panF_inj, rngs_inj, rngE_inj, sg_inj, and_assoc, Int.natCast_inj]
local macro_rules | `(tactic| walk_at "apart_in") => `(tactic| simp only [↓cl_locked_switches, cl_locked_switches, ↓cl_unlike, cl_unlike, ↓FD.sSeq_e, ↓FD.sRet_e, ↓FD.sIf_e, ↓FD.sAsg_e, ↓FD.gSet_e, ↓FD.sDrop_e, ↓FD.sNext_e, ↓FD.sPar_e, ↓FD.sPar3_e, ↓FD.wIf_e, ↓FD.wOp_e, ↓FD.wUn_e, ↓FD.wVar_e, ↓FD.wC_e, ↓FD.wTst_e, ↓FD.wAnd_e, ↓FD.wOr_e, ↓FD.wNot_e, ↓FD.wAndV_e, ↓FD.wOrV_e, ↓FD.wNotV_e, ↓FD.wChain_e, ↓FD.aNil_e, ↓FD.aCons_e, ↓FD.wTup_e, ↓FD.wLst_e, ↓FD.wFtp_e, ↓FD.wNew_e, ↓FD.wCall_e, ↓FD.wB_e, ↓FD.wSl_e, ↓FD.oSome_e, ↓FD.oNone_e, ↓FD.wIsi_e, ↓FD.wIsiC_e, ↓FD.p1_e, ↓FD.p2_e, ↓FD.gLen_e, ↓FD.iLst_e, ↓FD.iTup_e, ↓FD.iStrD_e, ↓FD.iEnT_e, ↓FD.iEnL_e, ↓FD.iRng_e, ↓FD.iRng2_e, ↓FD.gTup_e, ↓FD.gsNil_e, ↓FD.gsCons_e, ↓FD.wM_e, ↓FD.wIxT_e, ↓FD.wFld_e, ↓FD.wMeth_e, ↓FD.wMake_e, ↓FD.sFldD_e, ↓FD.wDGet_e, ↓FD.sDput_e, ↓FD.wDNewK_e, ↓FD.wDNewT_e, ↓FD.wDisp1_e, ↓FD.wIce_e, ↓FD.gSub_e, ↓FD.wCallK_e, ↓FD.t1_e, ↓FD.t2_e, ↓FD.t1w_e, ↓FD.tYesD_e, ↓FD.gDIn_e, ↓FD.gDNin_e, ↓FD.gIndexT_e, ↓FD.gIndex_e, ↓FD.gInt_e, ↓FD.gAbs_e, ↓FD.gMax_e, ↓FD.gMin_e, ↓FD.gDivmod_e, ↓FD.wFz_e, ↓FD.wDGetD_e, ↓FD.t3_e, ↓FD.iZip3D_e, ↓sFor_eq, ↓wLc_eq, ↓wLc2_eq, ↓wDc_eq, ↓look_zero, ↓look_succ, ↓got_so, ↓isB_bl, ↓isI_int, ↓isS_str, ↓isT_tup, ↓isT_ftp, ↓isT_ktp, ↓isT_tp, ↓one_one, ↓two_two, ↓startD_cc, ↓startD_cn, ↓startD_nn, ↓FD.ix_str, ↓FD.ix_tup, ↓ix_ftp, ↓ix_ktp, ↓ix_lst, ↓ix_scr, ↓ix_tp, ↓atI0, ↓atI1, ↓atI2, ↓atI3, ↓FD.eq_str, ↓FD.ne_str, ↓FD.eq_int, ↓FD.ne_int, ↓FD.add_int, ↓FD.sub_int, ↓FD.lt_int, ↓FD.le_int, ↓FD.gt_int, ↓FD.ge_int, ↓FD.add_str, ↓FD.add_lst, ↓FD.add_tup, ↓FD.mul_int, ↓FD.mod_int, ↓FD.fdiv_int, ↓FD.pow_int, ↓isN_non, ↓notN_non, ↓FD.len_str, ↓len_tup, ↓len_ftp, ↓len_ktp, ↓len_lst, ↓len_scr, ↓len_tp, ↓seq_tup, ↓seq_ftp, ↓seq_ktp, ↓seq_lst, ↓seq_scr, ↓seq_tp, ↓in_tup, ↓in_ftp, ↓in_ktp, ↓in_lst, ↓nin_tup, ↓nin_ftp, ↓nin_ktp, ↓nin_lst, ↓FD.in_str, ↓nin_str, ↓isC_one, ↓asL_lst, ↓asL_scr, ↓if_tt, ↓if_ff, ↓isi_ss, ↓isi_tt, ↓isi_st, ↓isi_ts, ↓ty_str, ↓ty_tup, ↓ty_ftp, ↓ty_tp, ↓all_lst, ↓any_lst, ↓flat_s, ↓flat_set, ↓tuple_lst, ↓FD.int_int, ↓eq_ftp_nil, ↓ne_ftp_nil, ↓isNon_non, ↓isNon_int, ↓isNon_str, ↓isNon_ptr, ↓isNon_tup, ↓isNon_ftp, ↓inL_strs, ↓flatSs, ↓inL_sets, ↓flatSets, ↓FM.tw, ↓FM.tw3, ↓FM.sl_str, ↓sl_set, ↓cell_upd, ↓lk_sw, ↓lk_ru, ↓lk_st, ↓lk_place, ↓lk_has, ↓lk_keeps, ↓lk_wrongs, ↓lk_goods, ↓lk_ways_from, ↓lk_text, ↓ins_pan, ↓FD.fit_le, ↓cx_K, ↓nox_K, ↓blk_K, ↓bx_K, ↓c1, ↓c2, ↓c3, ↓c4, ↓inL_cons, ↓inL_nil, ↓all_bools, ↓any_bools, ↓in_tp, ↓nin_tp, ↓FM.sl_ftp, ↓FM.sl_tup, ↓FM.sl_lst, ↓FM.sl_scr, ↓index_eq, ↓ex_ftp, ↓eqd_str, ↓wf_at, ↓isT_cl, ↓isT_st, ↓isT_lit, ↓ix_lit0, ↓ix_lit1, ↓len_lit, ↓ty_lit, ↓eq_lit, ↓ne_lit, ↓eq_set, ↓ne_set, ↓len_set, ↓ty_set, ↓isS_set, ↓isC_sg, ↓sNever_e, ↓enumD_map, ↓dpAll_strs, ↓dpAll_mapI, ↓ne_lst_nil, ↓eq_lst_nil, ↓isT_grp, ↓len_grp, ↓isDc_wf, ↓wn_at, ↓isT_way, ↓len_way, ↓ty_way, ↓ty_st, ↓len_st, ↓ix_st0, ↓ix_st1, ↓inD_lits, ↓ninD_lits, ↓dpAll_sets, ↓three_three, ↓zip3_sets, ↓isT_z3, ↓inL_lock, ↓ninT_lits, ↓FM.tp_t, ↓FM.tp_f, Bool.not_true, Bool.not_false, Bool.false_eq_true, if_false, if_true, true_and, and_true, List.set_cons_zero, List.set_cons_succ, List.length_cons, List.length_nil, List.length_map, eq_self, decide_true, decide_false, Bool.true_eq_false, or_self, Bool.or_self, List.all_cons, List.all_nil, Bool.and_true, Bool.true_and, Bool.or_false, Bool.false_or, Bool.or_true, Bool.true_or, Bool.and_false, Bool.false_and, Int.reduceLT, Int.reduceLE, Int.reduceEq, Nat.reduceLeDiff, Nat.reduceAdd, Nat.reduceLT, wf_some, wn_some, fold_lit, fold_litp, fold_litm, sg_iff, sg_in_pm, isNon_opt, isEmpty_map, ↓reduceIte, nq_0_1, nq_0_2, nq_0_3, nq_0_4, nq_0_5, nq_0_6, nq_0_7, nq_1_0, nq_1_2, nq_1_3, nq_1_4, nq_1_5, nq_1_6, nq_1_7, nq_2_0, nq_2_1, nq_2_3, nq_2_4, nq_2_5, nq_2_6, nq_2_7, nq_3_0, nq_3_1, nq_3_2, nq_3_4, nq_3_5, nq_3_6, nq_3_7, nq_4_0, nq_4_1, nq_4_2, nq_4_3, nq_4_5, nq_4_6, nq_4_7, nq_5_0, nq_5_1, nq_5_2, nq_5_3, nq_5_4, nq_5_6, nq_5_7, nq_6_0, nq_6_1, nq_6_2, nq_6_3, nq_6_4, nq_6_5, nq_6_7, nq_7_0, nq_7_1, nq_7_2, nq_7_3, nq_7_4, nq_7_5, nq_7_6])
theorem fn_apart_in (T : Tx P w K mg base) : Fng P w K mg base 6 "apart_in" (top 60) ["panel", "first", "second"] (sp_apart_in K) := by
  have S := sc_apart_in
  refine fng_of T.d_apart_in T.g_apart_in S (fun ds M post h => by unfold sp_apart_in at h; grind) fun f cdv A outer s H gd hr => ⟨_, (ds_cons (ds_set (i := 3) S.nd (de_call (ok_locked_switches T) (hr.mono (by decide)) gd (da_cons (dv 0) da_nil)))
      (ds_cons (ds_setLc (i := 4) (own := [("switch", 5)]) rfl S.nd (di_list (de_call (ok_unlike T) (hr.mono (by decide)) gd (da_cons (dv 0) (da_cons (dv 1) (da_cons (dv 2) da_nil))))) (blkOk_by (N := ["panel", "first", "second", "some", "found", "switch"]) (sc := defScope (top 60)) (by decide +kernel)) tgt1 (fun _ _ _ _ _ => pg_name (i := 5) S.nd rfl (Or.inl rfl)) (fun _ _ _ _ _ => (dts_one (dt_cmp o_in (dv 5) (dv 3)))) (fun _ _ _ _ _ => (dv 5)) (sw_true rfl rfl rfl (by decide +kernel)))
      (ds_one (ds_ret (de_if (dt_cmp (o_ne hr) (dv 4) (de_lst da_nil)) (de_ix o_ix (dv 4) dint) dnon))))), ?_⟩
  rintro ds M post ⟨fg, p, t, u, rfl, h1, h2, h⟩
  (try walk_at "apart_in")
  refine ⟨h1, h2, ?_⟩
  refine lc_pure (unlikeL p.ss t u) D.str (fun x => decide (x ∈ lockS p)) D.str trivial ?_ ?_
  · intro x hx yes no hy hn
    (try walk_at "apart_in")
    by_cases e : x ∈ lockS p
    · simp only [e, decide_true]; (try walk_at "apart_in"); exact hy (decide_eq_true e)
    · simp only [e, decide_false]; (try walk_at "apart_in"); exact hn (decide_eq_false e)
  · have en : (unlikeL p.ss t u).filter (fun x => decide (x ∈ lockS p)) = apartL p t u := rfl
    rw [en]
    (try walk_at "apart_in")
    first | exact head_cases.mpr h | (rw [head_cases]; exact h) | (refine ⟨by omega, ?_⟩; rw [head_cases]; exact h)
theorem ok_apart_in (T : Tx P w K mg base) : Pub P w K mg base 6 "apart_in" ["panel", "first", "second"] (sp_apart_in K) := (fn_apart_in T).pub fun _ _ _ _ _ _ us hl => match us, hl with | [_, _, _], _ => rfl
theorem sc_comes : FnScope ["panel", "first", "second"] ["panel", "first", "second"] (defScope (top 61)) := ⟨rfl, rfl, rfl, by decide +kernel, rfl, by decide +kernel, by decide +kernel⟩
def sp_comes (K : PySem.W.Frag) : DSp := fun ds M post => ∃ (fg : Bool) (p : Pan) (t u : List Bool), ds = [panF K fg p, setD t, setD u] ∧ (t.length = p.ss.length ∧ good p.ss p.rs t = true ∧ u.length = p.ss.length ∧ good p.ss p.rs u = true ∧ post (.bl (apartL p t u).isEmpty) M)
theorem cl_comes {fg : Bool} {p : Pan} {t u : List Bool} {M : Mem} {post : WK} : sp_comes K [panF K fg p, setD t, setD u] M post = (t.length = p.ss.length ∧ good p.ss p.rs t = true ∧ u.length = p.ss.length ∧ good p.ss p.rs u = true ∧ post (.bl (apartL p t u).isEmpty) M) := by
  simp [-Bool.exists_bool, sp_comes, tp_inj, litD_inj, strs_inj, ruleD_inj, clD_inj, setD_inj, rules_inj, lits_inj, sets_inj, ints_inj, panF_inj, rngs_inj, rngE_inj, sg_inj, and_assoc, Int.natCast_inj]
local macro_rules | `(tactic| walk_at "comes") => `(tactic| simp only [↓cl_check_two, cl_check_two, ↓cl_apart_in, cl_apart_in, ↓FD.sSeq_e, ↓FD.sRet_e, ↓FD.sIf_e, ↓FD.sAsg_e, ↓FD.gSet_e, ↓FD.sDrop_e, ↓FD.sNext_e, ↓FD.sPar_e, ↓FD.sPar3_e, ↓FD.wIf_e, ↓FD.wOp_e, ↓FD.wUn_e, ↓FD.wVar_e, ↓FD.wC_e, ↓FD.wTst_e, ↓FD.wAnd_e, ↓FD.wOr_e, ↓FD.wNot_e, ↓FD.wAndV_e, ↓FD.wOrV_e, ↓FD.wNotV_e, ↓FD.wChain_e, ↓FD.aNil_e, ↓FD.aCons_e, ↓FD.wTup_e, ↓FD.wLst_e, ↓FD.wFtp_e, ↓FD.wNew_e, ↓FD.wCall_e, ↓FD.wB_e, ↓FD.wSl_e, ↓FD.oSome_e, ↓FD.oNone_e, ↓FD.wIsi_e, ↓FD.wIsiC_e, ↓FD.p1_e, ↓FD.p2_e, ↓FD.gLen_e, ↓FD.iLst_e, ↓FD.iTup_e, ↓FD.iStrD_e, ↓FD.iEnT_e, ↓FD.iEnL_e, ↓FD.iRng_e, ↓FD.iRng2_e, ↓FD.gTup_e, ↓FD.gsNil_e, ↓FD.gsCons_e, ↓FD.wM_e, ↓FD.wIxT_e, ↓FD.wFld_e, ↓FD.wMeth_e, ↓FD.wMake_e, ↓FD.sFldD_e, ↓FD.wDGet_e, ↓FD.sDput_e, ↓FD.wDNewK_e, ↓FD.wDNewT_e, ↓FD.wDisp1_e, ↓FD.wIce_e, ↓FD.gSub_e, ↓FD.wCallK_e, ↓FD.t1_e, ↓FD.t2_e, ↓FD.t1w_e, ↓FD.tYesD_e, ↓FD.gDIn_e, ↓FD.gDNin_e, ↓FD.gIndexT_e, ↓FD.gIndex_e, ↓FD.gInt_e, ↓FD.gAbs_e, ↓FD.gMax_e, ↓FD.gMin_e, ↓FD.gDivmod_e, ↓FD.wFz_e, ↓FD.wDGetD_e, ↓FD.t3_e, ↓FD.iZip3D_e, ↓sFor_eq, ↓wLc_eq, ↓wLc2_eq, ↓wDc_eq, ↓look_zero, ↓look_succ, ↓got_so, ↓isB_bl, ↓isI_int, ↓isS_str, ↓isT_tup, ↓isT_ftp, ↓isT_ktp, ↓isT_tp, ↓one_one, ↓two_two, ↓startD_cc, ↓startD_cn, ↓startD_nn, ↓FD.ix_str, ↓FD.ix_tup, ↓ix_ftp, ↓ix_ktp, ↓ix_lst, ↓ix_scr, ↓ix_tp, ↓atI0, ↓atI1, ↓atI2, ↓atI3, ↓FD.eq_str, ↓FD.ne_str, ↓FD.eq_int, ↓FD.ne_int, ↓FD.add_int, ↓FD.sub_int, ↓FD.lt_int, ↓FD.le_int, ↓FD.gt_int, ↓FD.ge_int, ↓FD.add_str, ↓FD.add_lst, ↓FD.add_tup, ↓FD.mul_int, ↓FD.mod_int, ↓FD.fdiv_int, ↓FD.pow_int, ↓isN_non, ↓notN_non, ↓FD.len_str, ↓len_tup, ↓len_ftp, ↓len_ktp, ↓len_lst, ↓len_scr, ↓len_tp, ↓seq_tup, ↓seq_ftp, ↓seq_ktp, ↓seq_lst, ↓seq_scr, ↓seq_tp, ↓in_tup, ↓in_ftp, ↓in_ktp, ↓in_lst, ↓nin_tup, ↓nin_ftp, ↓nin_ktp, ↓nin_lst, ↓FD.in_str, ↓nin_str, ↓isC_one, ↓asL_lst, ↓asL_scr, ↓if_tt, ↓if_ff, ↓isi_ss, ↓isi_tt, ↓isi_st, ↓isi_ts, ↓ty_str, ↓ty_tup, ↓ty_ftp, ↓ty_tp, ↓all_lst, ↓any_lst, ↓flat_s, ↓flat_set, ↓tuple_lst, ↓FD.int_int, ↓eq_ftp_nil, ↓ne_ftp_nil, ↓isNon_non, ↓isNon_int, ↓isNon_str, ↓isNon_ptr, ↓isNon_tup, ↓isNon_ftp, ↓inL_strs, ↓flatSs, ↓inL_sets, ↓flatSets, ↓FM.tw, ↓FM.tw3, ↓FM.sl_str, ↓sl_set, ↓cell_upd, ↓lk_sw, ↓lk_ru, ↓lk_st, ↓lk_place, ↓lk_has, ↓lk_keeps, ↓lk_wrongs, ↓lk_goods, ↓lk_ways_from, ↓lk_text, ↓ins_pan, ↓FD.fit_le, ↓cx_K, ↓nox_K, ↓blk_K, ↓bx_K, ↓c1, ↓c2, ↓c3, ↓c4, ↓inL_cons, ↓inL_nil, ↓all_bools, ↓any_bools, ↓in_tp, ↓nin_tp, ↓FM.sl_ftp, ↓FM.sl_tup, ↓FM.sl_lst, ↓FM.sl_scr, ↓index_eq, ↓ex_ftp, ↓eqd_str, ↓wf_at, ↓isT_cl, ↓isT_st, ↓isT_lit, ↓ix_lit0, ↓ix_lit1, ↓len_lit, ↓ty_lit, ↓eq_lit, ↓ne_lit, ↓eq_set, ↓ne_set, ↓len_set, ↓ty_set, ↓isS_set, ↓isC_sg, ↓sNever_e, ↓enumD_map, ↓dpAll_strs, ↓dpAll_mapI, ↓ne_lst_nil, ↓eq_lst_nil, ↓isT_grp, ↓len_grp, ↓isDc_wf, ↓wn_at, ↓isT_way, ↓len_way, ↓ty_way, ↓ty_st, ↓len_st, ↓ix_st0, ↓ix_st1, ↓inD_lits, ↓ninD_lits, ↓dpAll_sets, ↓three_three, ↓zip3_sets, ↓isT_z3, ↓inL_lock, ↓ninT_lits, ↓FM.tp_t, ↓FM.tp_f, Bool.not_true, Bool.not_false, Bool.false_eq_true, if_false, if_true, true_and, and_true, List.set_cons_zero, List.set_cons_succ, List.length_cons, List.length_nil, List.length_map, eq_self, decide_true, decide_false, Bool.true_eq_false, or_self, Bool.or_self, List.all_cons, List.all_nil, Bool.and_true, Bool.true_and, Bool.or_false, Bool.false_or, Bool.or_true, Bool.true_or, Bool.and_false, Bool.false_and, Int.reduceLT, Int.reduceLE, Int.reduceEq, Nat.reduceLeDiff, Nat.reduceAdd, Nat.reduceLT, wf_some, wn_some, fold_lit, fold_litp, fold_litm, sg_iff, sg_in_pm, isNon_opt, isEmpty_map, ↓reduceIte, nq_0_1, nq_0_2, nq_0_3, nq_0_4, nq_0_5, nq_0_6, nq_0_7, nq_1_0, nq_1_2, nq_1_3, nq_1_4, nq_1_5, nq_1_6, nq_1_7, nq_2_0, nq_2_1, nq_2_3, nq_2_4, nq_2_5, nq_2_6, nq_2_7, nq_3_0, nq_3_1, nq_3_2, nq_3_4, nq_3_5, nq_3_6, nq_3_7, nq_4_0, nq_4_1, nq_4_2, nq_4_3, nq_4_5, nq_4_6, nq_4_7, nq_5_0, nq_5_1, nq_5_2, nq_5_3, nq_5_4, nq_5_6, nq_5_7, nq_6_0, nq_6_1, nq_6_2, nq_6_3, nq_6_4, nq_6_5, nq_6_7, nq_7_0, nq_7_1, nq_7_2, nq_7_3, nq_7_4, nq_7_5, nq_7_6])
theorem fn_comes (T : Tx P w K mg base) : Fng P w K mg base 9 "comes" (top 61) ["panel", "first", "second"] (sp_comes K) := by
  have S := sc_comes
  refine fng_of T.d_comes T.g_comes S (fun ds M post h => by unfold sp_comes at h; grind) fun f cdv A outer s H gd hr => ⟨_, (ds_cons (ds_expr (de_call (ok_check_two T) (hr.mono (by decide)) gd (da_cons (dv 0) (da_cons (dv 1) (da_cons (dv 2) da_nil)))))
      (ds_one (ds_ret (de_cmp o_isN (de_call (ok_apart_in T) (hr.mono (by decide)) gd (da_cons (dv 0) (da_cons (dv 1) (da_cons (dv 2) da_nil)))) dnon)))), ?_⟩
  rintro ds M post ⟨fg, p, t, u, rfl, h1, h2, h3, h4, h⟩
  have e : (apartL p t u).head?.isNone = (apartL p t u).isEmpty := by cases apartL p t u <;> rfl
  (try walk_at "comes")
  rw [isNon_optS, e]
  exact ⟨h1, h2, h3, h4, h1, h3, h⟩
theorem ok_comes (T : Tx P w K mg base) : Pub P w K mg base 9 "comes" ["panel", "first", "second"] (sp_comes K) := (fn_comes T).pub fun _ _ _ _ _ _ us hl => match us, hl with | [_, _, _], _ => rfl
theorem sc_check_some : FnScope ["panel"] ["panel"] (defScope (top 52)) := ⟨rfl, rfl, rfl, by decide +kernel, rfl, by decide +kernel, by decide +kernel⟩
def sp_check_some (K : PySem.W.Frag) : DSp := fun ds M post => ∃ (fg : Bool) (p : Pan), ds = [panF K fg p] ∧ (hasGood p.ss p.rs = true ∧ post .non M)
theorem cl_check_some {fg : Bool} {p : Pan} {M : Mem} {post : WK} : sp_check_some K [panF K fg p] M post = (hasGood p.ss p.rs = true ∧ post .non M) := by
  simp [-Bool.exists_bool, sp_check_some, tp_inj, litD_inj, strs_inj, ruleD_inj, clD_inj, setD_inj, rules_inj, lits_inj, sets_inj, ints_inj, panF_inj, rngs_inj, rngE_inj, sg_inj, and_assoc, Int.natCast_inj]
local macro_rules | `(tactic| walk_at "check_some") => `(tactic| simp only [↓cl_check_panel, cl_check_panel, ↓cl_has_good, cl_has_good, ↓FD.sSeq_e, ↓FD.sRet_e, ↓FD.sIf_e, ↓FD.sAsg_e, ↓FD.gSet_e, ↓FD.sDrop_e, ↓FD.sNext_e, ↓FD.sPar_e, ↓FD.sPar3_e, ↓FD.wIf_e, ↓FD.wOp_e, ↓FD.wUn_e, ↓FD.wVar_e, ↓FD.wC_e, ↓FD.wTst_e, ↓FD.wAnd_e, ↓FD.wOr_e, ↓FD.wNot_e, ↓FD.wAndV_e, ↓FD.wOrV_e, ↓FD.wNotV_e, ↓FD.wChain_e, ↓FD.aNil_e, ↓FD.aCons_e, ↓FD.wTup_e, ↓FD.wLst_e, ↓FD.wFtp_e, ↓FD.wNew_e, ↓FD.wCall_e, ↓FD.wB_e, ↓FD.wSl_e, ↓FD.oSome_e, ↓FD.oNone_e, ↓FD.wIsi_e, ↓FD.wIsiC_e, ↓FD.p1_e, ↓FD.p2_e, ↓FD.gLen_e, ↓FD.iLst_e, ↓FD.iTup_e, ↓FD.iStrD_e, ↓FD.iEnT_e, ↓FD.iEnL_e, ↓FD.iRng_e, ↓FD.iRng2_e, ↓FD.gTup_e, ↓FD.gsNil_e, ↓FD.gsCons_e, ↓FD.wM_e, ↓FD.wIxT_e, ↓FD.wFld_e, ↓FD.wMeth_e, ↓FD.wMake_e, ↓FD.sFldD_e, ↓FD.wDGet_e, ↓FD.sDput_e, ↓FD.wDNewK_e, ↓FD.wDNewT_e, ↓FD.wDisp1_e, ↓FD.wIce_e, ↓FD.gSub_e, ↓FD.wCallK_e, ↓FD.t1_e, ↓FD.t2_e, ↓FD.t1w_e, ↓FD.tYesD_e, ↓FD.gDIn_e, ↓FD.gDNin_e, ↓FD.gIndexT_e, ↓FD.gIndex_e, ↓FD.gInt_e, ↓FD.gAbs_e, ↓FD.gMax_e, ↓FD.gMin_e, ↓FD.gDivmod_e, ↓FD.wFz_e, ↓FD.wDGetD_e, ↓FD.t3_e, ↓FD.iZip3D_e, ↓sFor_eq, ↓wLc_eq, ↓wLc2_eq, ↓wDc_eq, ↓look_zero, ↓look_succ, ↓got_so, ↓isB_bl, ↓isI_int, ↓isS_str, ↓isT_tup, ↓isT_ftp, ↓isT_ktp, ↓isT_tp, ↓one_one, ↓two_two, ↓startD_cc, ↓startD_cn, ↓startD_nn, ↓FD.ix_str, ↓FD.ix_tup, ↓ix_ftp, ↓ix_ktp, ↓ix_lst, ↓ix_scr, ↓ix_tp, ↓atI0, ↓atI1, ↓atI2, ↓atI3, ↓FD.eq_str, ↓FD.ne_str, ↓FD.eq_int, ↓FD.ne_int, ↓FD.add_int, ↓FD.sub_int, ↓FD.lt_int, ↓FD.le_int, ↓FD.gt_int, ↓FD.ge_int, ↓FD.add_str, ↓FD.add_lst, ↓FD.add_tup, ↓FD.mul_int, ↓FD.mod_int, ↓FD.fdiv_int, ↓FD.pow_int, ↓isN_non, ↓notN_non, ↓FD.len_str, ↓len_tup, ↓len_ftp, ↓len_ktp, ↓len_lst, ↓len_scr, ↓len_tp, ↓seq_tup, ↓seq_ftp, ↓seq_ktp, ↓seq_lst, ↓seq_scr, ↓seq_tp, ↓in_tup, ↓in_ftp, ↓in_ktp, ↓in_lst, ↓nin_tup, ↓nin_ftp, ↓nin_ktp, ↓nin_lst, ↓FD.in_str, ↓nin_str, ↓isC_one, ↓asL_lst, ↓asL_scr, ↓if_tt, ↓if_ff, ↓isi_ss, ↓isi_tt, ↓isi_st, ↓isi_ts, ↓ty_str, ↓ty_tup, ↓ty_ftp, ↓ty_tp, ↓all_lst, ↓any_lst, ↓flat_s, ↓flat_set, ↓tuple_lst, ↓FD.int_int, ↓eq_ftp_nil, ↓ne_ftp_nil, ↓isNon_non, ↓isNon_int, ↓isNon_str, ↓isNon_ptr, ↓isNon_tup, ↓isNon_ftp, ↓inL_strs, ↓flatSs, ↓inL_sets, ↓flatSets, ↓FM.tw, ↓FM.tw3, ↓FM.sl_str, ↓sl_set, ↓cell_upd, ↓lk_sw, ↓lk_ru, ↓lk_st, ↓lk_place, ↓lk_has, ↓lk_keeps, ↓lk_wrongs, ↓lk_goods, ↓lk_ways_from, ↓lk_text, ↓ins_pan, ↓FD.fit_le, ↓cx_K, ↓nox_K, ↓blk_K, ↓bx_K, ↓c1, ↓c2, ↓c3, ↓c4, ↓inL_cons, ↓inL_nil, ↓all_bools, ↓any_bools, ↓in_tp, ↓nin_tp, ↓FM.sl_ftp, ↓FM.sl_tup, ↓FM.sl_lst, ↓FM.sl_scr, ↓index_eq, ↓ex_ftp, ↓eqd_str, ↓wf_at, ↓isT_cl, ↓isT_st, ↓isT_lit, ↓ix_lit0, ↓ix_lit1, ↓len_lit, ↓ty_lit, ↓eq_lit, ↓ne_lit, ↓eq_set, ↓ne_set, ↓len_set, ↓ty_set, ↓isS_set, ↓isC_sg, ↓sNever_e, ↓enumD_map, ↓dpAll_strs, ↓dpAll_mapI, ↓ne_lst_nil, ↓eq_lst_nil, ↓isT_grp, ↓len_grp, ↓isDc_wf, ↓wn_at, ↓isT_way, ↓len_way, ↓ty_way, ↓ty_st, ↓len_st, ↓ix_st0, ↓ix_st1, ↓inD_lits, ↓ninD_lits, ↓dpAll_sets, ↓three_three, ↓zip3_sets, ↓isT_z3, ↓inL_lock, ↓ninT_lits, ↓FM.tp_t, ↓FM.tp_f, Bool.not_true, Bool.not_false, Bool.false_eq_true, if_false, if_true, true_and, and_true, List.set_cons_zero, List.set_cons_succ, List.length_cons, List.length_nil, List.length_map, eq_self, decide_true, decide_false, Bool.true_eq_false, or_self, Bool.or_self, List.all_cons, List.all_nil, Bool.and_true, Bool.true_and, Bool.or_false, Bool.false_or, Bool.or_true, Bool.true_or, Bool.and_false, Bool.false_and, Int.reduceLT, Int.reduceLE, Int.reduceEq, Nat.reduceLeDiff, Nat.reduceAdd, Nat.reduceLT, wf_some, wn_some, fold_lit, fold_litp, fold_litm, sg_iff, sg_in_pm, isNon_opt, isEmpty_map, ↓reduceIte, nq_0_1, nq_0_2, nq_0_3, nq_0_4, nq_0_5, nq_0_6, nq_0_7, nq_1_0, nq_1_2, nq_1_3, nq_1_4, nq_1_5, nq_1_6, nq_1_7, nq_2_0, nq_2_1, nq_2_3, nq_2_4, nq_2_5, nq_2_6, nq_2_7, nq_3_0, nq_3_1, nq_3_2, nq_3_4, nq_3_5, nq_3_6, nq_3_7, nq_4_0, nq_4_1, nq_4_2, nq_4_3, nq_4_5, nq_4_6, nq_4_7, nq_5_0, nq_5_1, nq_5_2, nq_5_3, nq_5_4, nq_5_6, nq_5_7, nq_6_0, nq_6_1, nq_6_2, nq_6_3, nq_6_4, nq_6_5, nq_6_7, nq_7_0, nq_7_1, nq_7_2, nq_7_3, nq_7_4, nq_7_5, nq_7_6])
theorem fn_check_some (T : Tx P w K mg base) : Fng P w K mg base 4 "check_some" (top 52) ["panel"] (sp_check_some K) := by
  have S := sc_check_some
  refine fng_of T.d_check_some T.g_check_some S (fun ds M post h => by unfold sp_check_some at h; grind) fun f cdv A outer s H gd hr => ⟨_, (ds_cons (ds_expr (de_call (ok_check_panel T) (hr.mono (by decide)) gd (da_cons (dv 0) da_nil)))
      (ds_one (ds_if (dt_not (dt_val (de_call (ok_has_good T) (hr.mono (by decide)) gd (da_cons (dv 0) da_nil))))
      (ds_one ds_never)
      ds_nil))), ?_⟩
  rintro ds M post ⟨fg, p, rfl, h1, h⟩
  (try walk_at "check_some")
  simp only [h1]
  (try walk_at "check_some")
  exact h
theorem ok_check_some (T : Tx P w K mg base) : Pub P w K mg base 4 "check_some" ["panel"] (sp_check_some K) := (fn_check_some T).pub fun _ _ _ _ _ _ us hl => match us, hl with | [_], _ => rfl
theorem sc_locked : FnScope ["panel"] ["panel"] (defScope (top 58)) := ⟨rfl, rfl, rfl, by decide +kernel, rfl, by decide +kernel, by decide +kernel⟩
def sp_locked (K : PySem.W.Frag) : DSp := fun ds M post => ∃ (fg : Bool) (p : Pan), ds = [panF K fg p] ∧ (hasGood p.ss p.rs = true ∧ post (strsF (lockedL p.ss p.rs)) M)
theorem cl_locked {fg : Bool} {p : Pan} {M : Mem} {post : WK} : sp_locked K [panF K fg p] M post = (hasGood p.ss p.rs = true ∧ post (strsF (lockedL p.ss p.rs)) M) := by
  simp [-Bool.exists_bool, sp_locked, tp_inj, litD_inj, strs_inj, ruleD_inj, clD_inj, setD_inj, rules_inj, lits_inj, sets_inj, ints_inj, panF_inj, rngs_inj, rngE_inj, sg_inj, and_assoc, Int.natCast_inj]
local macro_rules | `(tactic| walk_at "locked") => `(tactic| simp only [↓cl_check_some, cl_check_some, ↓cl_locked_switches, cl_locked_switches, ↓FD.sSeq_e, ↓FD.sRet_e, ↓FD.sIf_e, ↓FD.sAsg_e, ↓FD.gSet_e, ↓FD.sDrop_e, ↓FD.sNext_e, ↓FD.sPar_e, ↓FD.sPar3_e, ↓FD.wIf_e, ↓FD.wOp_e, ↓FD.wUn_e, ↓FD.wVar_e, ↓FD.wC_e, ↓FD.wTst_e, ↓FD.wAnd_e, ↓FD.wOr_e, ↓FD.wNot_e, ↓FD.wAndV_e, ↓FD.wOrV_e, ↓FD.wNotV_e, ↓FD.wChain_e, ↓FD.aNil_e, ↓FD.aCons_e, ↓FD.wTup_e, ↓FD.wLst_e, ↓FD.wFtp_e, ↓FD.wNew_e, ↓FD.wCall_e, ↓FD.wB_e, ↓FD.wSl_e, ↓FD.oSome_e, ↓FD.oNone_e, ↓FD.wIsi_e, ↓FD.wIsiC_e, ↓FD.p1_e, ↓FD.p2_e, ↓FD.gLen_e, ↓FD.iLst_e, ↓FD.iTup_e, ↓FD.iStrD_e, ↓FD.iEnT_e, ↓FD.iEnL_e, ↓FD.iRng_e, ↓FD.iRng2_e, ↓FD.gTup_e, ↓FD.gsNil_e, ↓FD.gsCons_e, ↓FD.wM_e, ↓FD.wIxT_e, ↓FD.wFld_e, ↓FD.wMeth_e, ↓FD.wMake_e, ↓FD.sFldD_e, ↓FD.wDGet_e, ↓FD.sDput_e, ↓FD.wDNewK_e, ↓FD.wDNewT_e, ↓FD.wDisp1_e, ↓FD.wIce_e, ↓FD.gSub_e, ↓FD.wCallK_e, ↓FD.t1_e, ↓FD.t2_e, ↓FD.t1w_e, ↓FD.tYesD_e, ↓FD.gDIn_e, ↓FD.gDNin_e, ↓FD.gIndexT_e, ↓FD.gIndex_e, ↓FD.gInt_e, ↓FD.gAbs_e, ↓FD.gMax_e, ↓FD.gMin_e, ↓FD.gDivmod_e, ↓FD.wFz_e, ↓FD.wDGetD_e, ↓FD.t3_e, ↓FD.iZip3D_e, ↓sFor_eq, ↓wLc_eq, ↓wLc2_eq, ↓wDc_eq, ↓look_zero, ↓look_succ, ↓got_so, ↓isB_bl, ↓isI_int, ↓isS_str, ↓isT_tup, ↓isT_ftp, ↓isT_ktp, ↓isT_tp, ↓one_one, ↓two_two, ↓startD_cc, ↓startD_cn, ↓startD_nn, ↓FD.ix_str, ↓FD.ix_tup, ↓ix_ftp, ↓ix_ktp, ↓ix_lst, ↓ix_scr, ↓ix_tp, ↓atI0, ↓atI1, ↓atI2, ↓atI3, ↓FD.eq_str, ↓FD.ne_str, ↓FD.eq_int, ↓FD.ne_int, ↓FD.add_int, ↓FD.sub_int, ↓FD.lt_int, ↓FD.le_int, ↓FD.gt_int, ↓FD.ge_int, ↓FD.add_str, ↓FD.add_lst, ↓FD.add_tup, ↓FD.mul_int, ↓FD.mod_int, ↓FD.fdiv_int, ↓FD.pow_int, ↓isN_non, ↓notN_non, ↓FD.len_str, ↓len_tup, ↓len_ftp, ↓len_ktp, ↓len_lst, ↓len_scr, ↓len_tp, ↓seq_tup, ↓seq_ftp, ↓seq_ktp, ↓seq_lst, ↓seq_scr, ↓seq_tp, ↓in_tup, ↓in_ftp, ↓in_ktp, ↓in_lst, ↓nin_tup, ↓nin_ftp, ↓nin_ktp, ↓nin_lst, ↓FD.in_str, ↓nin_str, ↓isC_one, ↓asL_lst, ↓asL_scr, ↓if_tt, ↓if_ff, ↓isi_ss, ↓isi_tt, ↓isi_st, ↓isi_ts, ↓ty_str, ↓ty_tup, ↓ty_ftp, ↓ty_tp, ↓all_lst, ↓any_lst, ↓flat_s, ↓flat_set, ↓tuple_lst, ↓FD.int_int, ↓eq_ftp_nil, ↓ne_ftp_nil, ↓isNon_non, ↓isNon_int, ↓isNon_str, ↓isNon_ptr, ↓isNon_tup, ↓isNon_ftp, ↓inL_strs, ↓flatSs, ↓inL_sets, ↓flatSets, ↓FM.tw, ↓FM.tw3, ↓FM.sl_str, ↓sl_set, ↓cell_upd, ↓lk_sw, ↓lk_ru, ↓lk_st, ↓lk_place, ↓lk_has, ↓lk_keeps, ↓lk_wrongs, ↓lk_goods, ↓lk_ways_from, ↓lk_text, ↓ins_pan, ↓FD.fit_le, ↓cx_K, ↓nox_K, ↓blk_K, ↓bx_K, ↓c1, ↓c2, ↓c3, ↓c4, ↓inL_cons, ↓inL_nil, ↓all_bools, ↓any_bools, ↓in_tp, ↓nin_tp, ↓FM.sl_ftp, ↓FM.sl_tup, ↓FM.sl_lst, ↓FM.sl_scr, ↓index_eq, ↓ex_ftp, ↓eqd_str, ↓wf_at, ↓isT_cl, ↓isT_st, ↓isT_lit, ↓ix_lit0, ↓ix_lit1, ↓len_lit, ↓ty_lit, ↓eq_lit, ↓ne_lit, ↓eq_set, ↓ne_set, ↓len_set, ↓ty_set, ↓isS_set, ↓isC_sg, ↓sNever_e, ↓enumD_map, ↓dpAll_strs, ↓dpAll_mapI, ↓ne_lst_nil, ↓eq_lst_nil, ↓isT_grp, ↓len_grp, ↓isDc_wf, ↓wn_at, ↓isT_way, ↓len_way, ↓ty_way, ↓ty_st, ↓len_st, ↓ix_st0, ↓ix_st1, ↓inD_lits, ↓ninD_lits, ↓dpAll_sets, ↓three_three, ↓zip3_sets, ↓isT_z3, ↓inL_lock, ↓ninT_lits, ↓FM.tp_t, ↓FM.tp_f, Bool.not_true, Bool.not_false, Bool.false_eq_true, if_false, if_true, true_and, and_true, List.set_cons_zero, List.set_cons_succ, List.length_cons, List.length_nil, List.length_map, eq_self, decide_true, decide_false, Bool.true_eq_false, or_self, Bool.or_self, List.all_cons, List.all_nil, Bool.and_true, Bool.true_and, Bool.or_false, Bool.false_or, Bool.or_true, Bool.true_or, Bool.and_false, Bool.false_and, Int.reduceLT, Int.reduceLE, Int.reduceEq, Nat.reduceLeDiff, Nat.reduceAdd, Nat.reduceLT, wf_some, wn_some, fold_lit, fold_litp, fold_litm, sg_iff, sg_in_pm, isNon_opt, isEmpty_map, ↓reduceIte, nq_0_1, nq_0_2, nq_0_3, nq_0_4, nq_0_5, nq_0_6, nq_0_7, nq_1_0, nq_1_2, nq_1_3, nq_1_4, nq_1_5, nq_1_6, nq_1_7, nq_2_0, nq_2_1, nq_2_3, nq_2_4, nq_2_5, nq_2_6, nq_2_7, nq_3_0, nq_3_1, nq_3_2, nq_3_4, nq_3_5, nq_3_6, nq_3_7, nq_4_0, nq_4_1, nq_4_2, nq_4_3, nq_4_5, nq_4_6, nq_4_7, nq_5_0, nq_5_1, nq_5_2, nq_5_3, nq_5_4, nq_5_6, nq_5_7, nq_6_0, nq_6_1, nq_6_2, nq_6_3, nq_6_4, nq_6_5, nq_6_7, nq_7_0, nq_7_1, nq_7_2, nq_7_3, nq_7_4, nq_7_5, nq_7_6])
theorem fn_locked (T : Tx P w K mg base) : Fng P w K mg base 6 "locked" (top 58) ["panel"] (sp_locked K) := by
  have S := sc_locked
  refine fng_of T.d_locked T.g_locked S (fun ds M post h => by unfold sp_locked at h; grind) fun f cdv A outer s H gd hr => ⟨_, (ds_cons (ds_expr (de_call (ok_check_some T) (hr.mono (by decide)) gd (da_cons (dv 0) da_nil)))
      (ds_one (ds_ret (de_call (ok_locked_switches T) (hr.mono (by decide)) gd (da_cons (dv 0) da_nil))))), ?_⟩
  rintro ds M post ⟨fg, p, rfl, h1, h⟩
  (try walk_at "locked")
  refine ⟨h1, ?_⟩
  unfold lockD lockS
  rw [h1]
  exact h
theorem ok_locked (T : Tx P w K mg base) : Pub P w K mg base 6 "locked" ["panel"] (sp_locked K) := (fn_locked T).pub fun _ _ _ _ _ _ us hl => match us, hl with | [_], _ => rfl
end
end LW

namespace LW
open PySem PySem.Spec PyProof.Rows L2 FD FM
local macro_rules | `(tactic| walk_at "w") => `(tactic| simp only [↓FD.sSeq_e, ↓FD.sRet_e, ↓FD.sIf_e, ↓FD.sAsg_e, ↓FD.gSet_e, ↓FD.sDrop_e, ↓FD.sNext_e, ↓FD.sPar_e, ↓FD.sPar3_e, ↓FD.wIf_e, ↓FD.wOp_e, ↓FD.wUn_e, ↓FD.wVar_e, ↓FD.wC_e, ↓FD.wTst_e, ↓FD.wAnd_e, ↓FD.wOr_e, ↓FD.wNot_e, ↓FD.wAndV_e, ↓FD.wOrV_e, ↓FD.wNotV_e, ↓FD.wChain_e, ↓FD.aNil_e, ↓FD.aCons_e, ↓FD.wTup_e, ↓FD.wLst_e, ↓FD.wFtp_e, ↓FD.wNew_e, ↓FD.wCall_e, ↓FD.wB_e, ↓FD.wSl_e, ↓FD.oSome_e, ↓FD.oNone_e, ↓FD.wIsi_e, ↓FD.wIsiC_e, ↓FD.p1_e, ↓FD.p2_e, ↓FD.gLen_e, ↓FD.iLst_e, ↓FD.iTup_e, ↓FD.iStrD_e, ↓FD.iEnT_e, ↓FD.iEnL_e, ↓FD.iRng_e, ↓FD.iRng2_e, ↓FD.gTup_e, ↓FD.gsNil_e, ↓FD.gsCons_e, ↓FD.wM_e, ↓FD.wIxT_e, ↓FD.wFld_e, ↓FD.wMeth_e, ↓FD.wMake_e, ↓FD.sFldD_e, ↓FD.wDGet_e, ↓FD.sDput_e, ↓FD.wDNewK_e, ↓FD.wDNewT_e, ↓FD.wDisp1_e, ↓FD.wIce_e, ↓FD.gSub_e, ↓FD.wCallK_e, ↓FD.t1_e, ↓FD.t2_e, ↓FD.t1w_e, ↓FD.tYesD_e, ↓FD.gDIn_e, ↓FD.gDNin_e, ↓FD.gIndexT_e, ↓FD.gIndex_e, ↓FD.gInt_e, ↓FD.gAbs_e, ↓FD.gMax_e, ↓FD.gMin_e, ↓FD.gDivmod_e, ↓FD.wFz_e, ↓FD.wDGetD_e, ↓FD.t3_e, ↓FD.iZip3D_e, ↓sFor_eq, ↓wLc_eq, ↓wLc2_eq, ↓wDc_eq, ↓look_zero, ↓look_succ, ↓got_so, ↓isB_bl, ↓isI_int, ↓isS_str, ↓isT_tup, ↓isT_ftp, ↓isT_ktp, ↓isT_tp, ↓one_one, ↓two_two, ↓startD_cc, ↓startD_cn, ↓startD_nn, ↓FD.ix_str, ↓FD.ix_tup, ↓ix_ftp, ↓ix_ktp, ↓ix_lst, ↓ix_scr, ↓ix_tp, ↓atI0, ↓atI1, ↓atI2, ↓atI3, ↓FD.eq_str, ↓FD.ne_str, ↓FD.eq_int, ↓FD.ne_int, ↓FD.add_int, ↓FD.sub_int, ↓FD.lt_int, ↓FD.le_int, ↓FD.gt_int, ↓FD.ge_int, ↓FD.add_str, ↓FD.add_lst, ↓FD.add_tup, ↓FD.mul_int, ↓FD.mod_int, ↓FD.fdiv_int, ↓FD.pow_int, ↓isN_non, ↓notN_non, ↓FD.len_str, ↓len_tup, ↓len_ftp, ↓len_ktp, ↓len_lst, ↓len_scr, ↓len_tp, ↓seq_tup, ↓seq_ftp, ↓seq_ktp, ↓seq_lst, ↓seq_scr, ↓seq_tp, ↓in_tup, ↓in_ftp, ↓in_ktp, ↓in_lst, ↓nin_tup, ↓nin_ftp, ↓nin_ktp, ↓nin_lst, ↓FD.in_str, ↓nin_str, ↓isC_one, ↓asL_lst, ↓asL_scr, ↓if_tt, ↓if_ff, ↓isi_ss, ↓isi_tt, ↓isi_st, ↓isi_ts, ↓ty_str, ↓ty_tup, ↓ty_ftp, ↓ty_tp, ↓all_lst, ↓any_lst, ↓flat_s, ↓flat_set, ↓tuple_lst, ↓FD.int_int, ↓eq_ftp_nil, ↓ne_ftp_nil, ↓isNon_non, ↓isNon_int, ↓isNon_str, ↓isNon_ptr, ↓isNon_tup, ↓isNon_ftp, ↓inL_strs, ↓flatSs, ↓inL_sets, ↓flatSets, ↓FM.tw, ↓FM.tw3, ↓FM.sl_str, ↓sl_set, ↓cell_upd, ↓lk_sw, ↓lk_ru, ↓lk_st, ↓lk_place, ↓lk_has, ↓lk_keeps, ↓lk_wrongs, ↓lk_goods, ↓lk_ways_from, ↓lk_text, ↓ins_pan, ↓FD.fit_le, ↓cx_K, ↓nox_K, ↓blk_K, ↓bx_K, ↓c1, ↓c2, ↓c3, ↓c4, ↓inL_cons, ↓inL_nil, ↓all_bools, ↓any_bools, ↓in_tp, ↓nin_tp, ↓FM.sl_ftp, ↓FM.sl_tup, ↓FM.sl_lst, ↓FM.sl_scr, ↓index_eq, ↓ex_ftp, ↓eqd_str, ↓wf_at, ↓isT_cl, ↓isT_st, ↓isT_lit, ↓ix_lit0, ↓ix_lit1, ↓len_lit, ↓ty_lit, ↓eq_lit, ↓ne_lit, ↓eq_set, ↓ne_set, ↓len_set, ↓ty_set, ↓isS_set, ↓isC_sg, ↓sNever_e, ↓enumD_map, ↓dpAll_strs, ↓dpAll_mapI, ↓ne_lst_nil, ↓eq_lst_nil, ↓isT_grp, ↓len_grp, ↓isDc_wf, ↓wn_at, ↓isT_way, ↓len_way, ↓ty_way, ↓ty_st, ↓len_st, ↓ix_st0, ↓ix_st1, ↓inD_lits, ↓ninD_lits, ↓dpAll_sets, ↓three_three, ↓zip3_sets, ↓isT_z3, ↓inL_lock, ↓ninT_lits, ↓FM.tp_t, ↓FM.tp_f, Bool.not_true, Bool.not_false, Bool.false_eq_true, if_false, if_true, true_and, and_true, List.set_cons_zero, List.set_cons_succ, List.length_cons, List.length_nil, List.length_map, eq_self, decide_true, decide_false, Bool.true_eq_false, or_self, Bool.or_self, List.all_cons, List.all_nil, Bool.and_true, Bool.true_and, Bool.or_false, Bool.false_or, Bool.or_true, Bool.true_or, Bool.and_false, Bool.false_and, Int.reduceLT, Int.reduceLE, Int.reduceEq, Nat.reduceLeDiff, Nat.reduceAdd, Nat.reduceLT, wf_some, wn_some, fold_lit, fold_litp, fold_litm, sg_iff, sg_in_pm, isNon_opt, isEmpty_map, ↓reduceIte, nq_0_1, nq_0_2, nq_0_3, nq_0_4, nq_0_5, nq_0_6, nq_0_7, nq_1_0, nq_1_2, nq_1_3, nq_1_4, nq_1_5, nq_1_6, nq_1_7, nq_2_0, nq_2_1, nq_2_3, nq_2_4, nq_2_5, nq_2_6, nq_2_7, nq_3_0, nq_3_1, nq_3_2, nq_3_4, nq_3_5, nq_3_6, nq_3_7, nq_4_0, nq_4_1, nq_4_2, nq_4_3, nq_4_5, nq_4_6, nq_4_7, nq_5_0, nq_5_1, nq_5_2, nq_5_3, nq_5_4, nq_5_6, nq_5_7, nq_6_0, nq_6_1, nq_6_2, nq_6_3, nq_6_4, nq_6_5, nq_6_7, nq_7_0, nq_7_1, nq_7_2, nq_7_3, nq_7_4, nq_7_5, nq_7_6])
section
variable {P : Program} {w : World} {K : PySem.W.Frag} {mg : Str → Option Value} {base : Heap}
theorem sc_law_draw : FnScope ["_law_bag_here", "_law_wide", "_law_figure", "_law_held", "_law_times"] ["_law_bag_here", "_law_wide"] (defScope (top 64)) := ⟨rfl, rfl, rfl, by decide +kernel, rfl, by decide +kernel, by decide +kernel⟩
def sp_law_draw : DSp := fun ds M post => ∃ (j : Addr) (n : Int), ds = [.ptr j, .int n] ∧ (Jg M j ∧ 0 < n ∧ n < 1073741824 ∧ ∀ v : Nat, (v : Int) < n → ∀ M', Jm j M M' → post (.int (v : Int)) M')
theorem cl_law_draw {j : Addr} {n : Int} {M : Mem} {post : WK} : sp_law_draw [.ptr j, .int n] M post = (Jg M j ∧ 0 < n ∧ n < 1073741824 ∧ ∀ v : Nat, (v : Int) < n → ∀ M', Jm j M M' → post (.int (v : Int)) M') := by
  simp [-Bool.exists_bool, sp_law_draw, tp_inj, litD_inj, strs_inj, ruleD_inj, clD_inj, setD_inj, rules_inj, lits_inj, sets_inj, ints_inj, panF_inj, rngs_inj, rngE_inj, sg_inj, and_assoc, Int.natCast_inj]
local macro_rules | `(tactic| walk_at "law_draw") => `(tactic| simp only [↓FD.sSeq_e, ↓FD.sRet_e, ↓FD.sIf_e, ↓FD.sAsg_e, ↓FD.gSet_e, ↓FD.sDrop_e, ↓FD.sNext_e, ↓FD.sPar_e, ↓FD.sPar3_e, ↓FD.wIf_e, ↓FD.wOp_e, ↓FD.wUn_e, ↓FD.wVar_e, ↓FD.wC_e, ↓FD.wTst_e, ↓FD.wAnd_e, ↓FD.wOr_e, ↓FD.wNot_e, ↓FD.wAndV_e, ↓FD.wOrV_e, ↓FD.wNotV_e, ↓FD.wChain_e, ↓FD.aNil_e, ↓FD.aCons_e, ↓FD.wTup_e, ↓FD.wLst_e, ↓FD.wFtp_e, ↓FD.wNew_e, ↓FD.wCall_e, ↓FD.wB_e, ↓FD.wSl_e, ↓FD.oSome_e, ↓FD.oNone_e, ↓FD.wIsi_e, ↓FD.wIsiC_e, ↓FD.p1_e, ↓FD.p2_e, ↓FD.gLen_e, ↓FD.iLst_e, ↓FD.iTup_e, ↓FD.iStrD_e, ↓FD.iEnT_e, ↓FD.iEnL_e, ↓FD.iRng_e, ↓FD.iRng2_e, ↓FD.gTup_e, ↓FD.gsNil_e, ↓FD.gsCons_e, ↓FD.wM_e, ↓FD.wIxT_e, ↓FD.wFld_e, ↓FD.wMeth_e, ↓FD.wMake_e, ↓FD.sFldD_e, ↓FD.wDGet_e, ↓FD.sDput_e, ↓FD.wDNewK_e, ↓FD.wDNewT_e, ↓FD.wDisp1_e, ↓FD.wIce_e, ↓FD.gSub_e, ↓FD.wCallK_e, ↓FD.t1_e, ↓FD.t2_e, ↓FD.t1w_e, ↓FD.tYesD_e, ↓FD.gDIn_e, ↓FD.gDNin_e, ↓FD.gIndexT_e, ↓FD.gIndex_e, ↓FD.gAbs_e, ↓FD.gMax_e, ↓FD.gMin_e, ↓FD.gDivmod_e, ↓FD.wFz_e, ↓FD.wDGetD_e, ↓FD.t3_e, ↓FD.iZip3D_e, ↓sFor_eq, ↓wLc_eq, ↓wLc2_eq, ↓wDc_eq, ↓look_zero, ↓look_succ, ↓got_so, ↓isB_bl, ↓isI_int, ↓isS_str, ↓isT_tup, ↓isT_ftp, ↓isT_ktp, ↓isT_tp, ↓one_one, ↓two_two, ↓startD_cc, ↓startD_cn, ↓startD_nn, ↓FD.ix_str, ↓FD.ix_tup, ↓ix_ftp, ↓ix_ktp, ↓ix_lst, ↓ix_scr, ↓ix_tp, ↓atI0, ↓atI1, ↓atI2, ↓atI3, ↓FD.eq_str, ↓FD.ne_str, ↓FD.eq_int, ↓FD.ne_int, ↓FD.add_int, ↓FD.sub_int, ↓FD.lt_int, ↓FD.le_int, ↓FD.gt_int, ↓FD.ge_int, ↓FD.add_str, ↓FD.add_lst, ↓FD.add_tup, ↓FD.mul_int, ↓FD.mod_int, ↓FD.fdiv_int, ↓FD.pow_int, ↓isN_non, ↓notN_non, ↓FD.len_str, ↓len_tup, ↓len_ftp, ↓len_ktp, ↓len_lst, ↓len_scr, ↓len_tp, ↓seq_tup, ↓seq_ftp, ↓seq_ktp, ↓seq_lst, ↓seq_scr, ↓seq_tp, ↓in_tup, ↓in_ftp, ↓in_ktp, ↓in_lst, ↓nin_tup, ↓nin_ftp, ↓nin_ktp, ↓nin_lst, ↓FD.in_str, ↓nin_str, ↓isC_one, ↓asL_lst, ↓asL_scr, ↓if_tt, ↓if_ff, ↓isi_ss, ↓isi_tt, ↓isi_st, ↓isi_ts, ↓ty_str, ↓ty_tup, ↓ty_ftp, ↓ty_tp, ↓all_lst, ↓any_lst, ↓flat_s, ↓flat_set, ↓tuple_lst, ↓FD.int_int, ↓eq_ftp_nil, ↓ne_ftp_nil, ↓isNon_non, ↓isNon_int, ↓isNon_str, ↓isNon_ptr, ↓isNon_tup, ↓isNon_ftp, ↓inL_strs, ↓flatSs, ↓inL_sets, ↓flatSets, ↓FM.tw, ↓FM.tw3, ↓FM.sl_str, ↓sl_set, ↓cell_upd, ↓lk_sw, ↓lk_ru, ↓lk_st, ↓lk_place, ↓lk_has, ↓lk_keeps, ↓lk_wrongs, ↓lk_goods, ↓lk_ways_from, ↓lk_text, ↓ins_pan, ↓FD.fit_le, ↓cx_K, ↓nox_K, ↓blk_K, ↓bx_K, ↓c1, ↓c2, ↓c3, ↓c4, ↓inL_cons, ↓inL_nil, ↓all_bools, ↓any_bools, ↓in_tp, ↓nin_tp, ↓FM.sl_ftp, ↓FM.sl_tup, ↓FM.sl_lst, ↓FM.sl_scr, ↓index_eq, ↓ex_ftp, ↓eqd_str, ↓wf_at, ↓isT_cl, ↓isT_st, ↓isT_lit, ↓ix_lit0, ↓ix_lit1, ↓len_lit, ↓ty_lit, ↓eq_lit, ↓ne_lit, ↓eq_set, ↓ne_set, ↓len_set, ↓ty_set, ↓isS_set, ↓isC_sg, ↓sNever_e, ↓enumD_map, ↓dpAll_strs, ↓dpAll_mapI, ↓ne_lst_nil, ↓eq_lst_nil, ↓isT_grp, ↓len_grp, ↓isDc_wf, ↓wn_at, ↓isT_way, ↓len_way, ↓ty_way, ↓ty_st, ↓len_st, ↓ix_st0, ↓ix_st1, ↓inD_lits, ↓ninD_lits, ↓dpAll_sets, ↓three_three, ↓zip3_sets, ↓isT_z3, ↓inL_lock, ↓ninT_lits, ↓FM.tp_t, ↓FM.tp_f, ↓ixN30, ↓ixN31, ↓ixN32, ↓ix_upd, ↓FM.eq_bl, ↓FM.ne_bl, ↓FM.sl_tp, ↓lstOf_lst, ↓okL_lst, ↓gMulS_eq, ↓add_sets, ↓add_setb, ↓add_setp, ↓add_setm, ↓rngE_e, ↓ix_rule0, ↓repr_bb, ↓isB_isD, ↓isB_notD, ↓wLcN_eq, ↓optW_some, ↓optW_none, ↓isNon_way, ↓ne_way0, ↓mulL2, ↓add_rules, ↓add_rulesT, ↓add_rulesF, ↓ne_ftp_sets, ↓ne_ftp_lits, ↓ne_ftp_strs, Option.isSome_some, Option.isSome_none, Option.isNone_some, Option.isNone_none, Option.map_some, Option.map_none, isNon_optW, pick_nil, pick_cons, List.getElem?_cons_zero, List.getElem?_cons_succ, List.nil_append, List.append_nil, List.cons_append, Bool.decide_eq_true, Bool.decide_eq_false, Int.reduceAbs, Int.reduceToNat, Int.reducePow, true_or, or_true, Mem.upd_upd, rng_int, Bool.not_true, Bool.not_false, Bool.false_eq_true, if_false, if_true, true_and, and_true, List.set_cons_zero, List.set_cons_succ, List.length_cons, List.length_nil, List.length_map, eq_self, decide_true, decide_false, Bool.true_eq_false, or_self, Bool.or_self, List.all_cons, List.all_nil, Bool.and_true, Bool.true_and, Bool.or_false, Bool.false_or, Bool.or_true, Bool.true_or, Bool.and_false, Bool.false_and, Int.reduceLT, Int.reduceLE, Int.reduceEq, Nat.reduceLeDiff, Nat.reduceAdd, Nat.reduceLT, wf_some, wn_some, fold_lit, fold_litp, fold_litm, sg_iff, sg_in_pm, isNon_opt, isEmpty_map, ↓reduceIte, nq_0_1, nq_0_2, nq_0_3, nq_0_4, nq_0_5, nq_0_6, nq_0_7, nq_1_0, nq_1_2, nq_1_3, nq_1_4, nq_1_5, nq_1_6, nq_1_7, nq_2_0, nq_2_1, nq_2_3, nq_2_4, nq_2_5, nq_2_6, nq_2_7, nq_3_0, nq_3_1, nq_3_2, nq_3_4, nq_3_5, nq_3_6, nq_3_7, nq_4_0, nq_4_1, nq_4_2, nq_4_3, nq_4_5, nq_4_6, nq_4_7, nq_5_0, nq_5_1, nq_5_2, nq_5_3, nq_5_4, nq_5_6, nq_5_7, nq_6_0, nq_6_1, nq_6_2, nq_6_3, nq_6_4, nq_6_5, nq_6_7, nq_7_0, nq_7_1, nq_7_2, nq_7_3, nq_7_4, nq_7_5, nq_7_6])
theorem fn_law_draw (T : Tx P w K mg base) : Fng P w K mg base 1 "_law_draw" (top 64) ["_law_bag_here", "_law_wide"] sp_law_draw := by
  have S := sc_law_draw
  refine fng_of T.d_law_draw T.g_law_draw S (fun ds M post h => by unfold sp_law_draw at h; grind) fun f cdv A outer s H gd hr => ⟨_, (ds_cons (ds_asg (de_op o_add (de_ix o_ix (dv 0) dint) dint) (dg_sub (dv 0) dint))
      (ds_cons (ds_if (dt_cmp o_gt (de_ix o_ix (dv 0) dint) dint)
      (ds_cons (ds_set (i := 2) S.nd (de_op o_mod (de_ty c_int T.m_int (by decide +kernel) (da_cons (de_ix o_ix (dv 0) dint) da_nil)) (dv 1)))
      (ds_cons (ds_asg (de_op o_fdiv (de_ix o_ix (dv 0) dint) (dv 1)) (dg_sub (dv 0) dint))
      (ds_one (ds_ret (dv 2)))))
      ds_nil)
      (ds_cons (ds_set (i := 3) S.nd (de_op o_add (de_ty c_int T.m_int (by decide +kernel) (da_cons (de_ix o_ix (dv 0) dint) da_nil)) (de_op o_mul dint (de_ix o_ix (dv 0) dint))))
      (ds_cons (ds_set (i := 4) S.nd (de_op o_add (de_op o_mod (de_ty c_int T.m_int (by decide +kernel) (da_cons (dv 3) da_nil)) dint) dint))
      (ds_cons (ds_asg (de_op o_mod (de_ty c_int T.m_int (by decide +kernel) (da_cons (de_op o_add (de_op o_add (de_op o_mul (dv 3) (dv 4)) (de_op o_mul dint (de_ix o_ix (dv 0) dint))) dint) da_nil)) dint) (dg_sub (dv 0) dint))
      (ds_one (ds_ret (de_op o_mod (de_op o_fdiv (de_ty c_int T.m_int (by decide +kernel) (da_cons (de_ix o_ix (dv 0) dint) da_nil)) dint) (dv 1))))))))), ?_⟩
  rintro ds M post ⟨j, n, rfl, ⟨a, b, c, e⟩, h0, h1, h⟩
  have up : ∀ x y z, Jm j M (M.upd j (.lst [.int x, .int y, .int z])) := fun x y z => ⟨x, y, z, rfl⟩
  rw [jg_upd e]
  (try walk_at "law_draw")
  by_cases ha : 0 < a
  · rw [if_pos (by simp [ha])]
    obtain ⟨e1, e2⟩ := emod_nat (a := a) h0
    refine ⟨h0, ⟨h0, h1⟩, ?_⟩
    (try walk_at "law_draw")
    rw [← e1]
    exact h _ (by rw [e1]; exact e2) _ (up _ _ _)
  · rw [if_neg (by simp; omega)]
    refine ⟨.inr (by omega), h0, ?_⟩
    (try walk_at "law_draw")
    obtain ⟨e1, e2⟩ := emod_nat (a := ((b + 61001 * (c + 1)) * ((b + 61001 * (c + 1)) % 58013 + 47017) + 11 * (c + 1) + 19) % 2147483549 / 509) h0
    rw [← e1]
    exact h _ (by rw [e1]; exact e2) _ (up _ _ _)
theorem ok_law_draw (T : Tx P w K mg base) : Pub P w K mg base 1 "_law_draw" ["_law_bag_here", "_law_wide"] sp_law_draw := (fn_law_draw T).pub fun _ _ _ _ _ _ us hl => match us, hl with | [_, _], _ => rfl
theorem sc_law_names : FnScope ["_law_bag_here", "_law_many", "_law_pool", "_law_k"] ["_law_bag_here", "_law_many"] (defScope (top 66)) := ⟨rfl, rfl, rfl, by decide +kernel, rfl, by decide +kernel, by decide +kernel⟩
def sp_law_names : DSp := fun ds M post => ∃ (j : Addr) (n : Nat), ds = [.ptr j, .int (n : Int)] ∧ (Jg M j ∧ n ≤ 14 ∧ ∀ ss : List Str, ss.length = n → ss.Nodup → (∀ s ∈ ss, nameOk s = true) → ∀ M', Jm j M M' → post (strsF ss) M')
theorem cl_law_names {j : Addr} {n : Nat} {M : Mem} {post : WK} : sp_law_names [.ptr j, .int (n : Int)] M post = (Jg M j ∧ n ≤ 14 ∧ ∀ ss : List Str, ss.length = n → ss.Nodup → (∀ s ∈ ss, nameOk s = true) → ∀ M', Jm j M M' → post (strsF ss) M') := by
  simp [-Bool.exists_bool, sp_law_names, tp_inj, litD_inj, strs_inj, ruleD_inj, clD_inj, setD_inj, rules_inj, lits_inj, sets_inj, ints_inj, panF_inj, rngs_inj, rngE_inj, sg_inj, and_assoc, Int.natCast_inj]
local macro_rules | `(tactic| walk_at "law_names") => `(tactic| simp only [↓cl_law_draw, cl_law_draw, ↓FD.sSeq_e, ↓FD.sRet_e, ↓FD.sIf_e, ↓FD.sAsg_e, ↓FD.gSet_e, ↓FD.sDrop_e, ↓FD.sNext_e, ↓FD.sPar_e, ↓FD.sPar3_e, ↓FD.wIf_e, ↓FD.wOp_e, ↓FD.wUn_e, ↓FD.wVar_e, ↓FD.wC_e, ↓FD.wTst_e, ↓FD.wAnd_e, ↓FD.wOr_e, ↓FD.wNot_e, ↓FD.wAndV_e, ↓FD.wOrV_e, ↓FD.wNotV_e, ↓FD.wChain_e, ↓FD.aNil_e, ↓FD.aCons_e, ↓FD.wTup_e, ↓FD.wLst_e, ↓FD.wFtp_e, ↓FD.wNew_e, ↓FD.wCall_e, ↓FD.wB_e, ↓FD.wSl_e, ↓FD.oSome_e, ↓FD.oNone_e, ↓FD.wIsi_e, ↓FD.wIsiC_e, ↓FD.p1_e, ↓FD.p2_e, ↓FD.gLen_e, ↓FD.iLst_e, ↓FD.iTup_e, ↓FD.iStrD_e, ↓FD.iEnT_e, ↓FD.iEnL_e, ↓FD.iRng_e, ↓FD.iRng2_e, ↓FD.gTup_e, ↓FD.gsNil_e, ↓FD.gsCons_e, ↓FD.wM_e, ↓FD.wIxT_e, ↓FD.wFld_e, ↓FD.wMeth_e, ↓FD.wMake_e, ↓FD.sFldD_e, ↓FD.wDGet_e, ↓FD.sDput_e, ↓FD.wDNewK_e, ↓FD.wDNewT_e, ↓FD.wDisp1_e, ↓FD.wIce_e, ↓FD.gSub_e, ↓FD.wCallK_e, ↓FD.t1_e, ↓FD.t2_e, ↓FD.t1w_e, ↓FD.tYesD_e, ↓FD.gDIn_e, ↓FD.gDNin_e, ↓FD.gIndexT_e, ↓FD.gIndex_e, ↓FD.gAbs_e, ↓FD.gMax_e, ↓FD.gMin_e, ↓FD.gDivmod_e, ↓FD.wFz_e, ↓FD.wDGetD_e, ↓FD.t3_e, ↓FD.iZip3D_e, ↓sFor_eq, ↓wLc_eq, ↓wLc2_eq, ↓wDc_eq, ↓look_zero, ↓look_succ, ↓got_so, ↓isB_bl, ↓isI_int, ↓isS_str, ↓isT_tup, ↓isT_ftp, ↓isT_ktp, ↓isT_tp, ↓one_one, ↓two_two, ↓startD_cc, ↓startD_cn, ↓startD_nn, ↓FD.ix_str, ↓FD.ix_tup, ↓ix_ftp, ↓ix_ktp, ↓ix_lst, ↓ix_scr, ↓ix_tp, ↓atI0, ↓atI1, ↓atI2, ↓atI3, ↓FD.eq_str, ↓FD.ne_str, ↓FD.eq_int, ↓FD.ne_int, ↓FD.add_int, ↓FD.sub_int, ↓FD.lt_int, ↓FD.le_int, ↓FD.gt_int, ↓FD.ge_int, ↓FD.add_str, ↓FD.add_lst, ↓FD.add_tup, ↓FD.mul_int, ↓FD.mod_int, ↓FD.fdiv_int, ↓FD.pow_int, ↓isN_non, ↓notN_non, ↓FD.len_str, ↓len_tup, ↓len_ftp, ↓len_ktp, ↓len_lst, ↓len_scr, ↓len_tp, ↓seq_tup, ↓seq_ftp, ↓seq_ktp, ↓seq_lst, ↓seq_scr, ↓seq_tp, ↓in_tup, ↓in_ftp, ↓in_ktp, ↓in_lst, ↓nin_tup, ↓nin_ftp, ↓nin_ktp, ↓nin_lst, ↓FD.in_str, ↓nin_str, ↓isC_one, ↓asL_lst, ↓asL_scr, ↓if_tt, ↓if_ff, ↓isi_ss, ↓isi_tt, ↓isi_st, ↓isi_ts, ↓ty_str, ↓ty_tup, ↓ty_ftp, ↓ty_tp, ↓all_lst, ↓any_lst, ↓flat_s, ↓flat_set, ↓tuple_lst, ↓FD.int_int, ↓eq_ftp_nil, ↓ne_ftp_nil, ↓isNon_non, ↓isNon_int, ↓isNon_str, ↓isNon_ptr, ↓isNon_tup, ↓isNon_ftp, ↓inL_strs, ↓flatSs, ↓inL_sets, ↓flatSets, ↓FM.tw, ↓FM.tw3, ↓FM.sl_str, ↓sl_set, ↓cell_upd, ↓lk_sw, ↓lk_ru, ↓lk_st, ↓lk_place, ↓lk_has, ↓lk_keeps, ↓lk_wrongs, ↓lk_goods, ↓lk_ways_from, ↓lk_text, ↓ins_pan, ↓FD.fit_le, ↓cx_K, ↓nox_K, ↓blk_K, ↓bx_K, ↓c1, ↓c2, ↓c3, ↓c4, ↓inL_cons, ↓inL_nil, ↓all_bools, ↓any_bools, ↓in_tp, ↓nin_tp, ↓FM.sl_ftp, ↓FM.sl_tup, ↓FM.sl_lst, ↓FM.sl_scr, ↓index_eq, ↓ex_ftp, ↓eqd_str, ↓wf_at, ↓isT_cl, ↓isT_st, ↓isT_lit, ↓ix_lit0, ↓ix_lit1, ↓len_lit, ↓ty_lit, ↓eq_lit, ↓ne_lit, ↓eq_set, ↓ne_set, ↓len_set, ↓ty_set, ↓isS_set, ↓isC_sg, ↓sNever_e, ↓enumD_map, ↓dpAll_strs, ↓dpAll_mapI, ↓ne_lst_nil, ↓eq_lst_nil, ↓isT_grp, ↓len_grp, ↓isDc_wf, ↓wn_at, ↓isT_way, ↓len_way, ↓ty_way, ↓ty_st, ↓len_st, ↓ix_st0, ↓ix_st1, ↓inD_lits, ↓ninD_lits, ↓dpAll_sets, ↓three_three, ↓zip3_sets, ↓isT_z3, ↓inL_lock, ↓ninT_lits, ↓FM.tp_t, ↓FM.tp_f, ↓ixN30, ↓ixN31, ↓ixN32, ↓ix_upd, ↓FM.eq_bl, ↓FM.ne_bl, ↓FM.sl_tp, ↓lstOf_lst, ↓okL_lst, ↓gMulS_eq, ↓add_sets, ↓add_setb, ↓add_setp, ↓add_setm, ↓rngE_e, ↓ix_rule0, ↓repr_bb, ↓isB_isD, ↓isB_notD, ↓wLcN_eq, ↓optW_some, ↓optW_none, ↓isNon_way, ↓ne_way0, ↓mulL2, ↓add_rules, ↓add_rulesT, ↓add_rulesF, ↓ne_ftp_sets, ↓ne_ftp_lits, ↓ne_ftp_strs, Option.isSome_some, Option.isSome_none, Option.isNone_some, Option.isNone_none, Option.map_some, Option.map_none, isNon_optW, pick_nil, pick_cons, List.getElem?_cons_zero, List.getElem?_cons_succ, List.nil_append, List.append_nil, List.cons_append, Bool.decide_eq_true, Bool.decide_eq_false, Int.reduceAbs, Int.reduceToNat, Int.reducePow, true_or, or_true, Mem.upd_upd, rng_int, Bool.not_true, Bool.not_false, Bool.false_eq_true, if_false, if_true, true_and, and_true, List.set_cons_zero, List.set_cons_succ, List.length_cons, List.length_nil, List.length_map, eq_self, decide_true, decide_false, Bool.true_eq_false, or_self, Bool.or_self, List.all_cons, List.all_nil, Bool.and_true, Bool.true_and, Bool.or_false, Bool.false_or, Bool.or_true, Bool.true_or, Bool.and_false, Bool.false_and, Int.reduceLT, Int.reduceLE, Int.reduceEq, Nat.reduceLeDiff, Nat.reduceAdd, Nat.reduceLT, wf_some, wn_some, fold_lit, fold_litp, fold_litm, sg_iff, sg_in_pm, isNon_opt, isEmpty_map, ↓reduceIte, nq_0_1, nq_0_2, nq_0_3, nq_0_4, nq_0_5, nq_0_6, nq_0_7, nq_1_0, nq_1_2, nq_1_3, nq_1_4, nq_1_5, nq_1_6, nq_1_7, nq_2_0, nq_2_1, nq_2_3, nq_2_4, nq_2_5, nq_2_6, nq_2_7, nq_3_0, nq_3_1, nq_3_2, nq_3_4, nq_3_5, nq_3_6, nq_3_7, nq_4_0, nq_4_1, nq_4_2, nq_4_3, nq_4_5, nq_4_6, nq_4_7, nq_5_0, nq_5_1, nq_5_2, nq_5_3, nq_5_4, nq_5_6, nq_5_7, nq_6_0, nq_6_1, nq_6_2, nq_6_3, nq_6_4, nq_6_5, nq_6_7, nq_7_0, nq_7_1, nq_7_2, nq_7_3, nq_7_4, nq_7_5, nq_7_6])
theorem fn_law_names (T : Tx P w K mg base) : Fng P w K mg base 2 "_law_names" (top 66) ["_law_bag_here", "_law_many"] sp_law_names := by
  have S := sc_law_names
  refine fng_of T.d_law_names T.g_law_names S (fun ds M post h => by unfold sp_law_names at h; grind) fun f cdv A outer s H gd hr => ⟨_, (ds_cons (ds_set (i := 2) S.nd (de_new (da_cons dstr (da_cons dstr (da_cons dstr (da_cons dstr (da_cons dstr (da_cons dstr (da_cons dstr (da_cons dstr (da_cons dstr (da_cons dstr (da_cons dstr (da_cons dstr (da_cons dstr (da_cons dstr da_nil))))))))))))))))
      (ds_one (ds_ret (de_fz (de_ty c_tuple T.m_tuple (by decide +kernel) (da_cons (de_lc (own := [("_law_k", 3)]) rfl S.nd (di_range T.m_range (da_cons (dv 1) da_nil)) (blkOk_by (N := ["_law_bag_here", "_law_many", "_law_pool", "_law_k"]) (sc := defScope (top 66)) (by decide +kernel)) tgt1 (fun _ _ _ _ _ => pg_name (i := 3) S.nd rfl (Or.inl rfl)) (fun _ _ _ _ _ => dts_nil) (fun _ _ _ _ _ => (de_ml PySem.F.slot_list_pop PySem.F.type_list_pop m_pop (dv 2) (da_cons (de_call (ok_law_draw T) (hr.mono (by decide)) gd (da_cons (dv 0) (da_cons (de_b c_len T.m_len (by decide +kernel) (da_cons (dv 2) da_nil)) da_nil))) da_nil)))) da_nil)))))), ?_⟩
  rintro ds M post ⟨j, n, rfl, hj, hn, h⟩
  (try walk_at "law_names")
  intro p hp
  have ne := hj.ne hp
  refine ⟨by omega, by omega, ?_⟩
  refine lc_draw (List.range n) rngE (fun acc M' => ∃ ss pool, acc = ss.map D.str ∧ Drawn ss pool ∧ PJ j p (.lst (pool.map D.str)) M M') ⟨[], pool14, rfl, .refl _, PJ.new (Jm.refl hj)⟩ (fun _ _ _ => trivial) ?_ ?_
  · rintro k hk acc M1 hl ⟨ss, pool, rfl, dr, pj⟩ yes hy
    have dl := dr.len
    rw [List.length_map, List.length_range] at hl
    (try walk_at "law_names")
    rw [len_cell pj.cell]
    (try walk_at "law_names")
    refine ⟨okL_cell pj.cell, pj.jg ne, by omega, by omega, ?_⟩
    intro v hv M2 j2
    have pj2 := pj.step ne j2
    have hv2 : v < (pool.map D.str).length := by rw [List.length_map]; omega
    rw [pop_eq pj2.cell hv2, List.getElem_map, map_erase]
    exact hy _ _ ⟨ss ++ [pool[v]'(by rw [List.length_map] at hv2; exact hv2)], _, by simp, dr.pop _, pj2.set⟩
  · rintro acc M1 hl ⟨ss, pool, rfl, dr, pj⟩
    rw [List.length_map, List.length_range] at hl
    rw [tuple_lst]
    obtain ⟨M2, le, jm, _⟩ := pj.out ne hp
    exact ⟨_, M2, le, .same _, h ss hl dr.nd dr.ok M2 jm⟩
theorem ok_law_names (T : Tx P w K mg base) : Pub P w K mg base 2 "_law_names" ["_law_bag_here", "_law_many"] sp_law_names := (fn_law_names T).pub fun _ _ _ _ _ _ us hl => match us, hl with | [_, _], _ => rfl
theorem sc_law_one : FnScope ["_law_bag_here", "_law_some"] ["_law_bag_here", "_law_some"] (defScope (top 65)) := ⟨rfl, rfl, rfl, by decide +kernel, rfl, by decide +kernel, by decide +kernel⟩
def sp_law_one : DSp := fun ds M post => ∃ (j : Addr) (l : List D) (d : D), ds = [.ptr j, d] ∧ (d = .lst l ∨ d = .ftp l ∨ d = .tup l) ∧ (Jg M j ∧ l ≠ [] ∧ l.length < 1073741824 ∧ ∀ x ∈ l, ∀ M', Jm j M M' → post x M')
theorem cl_law_one {j : Addr} {l : List D} {M : Mem} {post : WK} : sp_law_one [.ptr j, .lst l] M post = (Jg M j ∧ l ≠ [] ∧ l.length < 1073741824 ∧ ∀ x ∈ l, ∀ M', Jm j M M' → post x M') := by
  unfold sp_law_one
  refine propext ⟨fun ⟨j2, l2, d, e, c, h⟩ => ?_, fun h => ⟨j, l, _, rfl, .inl rfl, h⟩⟩
  simp only [List.cons.injEq, D.ptr.injEq, and_true] at e
  obtain ⟨rfl, rfl⟩ := e
  rcases c with c | c | c <;> cases c
  exact h
theorem cl_law_one1 {j : Addr} {l : List D} {M : Mem} {post : WK} : sp_law_one [.ptr j, .ftp l] M post = (Jg M j ∧ l ≠ [] ∧ l.length < 1073741824 ∧ ∀ x ∈ l, ∀ M', Jm j M M' → post x M') := by
  unfold sp_law_one
  refine propext ⟨fun ⟨j2, l2, d, e, c, h⟩ => ?_, fun h => ⟨j, l, _, rfl, .inr (.inl rfl), h⟩⟩
  simp only [List.cons.injEq, D.ptr.injEq, and_true] at e
  obtain ⟨rfl, rfl⟩ := e
  rcases c with c | c | c <;> cases c
  exact h
theorem cl_law_one2 {j : Addr} {l : List D} {M : Mem} {post : WK} : sp_law_one [.ptr j, .tup l] M post = (Jg M j ∧ l ≠ [] ∧ l.length < 1073741824 ∧ ∀ x ∈ l, ∀ M', Jm j M M' → post x M') := by
  unfold sp_law_one
  refine propext ⟨fun ⟨j2, l2, d, e, c, h⟩ => ?_, fun h => ⟨j, l, _, rfl, .inr (.inr rfl), h⟩⟩
  simp only [List.cons.injEq, D.ptr.injEq, and_true] at e
  obtain ⟨rfl, rfl⟩ := e
  rcases c with c | c | c <;> cases c
  exact h
local macro_rules | `(tactic| walk_at "law_one") => `(tactic| simp only [↓cl_law_draw, cl_law_draw, ↓FD.sSeq_e, ↓FD.sRet_e, ↓FD.sIf_e, ↓FD.sAsg_e, ↓FD.gSet_e, ↓FD.sDrop_e, ↓FD.sNext_e, ↓FD.sPar_e, ↓FD.sPar3_e, ↓FD.wIf_e, ↓FD.wOp_e, ↓FD.wUn_e, ↓FD.wVar_e, ↓FD.wC_e, ↓FD.wTst_e, ↓FD.wAnd_e, ↓FD.wOr_e, ↓FD.wNot_e, ↓FD.wAndV_e, ↓FD.wOrV_e, ↓FD.wNotV_e, ↓FD.wChain_e, ↓FD.aNil_e, ↓FD.aCons_e, ↓FD.wTup_e, ↓FD.wLst_e, ↓FD.wFtp_e, ↓FD.wNew_e, ↓FD.wCall_e, ↓FD.wB_e, ↓FD.wSl_e, ↓FD.oSome_e, ↓FD.oNone_e, ↓FD.wIsi_e, ↓FD.wIsiC_e, ↓FD.p1_e, ↓FD.p2_e, ↓FD.gLen_e, ↓FD.iLst_e, ↓FD.iTup_e, ↓FD.iStrD_e, ↓FD.iEnT_e, ↓FD.iEnL_e, ↓FD.iRng_e, ↓FD.iRng2_e, ↓FD.gTup_e, ↓FD.gsNil_e, ↓FD.gsCons_e, ↓FD.wM_e, ↓FD.wIxT_e, ↓FD.wFld_e, ↓FD.wMeth_e, ↓FD.wMake_e, ↓FD.sFldD_e, ↓FD.wDGet_e, ↓FD.sDput_e, ↓FD.wDNewK_e, ↓FD.wDNewT_e, ↓FD.wDisp1_e, ↓FD.wIce_e, ↓FD.gSub_e, ↓FD.wCallK_e, ↓FD.t1_e, ↓FD.t2_e, ↓FD.t1w_e, ↓FD.tYesD_e, ↓FD.gDIn_e, ↓FD.gDNin_e, ↓FD.gIndexT_e, ↓FD.gIndex_e, ↓FD.gAbs_e, ↓FD.gMax_e, ↓FD.gMin_e, ↓FD.gDivmod_e, ↓FD.wFz_e, ↓FD.wDGetD_e, ↓FD.t3_e, ↓FD.iZip3D_e, ↓sFor_eq, ↓wLc_eq, ↓wLc2_eq, ↓wDc_eq, ↓look_zero, ↓look_succ, ↓got_so, ↓isB_bl, ↓isI_int, ↓isS_str, ↓isT_tup, ↓isT_ftp, ↓isT_ktp, ↓isT_tp, ↓one_one, ↓two_two, ↓startD_cc, ↓startD_cn, ↓startD_nn, ↓FD.ix_str, ↓FD.ix_tup, ↓ix_ftp, ↓ix_ktp, ↓ix_lst, ↓ix_scr, ↓ix_tp, ↓atI0, ↓atI1, ↓atI2, ↓atI3, ↓FD.eq_str, ↓FD.ne_str, ↓FD.eq_int, ↓FD.ne_int, ↓FD.add_int, ↓FD.sub_int, ↓FD.lt_int, ↓FD.le_int, ↓FD.gt_int, ↓FD.ge_int, ↓FD.add_str, ↓FD.add_lst, ↓FD.add_tup, ↓FD.mul_int, ↓FD.mod_int, ↓FD.fdiv_int, ↓FD.pow_int, ↓isN_non, ↓notN_non, ↓FD.len_str, ↓len_tup, ↓len_ftp, ↓len_ktp, ↓len_lst, ↓len_scr, ↓len_tp, ↓seq_tup, ↓seq_ftp, ↓seq_ktp, ↓seq_lst, ↓seq_scr, ↓seq_tp, ↓in_tup, ↓in_ftp, ↓in_ktp, ↓in_lst, ↓nin_tup, ↓nin_ftp, ↓nin_ktp, ↓nin_lst, ↓FD.in_str, ↓nin_str, ↓isC_one, ↓asL_lst, ↓asL_scr, ↓if_tt, ↓if_ff, ↓isi_ss, ↓isi_tt, ↓isi_st, ↓isi_ts, ↓ty_str, ↓ty_tup, ↓ty_ftp, ↓ty_tp, ↓all_lst, ↓any_lst, ↓flat_s, ↓flat_set, ↓tuple_lst, ↓FD.int_int, ↓eq_ftp_nil, ↓ne_ftp_nil, ↓isNon_non, ↓isNon_int, ↓isNon_str, ↓isNon_ptr, ↓isNon_tup, ↓isNon_ftp, ↓inL_strs, ↓flatSs, ↓inL_sets, ↓flatSets, ↓FM.tw, ↓FM.tw3, ↓FM.sl_str, ↓sl_set, ↓cell_upd, ↓lk_sw, ↓lk_ru, ↓lk_st, ↓lk_place, ↓lk_has, ↓lk_keeps, ↓lk_wrongs, ↓lk_goods, ↓lk_ways_from, ↓lk_text, ↓ins_pan, ↓FD.fit_le, ↓cx_K, ↓nox_K, ↓blk_K, ↓bx_K, ↓c1, ↓c2, ↓c3, ↓c4, ↓inL_cons, ↓inL_nil, ↓all_bools, ↓any_bools, ↓in_tp, ↓nin_tp, ↓FM.sl_ftp, ↓FM.sl_tup, ↓FM.sl_lst, ↓FM.sl_scr, ↓index_eq, ↓ex_ftp, ↓eqd_str, ↓wf_at, ↓isT_cl, ↓isT_st, ↓isT_lit, ↓ix_lit0, ↓ix_lit1, ↓len_lit, ↓ty_lit, ↓eq_lit, ↓ne_lit, ↓eq_set, ↓ne_set, ↓len_set, ↓ty_set, ↓isS_set, ↓isC_sg, ↓sNever_e, ↓enumD_map, ↓dpAll_strs, ↓dpAll_mapI, ↓ne_lst_nil, ↓eq_lst_nil, ↓isT_grp, ↓len_grp, ↓isDc_wf, ↓wn_at, ↓isT_way, ↓len_way, ↓ty_way, ↓ty_st, ↓len_st, ↓ix_st0, ↓ix_st1, ↓inD_lits, ↓ninD_lits, ↓dpAll_sets, ↓three_three, ↓zip3_sets, ↓isT_z3, ↓inL_lock, ↓ninT_lits, ↓FM.tp_t, ↓FM.tp_f, ↓ixN30, ↓ixN31, ↓ixN32, ↓ix_upd, ↓FM.eq_bl, ↓FM.ne_bl, ↓FM.sl_tp, ↓lstOf_lst, ↓okL_lst, ↓gMulS_eq, ↓add_sets, ↓add_setb, ↓add_setp, ↓add_setm, ↓rngE_e, ↓ix_rule0, ↓repr_bb, ↓isB_isD, ↓isB_notD, ↓wLcN_eq, ↓optW_some, ↓optW_none, ↓isNon_way, ↓ne_way0, ↓mulL2, ↓add_rules, ↓add_rulesT, ↓add_rulesF, ↓ne_ftp_sets, ↓ne_ftp_lits, ↓ne_ftp_strs, Option.isSome_some, Option.isSome_none, Option.isNone_some, Option.isNone_none, Option.map_some, Option.map_none, isNon_optW, pick_nil, pick_cons, List.getElem?_cons_zero, List.getElem?_cons_succ, List.nil_append, List.append_nil, List.cons_append, Bool.decide_eq_true, Bool.decide_eq_false, Int.reduceAbs, Int.reduceToNat, Int.reducePow, true_or, or_true, Mem.upd_upd, rng_int, Bool.not_true, Bool.not_false, Bool.false_eq_true, if_false, if_true, true_and, and_true, List.set_cons_zero, List.set_cons_succ, List.length_cons, List.length_nil, List.length_map, eq_self, decide_true, decide_false, Bool.true_eq_false, or_self, Bool.or_self, List.all_cons, List.all_nil, Bool.and_true, Bool.true_and, Bool.or_false, Bool.false_or, Bool.or_true, Bool.true_or, Bool.and_false, Bool.false_and, Int.reduceLT, Int.reduceLE, Int.reduceEq, Nat.reduceLeDiff, Nat.reduceAdd, Nat.reduceLT, wf_some, wn_some, fold_lit, fold_litp, fold_litm, sg_iff, sg_in_pm, isNon_opt, isEmpty_map, ↓reduceIte, nq_0_1, nq_0_2, nq_0_3, nq_0_4, nq_0_5, nq_0_6, nq_0_7, nq_1_0, nq_1_2, nq_1_3, nq_1_4, nq_1_5, nq_1_6, nq_1_7, nq_2_0, nq_2_1, nq_2_3, nq_2_4, nq_2_5, nq_2_6, nq_2_7, nq_3_0, nq_3_1, nq_3_2, nq_3_4, nq_3_5, nq_3_6, nq_3_7, nq_4_0, nq_4_1, nq_4_2, nq_4_3, nq_4_5, nq_4_6, nq_4_7, nq_5_0, nq_5_1, nq_5_2, nq_5_3, nq_5_4, nq_5_6, nq_5_7, nq_6_0, nq_6_1, nq_6_2, nq_6_3, nq_6_4, nq_6_5, nq_6_7, nq_7_0, nq_7_1, nq_7_2, nq_7_3, nq_7_4, nq_7_5, nq_7_6])
theorem fn_law_one (T : Tx P w K mg base) : Fng P w K mg base 2 "_law_one" (top 65) ["_law_bag_here", "_law_some"] sp_law_one := by
  have S := sc_law_one
  refine fng_of T.d_law_one T.g_law_one S (fun ds M post h => by unfold sp_law_one at h; grind) fun f cdv A outer s H gd hr => ⟨_, (ds_one (ds_ret (de_ix o_ix (dv 1) (de_call (ok_law_draw T) (hr.mono (by decide)) gd (da_cons (dv 0) (da_cons (de_b c_len T.m_len (by decide +kernel) (da_cons (dv 1) da_nil)) da_nil)))))), ?_⟩
  rintro ds M post ⟨j, l, d, rfl, c, hj, hn, hl, h⟩
  have lp := List.length_pos_iff.mpr hn
  rcases c with rfl | rfl | rfl
  · (try walk_at "law_one")
    refine ⟨hj, by omega, by omega, ?_⟩
    intro v hv M' hM
    rw [atI_lt (by omega)]
    exact h _ (List.getElem_mem _) M' hM
  · (try walk_at "law_one")
    refine ⟨hj, by omega, by omega, ?_⟩
    intro v hv M' hM
    rw [atI_lt (by omega)]
    exact h _ (List.getElem_mem _) M' hM
  · (try walk_at "law_one")
    refine ⟨hj, by omega, by omega, ?_⟩
    intro v hv M' hM
    rw [atI_lt (by omega)]
    exact h _ (List.getElem_mem _) M' hM
theorem ok_law_one (T : Tx P w K mg base) : Pub P w K mg base 2 "_law_one" ["_law_bag_here", "_law_some"] sp_law_one := (fn_law_one T).pub fun _ _ _ _ _ _ us hl => match us, hl with | [_, _], _ => rfl
theorem sc_law_holds : FnScope ["_law_names_here", "_law_literal", "_law_setting"] ["_law_names_here", "_law_literal", "_law_setting"] (defScope (top 70)) := ⟨rfl, rfl, rfl, by decide +kernel, rfl, by decide +kernel, by decide +kernel⟩
def sp_law_holds : DSp := fun ds M post => ∃ (ss : List Str) (a : Lit) (t : List Bool), ds = [strsF ss, litD a, setD t] ∧ (a.n ∈ ss ∧ t.length = ss.length ∧ post (.bl (hasL ss t a)) M)
theorem cl_law_holds {ss : List Str} {t : List Bool} {a : Lit} {M : Mem} {post : WK} : sp_law_holds [strsF ss, litD a, setD t] M post = (a.n ∈ ss ∧ t.length = ss.length ∧ post (.bl (hasL ss t a)) M) := by
  simp [-Bool.exists_bool, sp_law_holds, tp_inj, litD_inj, strs_inj, ruleD_inj, clD_inj, setD_inj, rules_inj, lits_inj, sets_inj, ints_inj, panF_inj, rngs_inj, rngE_inj, sg_inj, and_assoc, Int.natCast_inj]
local macro_rules | `(tactic| walk_at "law_holds") => `(tactic| simp only [↓FD.sSeq_e, ↓FD.sRet_e, ↓FD.sIf_e, ↓FD.sAsg_e, ↓FD.gSet_e, ↓FD.sDrop_e, ↓FD.sNext_e, ↓FD.sPar_e, ↓FD.sPar3_e, ↓FD.wIf_e, ↓FD.wOp_e, ↓FD.wUn_e, ↓FD.wVar_e, ↓FD.wC_e, ↓FD.wTst_e, ↓FD.wAnd_e, ↓FD.wOr_e, ↓FD.wNot_e, ↓FD.wAndV_e, ↓FD.wOrV_e, ↓FD.wNotV_e, ↓FD.wChain_e, ↓FD.aNil_e, ↓FD.aCons_e, ↓FD.wTup_e, ↓FD.wLst_e, ↓FD.wFtp_e, ↓FD.wNew_e, ↓FD.wCall_e, ↓FD.wB_e, ↓FD.wSl_e, ↓FD.oSome_e, ↓FD.oNone_e, ↓FD.wIsi_e, ↓FD.wIsiC_e, ↓FD.p1_e, ↓FD.p2_e, ↓FD.gLen_e, ↓FD.iLst_e, ↓FD.iTup_e, ↓FD.iStrD_e, ↓FD.iEnT_e, ↓FD.iEnL_e, ↓FD.iRng_e, ↓FD.iRng2_e, ↓FD.gTup_e, ↓FD.gsNil_e, ↓FD.gsCons_e, ↓FD.wM_e, ↓FD.wIxT_e, ↓FD.wFld_e, ↓FD.wMeth_e, ↓FD.wMake_e, ↓FD.sFldD_e, ↓FD.wDGet_e, ↓FD.sDput_e, ↓FD.wDNewK_e, ↓FD.wDNewT_e, ↓FD.wDisp1_e, ↓FD.wIce_e, ↓FD.gSub_e, ↓FD.wCallK_e, ↓FD.t1_e, ↓FD.t2_e, ↓FD.t1w_e, ↓FD.tYesD_e, ↓FD.gDIn_e, ↓FD.gDNin_e, ↓FD.gIndexT_e, ↓FD.gIndex_e, ↓FD.gAbs_e, ↓FD.gMax_e, ↓FD.gMin_e, ↓FD.gDivmod_e, ↓FD.wFz_e, ↓FD.wDGetD_e, ↓FD.t3_e, ↓FD.iZip3D_e, ↓sFor_eq, ↓wLc_eq, ↓wLc2_eq, ↓wDc_eq, ↓look_zero, ↓look_succ, ↓got_so, ↓isB_bl, ↓isI_int, ↓isS_str, ↓isT_tup, ↓isT_ftp, ↓isT_ktp, ↓isT_tp, ↓one_one, ↓two_two, ↓startD_cc, ↓startD_cn, ↓startD_nn, ↓FD.ix_str, ↓FD.ix_tup, ↓ix_ftp, ↓ix_ktp, ↓ix_lst, ↓ix_scr, ↓ix_tp, ↓atI0, ↓atI1, ↓atI2, ↓atI3, ↓FD.eq_str, ↓FD.ne_str, ↓FD.eq_int, ↓FD.ne_int, ↓FD.add_int, ↓FD.sub_int, ↓FD.lt_int, ↓FD.le_int, ↓FD.gt_int, ↓FD.ge_int, ↓FD.add_str, ↓FD.add_lst, ↓FD.add_tup, ↓FD.mul_int, ↓FD.mod_int, ↓FD.fdiv_int, ↓FD.pow_int, ↓isN_non, ↓notN_non, ↓FD.len_str, ↓len_tup, ↓len_ftp, ↓len_ktp, ↓len_lst, ↓len_scr, ↓len_tp, ↓seq_tup, ↓seq_ftp, ↓seq_ktp, ↓seq_lst, ↓seq_scr, ↓seq_tp, ↓in_tup, ↓in_ftp, ↓in_ktp, ↓in_lst, ↓nin_tup, ↓nin_ftp, ↓nin_ktp, ↓nin_lst, ↓FD.in_str, ↓nin_str, ↓isC_one, ↓asL_lst, ↓asL_scr, ↓if_tt, ↓if_ff, ↓isi_ss, ↓isi_tt, ↓isi_st, ↓isi_ts, ↓ty_str, ↓ty_tup, ↓ty_ftp, ↓ty_tp, ↓all_lst, ↓any_lst, ↓flat_s, ↓flat_set, ↓tuple_lst, ↓FD.int_int, ↓eq_ftp_nil, ↓ne_ftp_nil, ↓isNon_non, ↓isNon_int, ↓isNon_str, ↓isNon_ptr, ↓isNon_tup, ↓isNon_ftp, ↓inL_strs, ↓flatSs, ↓inL_sets, ↓flatSets, ↓FM.tw, ↓FM.tw3, ↓FM.sl_str, ↓sl_set, ↓cell_upd, ↓lk_sw, ↓lk_ru, ↓lk_st, ↓lk_place, ↓lk_has, ↓lk_keeps, ↓lk_wrongs, ↓lk_goods, ↓lk_ways_from, ↓lk_text, ↓ins_pan, ↓FD.fit_le, ↓cx_K, ↓nox_K, ↓blk_K, ↓bx_K, ↓c1, ↓c2, ↓c3, ↓c4, ↓inL_cons, ↓inL_nil, ↓all_bools, ↓any_bools, ↓in_tp, ↓nin_tp, ↓FM.sl_ftp, ↓FM.sl_tup, ↓FM.sl_lst, ↓FM.sl_scr, ↓index_eq, ↓ex_ftp, ↓eqd_str, ↓wf_at, ↓isT_cl, ↓isT_st, ↓isT_lit, ↓ix_lit0, ↓ix_lit1, ↓len_lit, ↓ty_lit, ↓eq_lit, ↓ne_lit, ↓eq_set, ↓ne_set, ↓len_set, ↓ty_set, ↓isS_set, ↓isC_sg, ↓sNever_e, ↓enumD_map, ↓dpAll_strs, ↓dpAll_mapI, ↓ne_lst_nil, ↓eq_lst_nil, ↓isT_grp, ↓len_grp, ↓isDc_wf, ↓wn_at, ↓isT_way, ↓len_way, ↓ty_way, ↓ty_st, ↓len_st, ↓ix_st0, ↓ix_st1, ↓inD_lits, ↓ninD_lits, ↓dpAll_sets, ↓three_three, ↓zip3_sets, ↓isT_z3, ↓inL_lock, ↓ninT_lits, ↓FM.tp_t, ↓FM.tp_f, ↓ixN30, ↓ixN31, ↓ixN32, ↓ix_upd, ↓FM.eq_bl, ↓FM.ne_bl, ↓FM.sl_tp, ↓lstOf_lst, ↓okL_lst, ↓gMulS_eq, ↓add_sets, ↓add_setb, ↓add_setp, ↓add_setm, ↓rngE_e, ↓ix_rule0, ↓repr_bb, ↓isB_isD, ↓isB_notD, ↓wLcN_eq, ↓optW_some, ↓optW_none, ↓isNon_way, ↓ne_way0, ↓mulL2, ↓add_rules, ↓add_rulesT, ↓add_rulesF, ↓ne_ftp_sets, ↓ne_ftp_lits, ↓ne_ftp_strs, Option.isSome_some, Option.isSome_none, Option.isNone_some, Option.isNone_none, Option.map_some, Option.map_none, isNon_optW, pick_nil, pick_cons, List.getElem?_cons_zero, List.getElem?_cons_succ, List.nil_append, List.append_nil, List.cons_append, Bool.decide_eq_true, Bool.decide_eq_false, Int.reduceAbs, Int.reduceToNat, Int.reducePow, true_or, or_true, Mem.upd_upd, rng_int, Bool.not_true, Bool.not_false, Bool.false_eq_true, if_false, if_true, true_and, and_true, List.set_cons_zero, List.set_cons_succ, List.length_cons, List.length_nil, List.length_map, eq_self, decide_true, decide_false, Bool.true_eq_false, or_self, Bool.or_self, List.all_cons, List.all_nil, Bool.and_true, Bool.true_and, Bool.or_false, Bool.false_or, Bool.or_true, Bool.true_or, Bool.and_false, Bool.false_and, Int.reduceLT, Int.reduceLE, Int.reduceEq, Nat.reduceLeDiff, Nat.reduceAdd, Nat.reduceLT, wf_some, wn_some, fold_lit, fold_litp, fold_litm, sg_iff, sg_in_pm, isNon_opt, isEmpty_map, ↓reduceIte, nq_0_1, nq_0_2, nq_0_3, nq_0_4, nq_0_5, nq_0_6, nq_0_7, nq_1_0, nq_1_2, nq_1_3, nq_1_4, nq_1_5, nq_1_6, nq_1_7, nq_2_0, nq_2_1, nq_2_3, nq_2_4, nq_2_5, nq_2_6, nq_2_7, nq_3_0, nq_3_1, nq_3_2, nq_3_4, nq_3_5, nq_3_6, nq_3_7, nq_4_0, nq_4_1, nq_4_2, nq_4_3, nq_4_5, nq_4_6, nq_4_7, nq_5_0, nq_5_1, nq_5_2, nq_5_3, nq_5_4, nq_5_6, nq_5_7, nq_6_0, nq_6_1, nq_6_2, nq_6_3, nq_6_4, nq_6_5, nq_6_7, nq_7_0, nq_7_1, nq_7_2, nq_7_3, nq_7_4, nq_7_5, nq_7_6])
theorem fn_law_holds (T : Tx P w K mg base) : Fng P w K mg base 1 "_law_holds" (top 70) ["_law_names_here", "_law_literal", "_law_setting"] sp_law_holds := by
  have S := sc_law_holds
  refine fng_of T.d_law_holds T.g_law_holds S (fun ds M post h => by unfold sp_law_holds at h; grind) fun f cdv A outer s H gd hr => ⟨_, (ds_one (ds_ret (de_cmp (o_eq hr) (de_ix o_ix (dv 2) (de_ixT (dv 0) (da_cons (de_ix o_ix (dv 1) dint) da_nil))) (de_ix o_ix (dv 1) dint)))), ?_⟩
  rintro ds M post ⟨ss, a, t, rfl, hn, hl, h⟩
  (try walk_at "law_holds")
  simp only [find_eq hn, ix_set (val_at hn hl)]
  (try walk_at "law_holds")
  unfold hasL at h
  rw [Bool.beq_eq_decide_eq] at h
  exact h
theorem ok_law_holds (T : Tx P w K mg base) : Pub P w K mg base 1 "_law_holds" ["_law_names_here", "_law_literal", "_law_setting"] sp_law_holds := (fn_law_holds T).pub fun _ _ _ _ _ _ us hl => match us, hl with | [_, _, _], _ => rfl
end
end LW

namespace LW
open PySem PySem.Spec PyProof.Rows L2 FD FM
local macro_rules | `(tactic| walk_at "w") => `(tactic| simp only [↓FD.sSeq_e, ↓FD.sRet_e, ↓FD.sIf_e, ↓FD.sAsg_e, ↓FD.gSet_e, ↓FD.sDrop_e, ↓FD.sNext_e, ↓FD.sPar_e, ↓FD.sPar3_e, ↓FD.wIf_e, ↓FD.wOp_e, ↓FD.wUn_e, ↓FD.wVar_e, ↓FD.wC_e, ↓FD.wTst_e, ↓FD.wAnd_e, ↓FD.wOr_e, ↓FD.wNot_e, ↓FD.wAndV_e, ↓FD.wOrV_e, ↓FD.wNotV_e, ↓FD.wChain_e, ↓FD.aNil_e, ↓FD.aCons_e, ↓FD.wTup_e, ↓FD.wLst_e, ↓FD.wFtp_e, ↓FD.wNew_e, ↓FD.wCall_e, ↓FD.wB_e, ↓FD.wSl_e, ↓FD.oSome_e, ↓FD.oNone_e, ↓FD.wIsi_e, ↓FD.wIsiC_e, ↓FD.p1_e, ↓FD.p2_e, ↓FD.gLen_e, ↓FD.iLst_e, ↓FD.iTup_e, ↓FD.iStrD_e, ↓FD.iEnT_e, ↓FD.iEnL_e, ↓FD.iRng_e, ↓FD.iRng2_e, ↓FD.gTup_e, ↓FD.gsNil_e, ↓FD.gsCons_e, ↓FD.wM_e, ↓FD.wIxT_e, ↓FD.wFld_e, ↓FD.wMeth_e, ↓FD.wMake_e, ↓FD.sFldD_e, ↓FD.wDGet_e, ↓FD.sDput_e, ↓FD.wDNewK_e, ↓FD.wDNewT_e, ↓FD.wDisp1_e, ↓FD.wIce_e, ↓FD.gSub_e, ↓FD.wCallK_e, ↓FD.t1_e, ↓FD.t2_e, ↓FD.t1w_e, ↓FD.tYesD_e, ↓FD.gDIn_e, ↓FD.gDNin_e, ↓FD.gIndexT_e, ↓FD.gIndex_e, ↓FD.gInt_e, ↓FD.gAbs_e, ↓FD.gMax_e, ↓FD.gMin_e, ↓FD.gDivmod_e, ↓FD.wFz_e, ↓FD.wDGetD_e, ↓FD.t3_e, ↓FD.iZip3D_e, ↓sFor_eq, ↓wLc_eq, ↓wLc2_eq, ↓wDc_eq, ↓look_zero, ↓look_succ, ↓got_so, ↓isB_bl, ↓isI_int, ↓isS_str, ↓isT_tup, ↓isT_ftp, ↓isT_ktp, ↓isT_tp, ↓one_one, ↓two_two, ↓startD_cc, ↓startD_cn, ↓startD_nn, ↓FD.ix_str, ↓FD.ix_tup, ↓ix_ftp, ↓ix_ktp, ↓ix_lst, ↓ix_scr, ↓ix_tp, ↓atI0, ↓atI1, ↓atI2, ↓atI3, ↓FD.eq_str, ↓FD.ne_str, ↓FD.eq_int, ↓FD.ne_int, ↓FD.add_int, ↓FD.sub_int, ↓FD.lt_int, ↓FD.le_int, ↓FD.gt_int, ↓FD.ge_int, ↓FD.add_str, ↓FD.add_lst, ↓FD.add_tup, ↓FD.mul_int, ↓FD.mod_int, ↓FD.fdiv_int, ↓FD.pow_int, ↓isN_non, ↓notN_non, ↓FD.len_str, ↓len_tup, ↓len_ftp, ↓len_ktp, ↓len_lst, ↓len_scr, ↓len_tp, ↓seq_tup, ↓seq_ftp, ↓seq_ktp, ↓seq_lst, ↓seq_scr, ↓seq_tp, ↓in_tup, ↓in_ftp, ↓in_ktp, ↓in_lst, ↓nin_tup, ↓nin_ftp, ↓nin_ktp, ↓nin_lst, ↓FD.in_str, ↓nin_str, ↓isC_one, ↓asL_lst, ↓asL_scr, ↓if_tt, ↓if_ff, ↓isi_ss, ↓isi_tt, ↓isi_st, ↓isi_ts, ↓ty_str, ↓ty_tup, ↓ty_ftp, ↓ty_tp, ↓all_lst, ↓any_lst, ↓flat_s, ↓flat_set, ↓tuple_lst, ↓FD.int_int, ↓eq_ftp_nil, ↓ne_ftp_nil, ↓isNon_non, ↓isNon_int, ↓isNon_str, ↓isNon_ptr, ↓isNon_tup, ↓isNon_ftp, ↓inL_strs, ↓flatSs, ↓inL_sets, ↓flatSets, ↓FM.tw, ↓FM.tw3, ↓FM.sl_str, ↓sl_set, ↓cell_upd, ↓lk_sw, ↓lk_ru, ↓lk_st, ↓lk_place, ↓lk_has, ↓lk_keeps, ↓lk_wrongs, ↓lk_goods, ↓lk_ways_from, ↓lk_text, ↓ins_pan, ↓FD.fit_le, ↓cx_K, ↓nox_K, ↓blk_K, ↓bx_K, ↓c1, ↓c2, ↓c3, ↓c4, ↓inL_cons, ↓inL_nil, ↓all_bools, ↓any_bools, ↓in_tp, ↓nin_tp, ↓FM.sl_ftp, ↓FM.sl_tup, ↓FM.sl_lst, ↓FM.sl_scr, ↓index_eq, ↓ex_ftp, ↓eqd_str, ↓wf_at, ↓isT_cl, ↓isT_st, ↓isT_lit, ↓ix_lit0, ↓ix_lit1, ↓len_lit, ↓ty_lit, ↓eq_lit, ↓ne_lit, ↓eq_set, ↓ne_set, ↓len_set, ↓ty_set, ↓isS_set, ↓isC_sg, ↓sNever_e, ↓enumD_map, ↓dpAll_strs, ↓dpAll_mapI, ↓ne_lst_nil, ↓eq_lst_nil, ↓isT_grp, ↓len_grp, ↓isDc_wf, ↓wn_at, ↓isT_way, ↓len_way, ↓ty_way, ↓ty_st, ↓len_st, ↓ix_st0, ↓ix_st1, ↓inD_lits, ↓ninD_lits, ↓dpAll_sets, ↓three_three, ↓zip3_sets, ↓isT_z3, ↓inL_lock, ↓ninT_lits, ↓FM.tp_t, ↓FM.tp_f, Bool.not_true, Bool.not_false, Bool.false_eq_true, if_false, if_true, true_and, and_true, List.set_cons_zero, List.set_cons_succ, List.length_cons, List.length_nil, List.length_map, eq_self, decide_true, decide_false, Bool.true_eq_false, or_self, Bool.or_self, List.all_cons, List.all_nil, Bool.and_true, Bool.true_and, Bool.or_false, Bool.false_or, Bool.or_true, Bool.true_or, Bool.and_false, Bool.false_and, Int.reduceLT, Int.reduceLE, Int.reduceEq, Nat.reduceLeDiff, Nat.reduceAdd, Nat.reduceLT, wf_some, wn_some, fold_lit, fold_litp, fold_litm, sg_iff, sg_in_pm, isNon_opt, isEmpty_map, ↓reduceIte, nq_0_1, nq_0_2, nq_0_3, nq_0_4, nq_0_5, nq_0_6, nq_0_7, nq_1_0, nq_1_2, nq_1_3, nq_1_4, nq_1_5, nq_1_6, nq_1_7, nq_2_0, nq_2_1, nq_2_3, nq_2_4, nq_2_5, nq_2_6, nq_2_7, nq_3_0, nq_3_1, nq_3_2, nq_3_4, nq_3_5, nq_3_6, nq_3_7, nq_4_0, nq_4_1, nq_4_2, nq_4_3, nq_4_5, nq_4_6, nq_4_7, nq_5_0, nq_5_1, nq_5_2, nq_5_3, nq_5_4, nq_5_6, nq_5_7, nq_6_0, nq_6_1, nq_6_2, nq_6_3, nq_6_4, nq_6_5, nq_6_7, nq_7_0, nq_7_1, nq_7_2, nq_7_3, nq_7_4, nq_7_5, nq_7_6])
section
variable {P : Program} {w : World} {K : PySem.W.Frag} {mg : Str → Option Value} {base : Heap}
theorem sc_law_keeps : FnScope ["_law_names_here", "_law_rule_here", "_law_setting", "_law_near", "_law_far"] ["_law_names_here", "_law_rule_here", "_law_setting"] (defScope (top 71)) := ⟨rfl, rfl, rfl, by decide +kernel, rfl, by decide +kernel, by decide +kernel⟩
def sp_law_keeps : DSp := fun ds M post => ∃ (ss : List Str) (r : Rule) (t : List Bool), ds = [strsF ss, ruleD r, setD t] ∧ (ruleOk ss r = true ∧ t.length = ss.length ∧ post (.bl (keepsR ss t r)) M)
theorem cl_law_keeps {ss : List Str} {r : Rule} {t : List Bool} {M : Mem} {post : WK} : sp_law_keeps [strsF ss, ruleD r, setD t] M post = (ruleOk ss r = true ∧ t.length = ss.length ∧ post (.bl (keepsR ss t r)) M) := by
  simp [-Bool.exists_bool, sp_law_keeps, tp_inj, litD_inj, strs_inj, ruleD_inj, clD_inj, setD_inj, rules_inj, lits_inj, sets_inj, ints_inj, panF_inj, rngs_inj, rngE_inj, sg_inj, and_assoc, Int.natCast_inj]
local macro_rules | `(tactic| walk_at "law_keeps") => `(tactic| simp only [↓cl_law_holds, cl_law_holds, ↓FD.sSeq_e, ↓FD.sRet_e, ↓FD.sIf_e, ↓FD.sAsg_e, ↓FD.gSet_e, ↓FD.sDrop_e, ↓FD.sNext_e, ↓FD.sPar_e, ↓FD.sPar3_e, ↓FD.wIf_e, ↓FD.wOp_e, ↓FD.wUn_e, ↓FD.wVar_e, ↓FD.wC_e, ↓FD.wTst_e, ↓FD.wAnd_e, ↓FD.wOr_e, ↓FD.wNot_e, ↓FD.wAndV_e, ↓FD.wOrV_e, ↓FD.wNotV_e, ↓FD.wChain_e, ↓FD.aNil_e, ↓FD.aCons_e, ↓FD.wTup_e, ↓FD.wLst_e, ↓FD.wFtp_e, ↓FD.wNew_e, ↓FD.wCall_e, ↓FD.wB_e, ↓FD.wSl_e, ↓FD.oSome_e, ↓FD.oNone_e, ↓FD.wIsi_e, ↓FD.wIsiC_e, ↓FD.p1_e, ↓FD.p2_e, ↓FD.gLen_e, ↓FD.iLst_e, ↓FD.iTup_e, ↓FD.iStrD_e, ↓FD.iEnT_e, ↓FD.iEnL_e, ↓FD.iRng_e, ↓FD.iRng2_e, ↓FD.gTup_e, ↓FD.gsNil_e, ↓FD.gsCons_e, ↓FD.wM_e, ↓FD.wIxT_e, ↓FD.wFld_e, ↓FD.wMeth_e, ↓FD.wMake_e, ↓FD.sFldD_e, ↓FD.wDGet_e, ↓FD.sDput_e, ↓FD.wDNewK_e, ↓FD.wDNewT_e, ↓FD.wDisp1_e, ↓FD.wIce_e, ↓FD.gSub_e, ↓FD.wCallK_e, ↓FD.t1_e, ↓FD.t2_e, ↓FD.t1w_e, ↓FD.tYesD_e, ↓FD.gDIn_e, ↓FD.gDNin_e, ↓FD.gIndexT_e, ↓FD.gIndex_e, ↓FD.gAbs_e, ↓FD.gMax_e, ↓FD.gMin_e, ↓FD.gDivmod_e, ↓FD.wFz_e, ↓FD.wDGetD_e, ↓FD.t3_e, ↓FD.iZip3D_e, ↓sFor_eq, ↓wLc_eq, ↓wLc2_eq, ↓wDc_eq, ↓look_zero, ↓look_succ, ↓got_so, ↓isB_bl, ↓isI_int, ↓isS_str, ↓isT_tup, ↓isT_ftp, ↓isT_ktp, ↓isT_tp, ↓one_one, ↓two_two, ↓startD_cc, ↓startD_cn, ↓startD_nn, ↓FD.ix_str, ↓FD.ix_tup, ↓ix_ftp, ↓ix_ktp, ↓ix_lst, ↓ix_scr, ↓ix_tp, ↓atI0, ↓atI1, ↓atI2, ↓atI3, ↓FD.eq_str, ↓FD.ne_str, ↓FD.eq_int, ↓FD.ne_int, ↓FD.add_int, ↓FD.sub_int, ↓FD.lt_int, ↓FD.le_int, ↓FD.gt_int, ↓FD.ge_int, ↓FD.add_str, ↓FD.add_lst, ↓FD.add_tup, ↓FD.mul_int, ↓FD.mod_int, ↓FD.fdiv_int, ↓FD.pow_int, ↓isN_non, ↓notN_non, ↓FD.len_str, ↓len_tup, ↓len_ftp, ↓len_ktp, ↓len_lst, ↓len_scr, ↓len_tp, ↓seq_tup, ↓seq_ftp, ↓seq_ktp, ↓seq_lst, ↓seq_scr, ↓seq_tp, ↓in_tup, ↓in_ftp, ↓in_ktp, ↓in_lst, ↓nin_tup, ↓nin_ftp, ↓nin_ktp, ↓nin_lst, ↓FD.in_str, ↓nin_str, ↓isC_one, ↓asL_lst, ↓asL_scr, ↓if_tt, ↓if_ff, ↓isi_ss, ↓isi_tt, ↓isi_st, ↓isi_ts, ↓ty_str, ↓ty_tup, ↓ty_ftp, ↓ty_tp, ↓all_lst, ↓any_lst, ↓flat_s, ↓flat_set, ↓tuple_lst, ↓FD.int_int, ↓eq_ftp_nil, ↓ne_ftp_nil, ↓isNon_non, ↓isNon_int, ↓isNon_str, ↓isNon_ptr, ↓isNon_tup, ↓isNon_ftp, ↓inL_strs, ↓flatSs, ↓inL_sets, ↓flatSets, ↓FM.tw, ↓FM.tw3, ↓FM.sl_str, ↓sl_set, ↓cell_upd, ↓lk_sw, ↓lk_ru, ↓lk_st, ↓lk_place, ↓lk_has, ↓lk_keeps, ↓lk_wrongs, ↓lk_goods, ↓lk_ways_from, ↓lk_text, ↓ins_pan, ↓FD.fit_le, ↓cx_K, ↓nox_K, ↓blk_K, ↓bx_K, ↓c1, ↓c2, ↓c3, ↓c4, ↓inL_cons, ↓inL_nil, ↓all_bools, ↓any_bools, ↓in_tp, ↓nin_tp, ↓FM.sl_ftp, ↓FM.sl_tup, ↓FM.sl_lst, ↓FM.sl_scr, ↓index_eq, ↓ex_ftp, ↓eqd_str, ↓wf_at, ↓isT_cl, ↓isT_st, ↓isT_lit, ↓ix_lit0, ↓ix_lit1, ↓len_lit, ↓ty_lit, ↓eq_lit, ↓ne_lit, ↓eq_set, ↓ne_set, ↓len_set, ↓ty_set, ↓isS_set, ↓isC_sg, ↓sNever_e, ↓enumD_map, ↓dpAll_strs, ↓dpAll_mapI, ↓ne_lst_nil, ↓eq_lst_nil, ↓isT_grp, ↓len_grp, ↓isDc_wf, ↓wn_at, ↓isT_way, ↓len_way, ↓ty_way, ↓ty_st, ↓len_st, ↓ix_st0, ↓ix_st1, ↓inD_lits, ↓ninD_lits, ↓dpAll_sets, ↓three_three, ↓zip3_sets, ↓isT_z3, ↓inL_lock, ↓ninT_lits, ↓FM.tp_t, ↓FM.tp_f, ↓ixN30, ↓ixN31, ↓ixN32, ↓ix_upd, ↓FM.eq_bl, ↓FM.ne_bl, ↓FM.sl_tp, ↓lstOf_lst, ↓okL_lst, ↓gMulS_eq, ↓add_sets, ↓add_setb, ↓add_setp, ↓add_setm, ↓rngE_e, ↓ix_rule0, ↓repr_bb, ↓isB_isD, ↓isB_notD, ↓wLcN_eq, ↓optW_some, ↓optW_none, ↓isNon_way, ↓ne_way0, ↓mulL2, ↓add_rules, ↓add_rulesT, ↓add_rulesF, ↓ne_ftp_sets, ↓ne_ftp_lits, ↓ne_ftp_strs, Option.isSome_some, Option.isSome_none, Option.isNone_some, Option.isNone_none, Option.map_some, Option.map_none, isNon_optW, pick_nil, pick_cons, List.getElem?_cons_zero, List.getElem?_cons_succ, List.nil_append, List.append_nil, List.cons_append, Bool.decide_eq_true, Bool.decide_eq_false, Int.reduceAbs, Int.reduceToNat, Int.reducePow, true_or, or_true, Mem.upd_upd, rng_int, Bool.not_true, Bool.not_false, Bool.false_eq_true, if_false, if_true, true_and, and_true, List.set_cons_zero, List.set_cons_succ, List.length_cons, List.length_nil, List.length_map, eq_self, decide_true, decide_false, Bool.true_eq_false, or_self, Bool.or_self, List.all_cons, List.all_nil, Bool.and_true, Bool.true_and, Bool.or_false, Bool.false_or, Bool.or_true, Bool.true_or, Bool.and_false, Bool.false_and, Int.reduceLT, Int.reduceLE, Int.reduceEq, Nat.reduceLeDiff, Nat.reduceAdd, Nat.reduceLT, wf_some, wn_some, fold_lit, fold_litp, fold_litm, sg_iff, sg_in_pm, isNon_opt, isEmpty_map, ↓reduceIte, nq_0_1, nq_0_2, nq_0_3, nq_0_4, nq_0_5, nq_0_6, nq_0_7, nq_1_0, nq_1_2, nq_1_3, nq_1_4, nq_1_5, nq_1_6, nq_1_7, nq_2_0, nq_2_1, nq_2_3, nq_2_4, nq_2_5, nq_2_6, nq_2_7, nq_3_0, nq_3_1, nq_3_2, nq_3_4, nq_3_5, nq_3_6, nq_3_7, nq_4_0, nq_4_1, nq_4_2, nq_4_3, nq_4_5, nq_4_6, nq_4_7, nq_5_0, nq_5_1, nq_5_2, nq_5_3, nq_5_4, nq_5_6, nq_5_7, nq_6_0, nq_6_1, nq_6_2, nq_6_3, nq_6_4, nq_6_5, nq_6_7, nq_7_0, nq_7_1, nq_7_2, nq_7_3, nq_7_4, nq_7_5, nq_7_6])
theorem fn_law_keeps (T : Tx P w K mg base) : Fng P w K mg base 2 "_law_keeps" (top 71) ["_law_names_here", "_law_rule_here", "_law_setting"] sp_law_keeps := by
  have S := sc_law_keeps
  refine fng_of T.d_law_keeps T.g_law_keeps S (fun ds M post h => by unfold sp_law_keeps at h; grind) fun f cdv A outer s H gd hr => ⟨_, (ds_cons (ds_if (dt_cmp (o_eq hr) (de_ix o_ix (dv 1) dint) dstr)
      (ds_one (ds_ret (de_call (ok_law_holds T) (hr.mono (by decide)) gd (da_cons (dv 0) (da_cons (de_ix o_ix (dv 1) dint) (da_cons (dv 2) da_nil))))))
      ds_nil)
      (ds_cons (ds_if (dt_cmp o_in (de_ix o_ix (dv 1) dint) (de_lst (da_cons dstr (da_cons dstr da_nil))))
      (ds_cons (ds_set (i := 3) S.nd (de_ix o_ix (dv 2) (de_ixT (dv 0) (da_cons (de_ix o_ix (dv 1) dint) da_nil))))
      (ds_cons (ds_set (i := 4) S.nd (de_ix o_ix (dv 2) (de_ixT (dv 0) (da_cons (de_ix o_ix (dv 1) dint) da_nil))))
      (ds_one (ds_ret (de_cmp (o_eq hr) (de_cmp (o_eq hr) (dv 3) (dv 4)) (de_cmp (o_eq hr) (de_ix o_ix (dv 1) dint) dstr))))))
      ds_nil)
      (ds_cons (ds_par (i := 3) (j := 4) rfl S.nd (da_cons (de_call (ok_law_holds T) (hr.mono (by decide)) gd (da_cons (dv 0) (da_cons (de_ix o_ix (dv 1) dint) (da_cons (dv 2) da_nil)))) (da_cons (de_call (ok_law_holds T) (hr.mono (by decide)) gd (da_cons (dv 0) (da_cons (de_ix o_ix (dv 1) dint) (da_cons (dv 2) da_nil)))) da_nil)))
      (ds_cons (ds_if (dt_cmp (o_eq hr) (de_ix o_ix (dv 1) dint) dstr)
      (ds_one (ds_ret (de_or (dv 3) (de_one (dv 4)))))
      ds_nil)
      (ds_one (ds_ret (de_if (dt_cmp (o_eq hr) (de_ix o_ix (dv 1) dint) dstr) (de_or (de_not (dv 3)) (de_one (dv 4))) (de_not (de_and (dv 3) (de_one (dv 4))))))))))), ?_⟩
  rintro ds M post ⟨ss, r, t, rfl, hr2, hl, h⟩
  cases r <;> unfold ruleD <;> simp [ruleOk, litOk] at hr2
  · rename_i a
    (try walk_at "law_keeps")
    refine ⟨hr2, hl, ?_⟩
    have e : keepsR ss t (.be a) = hasL ss t a := by simp [keepsR, clauses, keepsC]
    rw [e] at h
    exact h
  · rename_i a b
    have e : keepsR ss t (.either a b) = (hasL ss t a || hasL ss t b) := by simp [keepsR, clauses, keepsC]
    rw [e] at h
    (try walk_at "law_keeps")
    refine ⟨hr2.1.1, hl, hr2.1.2, hl, ?_⟩
    cases h1 : hasL ss t a <;> rw [h1] at h <;> (try walk_at "law_keeps") <;> exact h
  · rename_i a b
    have e : keepsR ss t (.needs a b) = (!hasL ss t a || hasL ss t b) := by simp [keepsR, clauses, keepsC, has_op]
    rw [e] at h
    (try walk_at "law_keeps")
    refine ⟨hr2.1.1, hl, hr2.1.2, hl, ?_⟩
    cases h1 : hasL ss t a <;> rw [h1] at h <;> (try walk_at "law_keeps") <;> exact h
  · rename_i a b
    have e : keepsR ss t (.bars a b) = (!(hasL ss t a && hasL ss t b)) := by simp [keepsR, clauses, keepsC, has_op]
    rw [e] at h
    (try walk_at "law_keeps")
    refine ⟨hr2.1.1, hl, hr2.1.2, hl, ?_⟩
    cases h1 : hasL ss t a <;> rw [h1] at h <;> (try walk_at "law_keeps") <;> exact h
  · rename_i f x y
    have e : keepsR ss t (.same f x y) = (decide (val ss t x = val ss t y)) := by
      simp [keepsR, clauses, keepsC, hasL]
      cases val ss t x <;> cases val ss t y <;> rfl
    rw [e] at h
    (try walk_at "law_keeps")
    simp only [find_eq hr2.1.1, ix_set (val_at hr2.1.1 hl), find_eq hr2.1.2, ix_set (val_at hr2.1.2 hl)]
    (try walk_at "law_keeps")
    exact h
  · rename_i f x y
    have e : keepsR ss t (.unlike f x y) = (!decide (val ss t x = val ss t y)) := by
      simp [keepsR, clauses, keepsC, hasL]
      cases val ss t x <;> cases val ss t y <;> rfl
    rw [e] at h
    (try walk_at "law_keeps")
    simp only [find_eq hr2.1.1, ix_set (val_at hr2.1.1 hl), find_eq hr2.1.2, ix_set (val_at hr2.1.2 hl)]
    (try walk_at "law_keeps")
    exact h
theorem ok_law_keeps (T : Tx P w K mg base) : Pub P w K mg base 2 "_law_keeps" ["_law_names_here", "_law_rule_here", "_law_setting"] sp_law_keeps := (fn_law_keeps T).pub fun _ _ _ _ _ _ us hl => match us, hl with | [_, _, _], _ => rfl
theorem sc_law_rule : FnScope ["_law_bag_here", "_law_names_here", "_law_base", "_law_off", "_law_turn", "_law_x", "_law_y", "_law_near", "_law_far", "_law_word", "_law_rule_here"] ["_law_bag_here", "_law_names_here", "_law_base", "_law_off"] (defScope (top 67)) := ⟨rfl, rfl, rfl, by decide +kernel, rfl, by decide +kernel, by decide +kernel⟩
def sp_law_rule : DSp := fun ds M post => ∃ (j : Addr) (ss : List Str) (t : List Bool) (o : Int), ds = [.ptr j, strsF ss, setD t, .int o] ∧ (Jg M j ∧ ss ≠ [] ∧ ss.length ≤ 1000 ∧ ss.Nodup ∧ t.length = ss.length ∧ ∀ r, ruleOk ss r = true → (o ≠ 1 → keepsR ss t r = true) → ∀ M', Jm j M M' → post (ruleD r) M')
theorem cl_law_rule {j : Addr} {ss : List Str} {t : List Bool} {o : Int} {M : Mem} {post : WK} : sp_law_rule [.ptr j, strsF ss, setD t, .int o] M post = (Jg M j ∧ ss ≠ [] ∧ ss.length ≤ 1000 ∧ ss.Nodup ∧ t.length = ss.length ∧ ∀ r, ruleOk ss r = true → (o ≠ 1 → keepsR ss t r = true) → ∀ M', Jm j M M' → post (ruleD r) M') := by
  simp [-Bool.exists_bool, sp_law_rule, tp_inj, litD_inj, strs_inj, ruleD_inj, clD_inj, setD_inj, rules_inj, lits_inj, sets_inj, ints_inj, panF_inj, rngs_inj, rngE_inj, sg_inj, and_assoc, Int.natCast_inj]
local macro_rules | `(tactic| walk_at "law_rule") => `(tactic| simp only [↓cl_law_draw, cl_law_draw, ↓cl_law_one, cl_law_one, ↓cl_law_keeps, cl_law_keeps, ↓FD.sSeq_e, ↓FD.sRet_e, ↓FD.sIf_e, ↓FD.sAsg_e, ↓FD.gSet_e, ↓FD.sDrop_e, ↓FD.sNext_e, ↓FD.sPar_e, ↓FD.sPar3_e, ↓FD.wIf_e, ↓FD.wOp_e, ↓FD.wUn_e, ↓FD.wVar_e, ↓FD.wC_e, ↓FD.wTst_e, ↓FD.wAnd_e, ↓FD.wOr_e, ↓FD.wNot_e, ↓FD.wAndV_e, ↓FD.wOrV_e, ↓FD.wNotV_e, ↓FD.wChain_e, ↓FD.aNil_e, ↓FD.aCons_e, ↓FD.wTup_e, ↓FD.wLst_e, ↓FD.wFtp_e, ↓FD.wNew_e, ↓FD.wCall_e, ↓FD.wB_e, ↓FD.wSl_e, ↓FD.oSome_e, ↓FD.oNone_e, ↓FD.wIsi_e, ↓FD.wIsiC_e, ↓FD.p1_e, ↓FD.p2_e, ↓FD.gLen_e, ↓FD.iLst_e, ↓FD.iTup_e, ↓FD.iStrD_e, ↓FD.iEnT_e, ↓FD.iEnL_e, ↓FD.iRng_e, ↓FD.iRng2_e, ↓FD.gTup_e, ↓FD.gsNil_e, ↓FD.gsCons_e, ↓FD.wM_e, ↓FD.wIxT_e, ↓FD.wFld_e, ↓FD.wMeth_e, ↓FD.wMake_e, ↓FD.sFldD_e, ↓FD.wDGet_e, ↓FD.sDput_e, ↓FD.wDNewK_e, ↓FD.wDNewT_e, ↓FD.wDisp1_e, ↓FD.wIce_e, ↓FD.gSub_e, ↓FD.wCallK_e, ↓FD.t1_e, ↓FD.t2_e, ↓FD.t1w_e, ↓FD.tYesD_e, ↓FD.gDIn_e, ↓FD.gDNin_e, ↓FD.gIndexT_e, ↓FD.gIndex_e, ↓FD.gAbs_e, ↓FD.gMax_e, ↓FD.gMin_e, ↓FD.gDivmod_e, ↓FD.wFz_e, ↓FD.wDGetD_e, ↓FD.t3_e, ↓FD.iZip3D_e, ↓sFor_eq, ↓wLc_eq, ↓wLc2_eq, ↓wDc_eq, ↓look_zero, ↓look_succ, ↓got_so, ↓isB_bl, ↓isI_int, ↓isS_str, ↓isT_tup, ↓isT_ftp, ↓isT_ktp, ↓isT_tp, ↓one_one, ↓two_two, ↓startD_cc, ↓startD_cn, ↓startD_nn, ↓FD.ix_str, ↓FD.ix_tup, ↓ix_ftp, ↓ix_ktp, ↓ix_lst, ↓ix_scr, ↓ix_tp, ↓atI0, ↓atI1, ↓atI2, ↓atI3, ↓FD.eq_str, ↓FD.ne_str, ↓FD.eq_int, ↓FD.ne_int, ↓FD.add_int, ↓FD.sub_int, ↓FD.lt_int, ↓FD.le_int, ↓FD.gt_int, ↓FD.ge_int, ↓FD.add_str, ↓FD.add_lst, ↓FD.add_tup, ↓FD.mul_int, ↓FD.mod_int, ↓FD.fdiv_int, ↓FD.pow_int, ↓isN_non, ↓notN_non, ↓FD.len_str, ↓len_tup, ↓len_ftp, ↓len_ktp, ↓len_lst, ↓len_scr, ↓len_tp, ↓seq_tup, ↓seq_ftp, ↓seq_ktp, ↓seq_lst, ↓seq_scr, ↓seq_tp, ↓in_tup, ↓in_ftp, ↓in_ktp, ↓in_lst, ↓nin_tup, ↓nin_ftp, ↓nin_ktp, ↓nin_lst, ↓FD.in_str, ↓nin_str, ↓isC_one, ↓asL_lst, ↓asL_scr, ↓if_tt, ↓if_ff, ↓isi_ss, ↓isi_tt, ↓isi_st, ↓isi_ts, ↓ty_str, ↓ty_tup, ↓ty_ftp, ↓ty_tp, ↓all_lst, ↓any_lst, ↓flat_s, ↓flat_set, ↓tuple_lst, ↓FD.int_int, ↓eq_ftp_nil, ↓ne_ftp_nil, ↓isNon_non, ↓isNon_int, ↓isNon_str, ↓isNon_ptr, ↓isNon_tup, ↓isNon_ftp, ↓inL_strs, ↓flatSs, ↓inL_sets, ↓flatSets, ↓FM.tw, ↓FM.tw3, ↓FM.sl_str, ↓sl_set, ↓cell_upd, ↓lk_sw, ↓lk_ru, ↓lk_st, ↓lk_place, ↓lk_has, ↓lk_keeps, ↓lk_wrongs, ↓lk_goods, ↓lk_ways_from, ↓lk_text, ↓ins_pan, ↓FD.fit_le, ↓cx_K, ↓nox_K, ↓blk_K, ↓bx_K, ↓c1, ↓c2, ↓c3, ↓c4, ↓inL_cons, ↓inL_nil, ↓all_bools, ↓any_bools, ↓in_tp, ↓nin_tp, ↓FM.sl_ftp, ↓FM.sl_tup, ↓FM.sl_lst, ↓FM.sl_scr, ↓index_eq, ↓ex_ftp, ↓eqd_str, ↓wf_at, ↓isT_cl, ↓isT_st, ↓isT_lit, ↓ix_lit0, ↓ix_lit1, ↓len_lit, ↓ty_lit, ↓eq_lit, ↓ne_lit, ↓eq_set, ↓ne_set, ↓len_set, ↓ty_set, ↓isS_set, ↓isC_sg, ↓sNever_e, ↓enumD_map, ↓dpAll_strs, ↓dpAll_mapI, ↓ne_lst_nil, ↓eq_lst_nil, ↓isT_grp, ↓len_grp, ↓isDc_wf, ↓wn_at, ↓isT_way, ↓len_way, ↓ty_way, ↓ty_st, ↓len_st, ↓ix_st0, ↓ix_st1, ↓inD_lits, ↓ninD_lits, ↓dpAll_sets, ↓three_three, ↓zip3_sets, ↓isT_z3, ↓inL_lock, ↓ninT_lits, ↓FM.tp_t, ↓FM.tp_f, ↓ixN30, ↓ixN31, ↓ixN32, ↓ix_upd, ↓FM.eq_bl, ↓FM.ne_bl, ↓FM.sl_tp, ↓lstOf_lst, ↓okL_lst, ↓gMulS_eq, ↓add_sets, ↓add_setb, ↓add_setp, ↓add_setm, ↓rngE_e, ↓ix_rule0, ↓repr_bb, ↓isB_isD, ↓isB_notD, ↓wLcN_eq, ↓optW_some, ↓optW_none, ↓isNon_way, ↓ne_way0, ↓mulL2, ↓add_rules, ↓add_rulesT, ↓add_rulesF, ↓ne_ftp_sets, ↓ne_ftp_lits, ↓ne_ftp_strs, Option.isSome_some, Option.isSome_none, Option.isNone_some, Option.isNone_none, Option.map_some, Option.map_none, isNon_optW, pick_nil, pick_cons, List.getElem?_cons_zero, List.getElem?_cons_succ, List.nil_append, List.append_nil, List.cons_append, Bool.decide_eq_true, Bool.decide_eq_false, Int.reduceAbs, Int.reduceToNat, Int.reducePow, true_or, or_true, Mem.upd_upd, rng_int, Bool.not_true, Bool.not_false, Bool.false_eq_true, if_false, if_true, true_and, and_true, List.set_cons_zero, List.set_cons_succ, List.length_cons, List.length_nil, List.length_map, eq_self, decide_true, decide_false, Bool.true_eq_false, or_self, Bool.or_self, List.all_cons, List.all_nil, Bool.and_true, Bool.true_and, Bool.or_false, Bool.false_or, Bool.or_true, Bool.true_or, Bool.and_false, Bool.false_and, Int.reduceLT, Int.reduceLE, Int.reduceEq, Nat.reduceLeDiff, Nat.reduceAdd, Nat.reduceLT, wf_some, wn_some, fold_lit, fold_litp, fold_litm, sg_iff, sg_in_pm, isNon_opt, isEmpty_map, ↓reduceIte, nq_0_1, nq_0_2, nq_0_3, nq_0_4, nq_0_5, nq_0_6, nq_0_7, nq_1_0, nq_1_2, nq_1_3, nq_1_4, nq_1_5, nq_1_6, nq_1_7, nq_2_0, nq_2_1, nq_2_3, nq_2_4, nq_2_5, nq_2_6, nq_2_7, nq_3_0, nq_3_1, nq_3_2, nq_3_4, nq_3_5, nq_3_6, nq_3_7, nq_4_0, nq_4_1, nq_4_2, nq_4_3, nq_4_5, nq_4_6, nq_4_7, nq_5_0, nq_5_1, nq_5_2, nq_5_3, nq_5_4, nq_5_6, nq_5_7, nq_6_0, nq_6_1, nq_6_2, nq_6_3, nq_6_4, nq_6_5, nq_6_7, nq_7_0, nq_7_1, nq_7_2, nq_7_3, nq_7_4, nq_7_5, nq_7_6])
theorem fn_law_rule (T : Tx P w K mg base) : Fng P w K mg base 3 "_law_rule" (top 67) ["_law_bag_here", "_law_names_here", "_law_base", "_law_off"] sp_law_rule := by
  have S := sc_law_rule
  refine fng_of T.d_law_rule T.g_law_rule S (fun ds M post h => by unfold sp_law_rule at h; grind) fun f cdv A outer s H gd hr => ⟨_, (ds_cons (ds_for PassesOwn.never rfl (di_range T.m_range (da_cons dint da_nil)) (dg_name (i := 4) S.nd)
      (ds_cons (ds_par (i := 5) (j := 6) rfl S.nd (da_cons (de_call (ok_law_draw T) (hr.mono (by decide)) gd (da_cons (dv 0) (da_cons (de_b c_len T.m_len (by decide +kernel) (da_cons (dv 1) da_nil)) da_nil))) (da_cons (de_call (ok_law_draw T) (hr.mono (by decide)) gd (da_cons (dv 0) (da_cons (de_b c_len T.m_len (by decide +kernel) (da_cons (dv 1) da_nil)) da_nil))) da_nil)))
      (ds_cons (ds_par (i := 7) (j := 8) rfl S.nd (da_cons (de_tup (da_cons (de_ix o_ix (dv 1) (dv 5)) (da_cons (de_ix o_ix dstr (de_call (ok_law_draw T) (hr.mono (by decide)) gd (da_cons (dv 0) (da_cons dint da_nil)))) da_nil))) (da_cons (de_tup (da_cons (de_ix o_ix (dv 1) (dv 6)) (da_cons (de_ix o_ix dstr (de_call (ok_law_draw T) (hr.mono (by decide)) gd (da_cons (dv 0) (da_cons dint da_nil)))) da_nil))) da_nil)))
      (ds_cons (ds_set (i := 9) S.nd (de_call (ok_law_one T) (hr.mono (by decide)) gd (da_cons (dv 0) (da_cons (de_lst (da_cons dstr (da_cons dstr (da_cons dstr (da_cons dstr (da_cons dstr (da_cons dstr (da_cons dstr da_nil)))))))) da_nil))))
      (ds_cons (ds_set (i := 10) S.nd (de_if (dt_cmp o_in (dv 9) (de_lst (da_cons dstr (da_cons dstr da_nil)))) (de_tup (da_cons (dv 9) (da_cons (de_ix o_ix (dv 1) (dv 5)) (da_cons (de_ix o_ix (dv 1) (dv 6)) da_nil)))) (de_tup (da_cons (dv 9) (da_cons (dv 7) (da_cons (dv 8) da_nil))))))
      (ds_cons (ds_set (i := 10) S.nd (de_if (PW.pt (dw_or (dt_cmp (o_eq hr) (dv 9) dstr) (dw_or1 (dt_cmp (o_eq hr) (dv 5) (dv 6))))) (de_tup (da_cons dstr (da_cons (dv 7) da_nil))) (dv 10)))
      (ds_one (ds_if (PW.pt (dw_or (dt_cmp (o_eq hr) (dv 3) dint) (dw_or1 (dt_val (de_call (ok_law_keeps T) (hr.mono (by decide)) gd (da_cons (dv 1) (da_cons (dv 10) (da_cons (dv 2) da_nil))))))))
      (ds_one (ds_ret (dv 10)))
      ds_nil))))))))
      (ds_one (ds_ret (de_tup (da_cons dstr (da_cons (de_tup (da_cons (de_ix o_ix (dv 1) dint) (da_cons (de_ix o_ix (dv 2) dint) da_nil))) da_nil)))))), ?_⟩
  rintro ds M post ⟨j, ss, t, o, rfl, hj, hne, hl, nd, tl, h⟩
  have lp := List.length_pos_iff.mpr hne
  (try walk_at "law_rule")
  rw [rng_eq]
  refine for_map (List.range 30) rngE (fun i Γ' M' => (∃ x1 x2 x3 x4 x5 x6 x7, Γ' = [some (.ptr j), some (strsF ss), some (setD t), some (.int o), x1, x2, x3, x4, x5, x6, x7]) ∧ Jm j M M') ⟨⟨_, _, _, _, _, _, _, rfl⟩, .refl hj⟩ (fun _ _ _ _ => trivial) ?_ ?_
  · rintro i k hk Γ' M' ⟨⟨x1, x2, x3, x4, x5, x6, x7, rfl⟩, j0⟩
    (try walk_at "law_rule")
    refine ⟨j0.jg, by omega, by omega, ?_⟩
    intro v hv M1 j1
    refine ⟨j1.jg, by omega, by omega, ?_⟩
    intro u hu M2 j2
    rw [atI_map (l := ss) (f := D.str) (("" : Str)) (by omega)]
    refine ⟨j2.jg, ?_⟩
    intro s1 hs1 M3 j3
    rw [at_pm (by omega), ← sg_eq]
    rw [atI_map (l := ss) (f := D.str) (("" : Str)) (by omega)]
    refine ⟨j3.jg, ?_⟩
    intro s2 hs2 M4 j4
    rw [at_pm (by omega), ← sg_eq]
    refine ⟨j4.jg, by simp, ?_⟩
    intro w hw M5 j5
    have J := j0.trans (j1.trans (j2.trans (j3.trans (j4.trans j5))))
    have m1 := getD_mem (l := ss) (i := v) (("" : Str)) (by omega)
    have m2 := getD_mem (l := ss) (i := u) (("" : Str)) (by omega)
    generalize decide (s1 = 0) = b1
    generalize decide (s2 = 0) = b2
    have fin : ∀ (r : Rule) (N : Mem → Prop), ruleOk ss r = true → N M5 → (if decide (o = 1) = true then post (ruleD r) M5 else sp_law_keeps [strsF ss, ruleD r, setD t] M5 fun d M1 => isB d fun b => if b = true then post (ruleD r) M1 else N M1) := fun r N hr2 hN => by
      by_cases ho : o = 1
      · rw [if_pos (by simp [ho])]; exact h r hr2 (fun z => absurd ho z) M5 J
      · rw [if_neg (by simp [ho]), cl_law_keeps]
        refine ⟨hr2, tl, ?_⟩
        rw [isB_bl]
        by_cases hk : keepsR ss t r = true
        · rw [if_pos hk]; exact h r hr2 (fun _ => hk) M5 J
        · rw [if_neg hk]; exact hN
    have kb : ruleOk ss (.be ⟨ss.getD v "", b1⟩) = true := by simp only [ruleOk, litOk]; exact decide_eq_true m1
    simp only [List.mem_cons, List.not_mem_nil, or_false] at hw
    by_cases e : v = u
    · subst e
      rcases hw with rfl | rfl | rfl | rfl | rfl | rfl | rfl
      all_goals
        (try walk_at "law_rule")
        try simp only [atI_map (l := ss) (f := D.str) (("" : Str)) (show v < ss.length by omega)]
        (try walk_at "law_rule")
        exact fin (.be ⟨ss.getD v "", b1⟩) _ kb ⟨⟨_, _, _, _, _, _, _, rfl⟩, J⟩
    · have ne : ¬ ss.getD v "" = ss.getD u "" := fun z => e (getD_inj nd _ (by omega) (by omega) z)
      have ne2 : ¬ ((v : Int) = (u : Int)) := by omega
      have k1 : (decide (ss.getD v "" ∈ ss) && decide (ss.getD u "" ∈ ss) && !decide (ss.getD v "" = ss.getD u "")) = true := by
        rw [decide_eq_true m1, decide_eq_true m2, decide_eq_false ne]; rfl
      rcases hw with rfl | rfl | rfl | rfl | rfl | rfl | rfl
      all_goals
        (try walk_at "law_rule")
        try simp only [atI_map (l := ss) (f := D.str) (("" : Str)) (show v < ss.length by omega), atI_map (l := ss) (f := D.str) (("" : Str)) (show u < ss.length by omega)]
        try simp only [ne2, decide_false, Bool.false_eq_true, if_false]
        (try walk_at "law_rule")
      · exact fin (.either ⟨ss.getD v "", b1⟩ ⟨ss.getD u "", b2⟩) _ k1 ⟨⟨_, _, _, _, _, _, _, rfl⟩, J⟩
      · exact fin (.needs ⟨ss.getD v "", b1⟩ ⟨ss.getD u "", b2⟩) _ k1 ⟨⟨_, _, _, _, _, _, _, rfl⟩, J⟩
      · exact fin (.needs ⟨ss.getD v "", b1⟩ ⟨ss.getD u "", b2⟩) _ k1 ⟨⟨_, _, _, _, _, _, _, rfl⟩, J⟩
      · exact fin (.bars ⟨ss.getD v "", b1⟩ ⟨ss.getD u "", b2⟩) _ k1 ⟨⟨_, _, _, _, _, _, _, rfl⟩, J⟩
      · exact fin (.same false (ss.getD v "") (ss.getD u "")) _ k1 ⟨⟨_, _, _, _, _, _, _, rfl⟩, J⟩
      · exact fin (.unlike false (ss.getD v "") (ss.getD u "")) _ k1 ⟨⟨_, _, _, _, _, _, _, rfl⟩, J⟩
      · exact fin (.be ⟨ss.getD v "", b1⟩) _ kb ⟨⟨_, _, _, _, _, _, _, rfl⟩, J⟩
  · rintro Γ' M' ⟨⟨x1, x2, x3, x4, x5, x6, x7, rfl⟩, j1⟩
    obtain ⟨s0, ss', rfl⟩ := List.exists_cons_of_ne_nil hne
    obtain ⟨b0, t', rfl⟩ : ∃ b0 t', t = b0 :: t' := List.exists_cons_of_ne_nil (fun z => by rw [z] at tl; simp at tl)
    have e0 : ∀ post', gIx M' (setD (b0 :: t')) (.int 0) post' = post' (.str (sg b0)) M' := fun _ => ix_set (i := 0) rfl
    have e1 : ∀ post', gIx M' (strsF (s0 :: ss')) (.int 0) post' = post' (.str s0) M' := fun _ => by rw [ix_ftp, List.map_cons, atI0, got_so]
    (try walk_at "law_rule")
    simp only [e0, e1]
    (try walk_at "law_rule")
    rw [List.map_cons, atI0, got_so]
    exact h (.be ⟨s0, b0⟩) (by simp [ruleOk, litOk]) (fun _ => by simp [keepsR, clauses, keepsC, hasL, val]) M' j1
theorem ok_law_rule (T : Tx P w K mg base) : Pub P w K mg base 3 "_law_rule" ["_law_bag_here", "_law_names_here", "_law_base", "_law_off"] sp_law_rule := (fn_law_rule T).pub fun _ _ _ _ _ _ us hl => match us, hl with | [_, _, _, _], _ => rfl
theorem sc_law_panel : FnScope ["_law_bag_here", "_law_wide", "_law_most", "_law_names_here", "_law_base", "_law_name", "_law_found", "_law_k"] ["_law_bag_here", "_law_wide", "_law_most"] (defScope (top 68)) := ⟨rfl, rfl, rfl, by decide +kernel, rfl, by decide +kernel, by decide +kernel⟩
def sp_law_panel : DSp := fun ds M post => ∃ (j : Addr) (m b : Int), ds = [.ptr j, .int m, .int b] ∧ (Jg M j ∧ 0 < m ∧ m ≤ 10 ∧ 0 ≤ b ∧ b ≤ 239 ∧ ∀ (p : Pan) (t : List Bool), (p.ss.length : Int) ≤ m → (p.rs.length : Int) ≤ b + 1 → t.length = p.ss.length → ∀ M', Jm j M M' → post (.lst [strsF p.ss, .ftp (p.rs.map ruleD), setD t]) M')
theorem cl_law_panel {j : Addr} {m b : Int} {M : Mem} {post : WK} : sp_law_panel [.ptr j, .int m, .int b] M post = (Jg M j ∧ 0 < m ∧ m ≤ 10 ∧ 0 ≤ b ∧ b ≤ 239 ∧ ∀ (p : Pan) (t : List Bool), (p.ss.length : Int) ≤ m → (p.rs.length : Int) ≤ b + 1 → t.length = p.ss.length → ∀ M', Jm j M M' → post (.lst [strsF p.ss, .ftp (p.rs.map ruleD), setD t]) M') := by
  simp [-Bool.exists_bool, sp_law_panel, tp_inj, litD_inj, strs_inj, ruleD_inj, clD_inj, setD_inj, rules_inj, lits_inj, sets_inj, ints_inj, panF_inj, rngs_inj, rngE_inj, sg_inj, and_assoc, Int.natCast_inj]
local macro_rules | `(tactic| walk_at "law_panel") => `(tactic| simp only [↓cl_law_draw, cl_law_draw, ↓cl_law_names, cl_law_names, ↓cl_law_rule, cl_law_rule, ↓FD.sSeq_e, ↓FD.sRet_e, ↓FD.sIf_e, ↓FD.sAsg_e, ↓FD.gSet_e, ↓FD.sDrop_e, ↓FD.sNext_e, ↓FD.sPar_e, ↓FD.sPar3_e, ↓FD.wIf_e, ↓FD.wOp_e, ↓FD.wUn_e, ↓FD.wVar_e, ↓FD.wC_e, ↓FD.wTst_e, ↓FD.wAnd_e, ↓FD.wOr_e, ↓FD.wNot_e, ↓FD.wAndV_e, ↓FD.wOrV_e, ↓FD.wNotV_e, ↓FD.wChain_e, ↓FD.aNil_e, ↓FD.aCons_e, ↓FD.wTup_e, ↓FD.wLst_e, ↓FD.wFtp_e, ↓FD.wNew_e, ↓FD.wCall_e, ↓FD.wB_e, ↓FD.wSl_e, ↓FD.oSome_e, ↓FD.oNone_e, ↓FD.wIsi_e, ↓FD.wIsiC_e, ↓FD.p1_e, ↓FD.p2_e, ↓FD.gLen_e, ↓FD.iLst_e, ↓FD.iTup_e, ↓FD.iStrD_e, ↓FD.iEnT_e, ↓FD.iEnL_e, ↓FD.iRng_e, ↓FD.iRng2_e, ↓FD.gTup_e, ↓FD.gsNil_e, ↓FD.gsCons_e, ↓FD.wM_e, ↓FD.wIxT_e, ↓FD.wFld_e, ↓FD.wMeth_e, ↓FD.wMake_e, ↓FD.sFldD_e, ↓FD.wDGet_e, ↓FD.sDput_e, ↓FD.wDNewK_e, ↓FD.wDNewT_e, ↓FD.wDisp1_e, ↓FD.wIce_e, ↓FD.gSub_e, ↓FD.wCallK_e, ↓FD.t1_e, ↓FD.t2_e, ↓FD.t1w_e, ↓FD.tYesD_e, ↓FD.gDIn_e, ↓FD.gDNin_e, ↓FD.gIndexT_e, ↓FD.gIndex_e, ↓FD.gAbs_e, ↓FD.gMax_e, ↓FD.gMin_e, ↓FD.gDivmod_e, ↓FD.wFz_e, ↓FD.wDGetD_e, ↓FD.t3_e, ↓FD.iZip3D_e, ↓sFor_eq, ↓wLc_eq, ↓wLc2_eq, ↓wDc_eq, ↓look_zero, ↓look_succ, ↓got_so, ↓isB_bl, ↓isI_int, ↓isS_str, ↓isT_tup, ↓isT_ftp, ↓isT_ktp, ↓isT_tp, ↓one_one, ↓two_two, ↓startD_cc, ↓startD_cn, ↓startD_nn, ↓FD.ix_str, ↓FD.ix_tup, ↓ix_ftp, ↓ix_ktp, ↓ix_lst, ↓ix_scr, ↓ix_tp, ↓atI0, ↓atI1, ↓atI2, ↓atI3, ↓FD.eq_str, ↓FD.ne_str, ↓FD.eq_int, ↓FD.ne_int, ↓FD.add_int, ↓FD.sub_int, ↓FD.lt_int, ↓FD.le_int, ↓FD.gt_int, ↓FD.ge_int, ↓FD.add_str, ↓FD.add_lst, ↓FD.add_tup, ↓FD.mul_int, ↓FD.mod_int, ↓FD.fdiv_int, ↓FD.pow_int, ↓isN_non, ↓notN_non, ↓FD.len_str, ↓len_tup, ↓len_ftp, ↓len_ktp, ↓len_lst, ↓len_scr, ↓len_tp, ↓seq_tup, ↓seq_ftp, ↓seq_ktp, ↓seq_lst, ↓seq_scr, ↓seq_tp, ↓in_tup, ↓in_ftp, ↓in_ktp, ↓in_lst, ↓nin_tup, ↓nin_ftp, ↓nin_ktp, ↓nin_lst, ↓FD.in_str, ↓nin_str, ↓isC_one, ↓asL_lst, ↓asL_scr, ↓if_tt, ↓if_ff, ↓isi_ss, ↓isi_tt, ↓isi_st, ↓isi_ts, ↓ty_str, ↓ty_tup, ↓ty_ftp, ↓ty_tp, ↓all_lst, ↓any_lst, ↓flat_s, ↓flat_set, ↓tuple_lst, ↓FD.int_int, ↓eq_ftp_nil, ↓ne_ftp_nil, ↓isNon_non, ↓isNon_int, ↓isNon_str, ↓isNon_ptr, ↓isNon_tup, ↓isNon_ftp, ↓inL_strs, ↓flatSs, ↓inL_sets, ↓flatSets, ↓FM.tw, ↓FM.tw3, ↓FM.sl_str, ↓sl_set, ↓cell_upd, ↓lk_sw, ↓lk_ru, ↓lk_st, ↓lk_place, ↓lk_has, ↓lk_keeps, ↓lk_wrongs, ↓lk_goods, ↓lk_ways_from, ↓lk_text, ↓ins_pan, ↓FD.fit_le, ↓cx_K, ↓nox_K, ↓blk_K, ↓bx_K, ↓c1, ↓c2, ↓c3, ↓c4, ↓inL_cons, ↓inL_nil, ↓all_bools, ↓any_bools, ↓in_tp, ↓nin_tp, ↓FM.sl_ftp, ↓FM.sl_tup, ↓FM.sl_lst, ↓FM.sl_scr, ↓index_eq, ↓ex_ftp, ↓eqd_str, ↓wf_at, ↓isT_cl, ↓isT_st, ↓isT_lit, ↓ix_lit0, ↓ix_lit1, ↓len_lit, ↓ty_lit, ↓eq_lit, ↓ne_lit, ↓eq_set, ↓ne_set, ↓len_set, ↓ty_set, ↓isS_set, ↓isC_sg, ↓sNever_e, ↓enumD_map, ↓dpAll_strs, ↓dpAll_mapI, ↓ne_lst_nil, ↓eq_lst_nil, ↓isT_grp, ↓len_grp, ↓isDc_wf, ↓wn_at, ↓isT_way, ↓len_way, ↓ty_way, ↓ty_st, ↓len_st, ↓ix_st0, ↓ix_st1, ↓inD_lits, ↓ninD_lits, ↓dpAll_sets, ↓three_three, ↓zip3_sets, ↓isT_z3, ↓inL_lock, ↓ninT_lits, ↓FM.tp_t, ↓FM.tp_f, ↓ixN30, ↓ixN31, ↓ixN32, ↓ix_upd, ↓FM.eq_bl, ↓FM.ne_bl, ↓FM.sl_tp, ↓lstOf_lst, ↓okL_lst, ↓gMulS_eq, ↓add_sets, ↓add_setb, ↓add_setp, ↓add_setm, ↓rngE_e, ↓ix_rule0, ↓repr_bb, ↓isB_isD, ↓isB_notD, ↓wLcN_eq, ↓optW_some, ↓optW_none, ↓isNon_way, ↓ne_way0, ↓mulL2, ↓add_rules, ↓add_rulesT, ↓add_rulesF, ↓ne_ftp_sets, ↓ne_ftp_lits, ↓ne_ftp_strs, Option.isSome_some, Option.isSome_none, Option.isNone_some, Option.isNone_none, Option.map_some, Option.map_none, isNon_optW, pick_nil, pick_cons, List.getElem?_cons_zero, List.getElem?_cons_succ, List.nil_append, List.append_nil, List.cons_append, Bool.decide_eq_true, Bool.decide_eq_false, Int.reduceAbs, Int.reduceToNat, Int.reducePow, true_or, or_true, Mem.upd_upd, rng_int, Bool.not_true, Bool.not_false, Bool.false_eq_true, if_false, if_true, true_and, and_true, List.set_cons_zero, List.set_cons_succ, List.length_cons, List.length_nil, List.length_map, eq_self, decide_true, decide_false, Bool.true_eq_false, or_self, Bool.or_self, List.all_cons, List.all_nil, Bool.and_true, Bool.true_and, Bool.or_false, Bool.false_or, Bool.or_true, Bool.true_or, Bool.and_false, Bool.false_and, Int.reduceLT, Int.reduceLE, Int.reduceEq, Nat.reduceLeDiff, Nat.reduceAdd, Nat.reduceLT, wf_some, wn_some, fold_lit, fold_litp, fold_litm, sg_iff, sg_in_pm, isNon_opt, isEmpty_map, ↓reduceIte, nq_0_1, nq_0_2, nq_0_3, nq_0_4, nq_0_5, nq_0_6, nq_0_7, nq_1_0, nq_1_2, nq_1_3, nq_1_4, nq_1_5, nq_1_6, nq_1_7, nq_2_0, nq_2_1, nq_2_3, nq_2_4, nq_2_5, nq_2_6, nq_2_7, nq_3_0, nq_3_1, nq_3_2, nq_3_4, nq_3_5, nq_3_6, nq_3_7, nq_4_0, nq_4_1, nq_4_2, nq_4_3, nq_4_5, nq_4_6, nq_4_7, nq_5_0, nq_5_1, nq_5_2, nq_5_3, nq_5_4, nq_5_6, nq_5_7, nq_6_0, nq_6_1, nq_6_2, nq_6_3, nq_6_4, nq_6_5, nq_6_7, nq_7_0, nq_7_1, nq_7_2, nq_7_3, nq_7_4, nq_7_5, nq_7_6])
theorem fn_law_panel (T : Tx P w K mg base) : Fng P w K mg base 4 "_law_panel" (top 68) ["_law_bag_here", "_law_wide", "_law_most"] sp_law_panel := by
  have S := sc_law_panel
  refine fng_of T.d_law_panel T.g_law_panel S (fun ds M post h => by unfold sp_law_panel at h; grind) fun f cdv A outer s H gd hr => ⟨_, (ds_cons (ds_set (i := 3) S.nd (de_call (ok_law_names T) (hr.mono (by decide)) gd (da_cons (dv 0) (da_cons (de_op o_add dint (de_call (ok_law_draw T) (hr.mono (by decide)) gd (da_cons (dv 0) (da_cons (dv 1) da_nil)))) da_nil))))
      (ds_cons (ds_set (i := 4) S.nd (de_ms PySem.F.slot_str_join PySem.F.type_str_join m_join dstr (da_cons (de_lc (own := [("_law_name", 5)]) rfl S.nd (di_tup (dv 3)) (blkOk_by (N := ["_law_bag_here", "_law_wide", "_law_most", "_law_names_here", "_law_base", "_law_name", "_law_found", "_law_k"]) (sc := defScope (top 68)) (by decide +kernel)) tgt1 (fun _ _ _ _ _ => pg_name (i := 5) S.nd rfl (Or.inl rfl)) (fun _ _ _ _ _ => dts_nil) (fun _ _ _ _ _ => (de_ix o_ix dstr (de_call (ok_law_draw T) (hr.mono (by decide)) gd (da_cons (dv 0) (da_cons dint da_nil)))))) da_nil)))
      (ds_cons (ds_setLcN (i := 6) (own := [("_law_k", 7)]) rfl S.nd (di_range T.m_range (da_cons (de_call (ok_law_draw T) (hr.mono (by decide)) gd (da_cons (dv 0) (da_cons (de_op o_add (dv 2) dint) da_nil))) da_nil)) (blkOk_by (N := ["_law_bag_here", "_law_wide", "_law_most", "_law_names_here", "_law_base", "_law_name", "_law_found", "_law_k"]) (sc := defScope (top 68)) (by decide +kernel)) tgt1 (fun _ _ _ _ _ => pg_name (i := 7) S.nd rfl (Or.inl rfl)) (fun _ _ _ _ _ => dts_nil) (fun _ _ _ _ _ => (de_call (ok_law_rule T) (hr.mono (by decide)) gd (da_cons (dv 0) (da_cons (dv 3) (da_cons (dv 4) (da_cons dint da_nil)))))) (sw_true rfl rfl rfl (by decide +kernel)))
      (ds_cons (ds_if (dt_cmp (o_eq hr) (de_call (ok_law_draw T) (hr.mono (by decide)) gd (da_cons (dv 0) (da_cons dint da_nil))) dint)
      (ds_one (ds_expr (de_ml PySem.F.slot_list_append PySem.F.type_list_append m_append (dv 6) (da_cons (de_call (ok_law_rule T) (hr.mono (by decide)) gd (da_cons (dv 0) (da_cons (dv 3) (da_cons (dv 4) (da_cons dint da_nil))))) da_nil))))
      ds_nil)
      (ds_one (ds_ret (de_fz (de_lst (da_cons (dv 3) (da_cons (de_ty c_tuple T.m_tuple (by decide +kernel) (da_cons (dv 6) da_nil)) (da_cons (dv 4) da_nil))))))))))), ?_⟩
  rintro ds M post ⟨j, m, b, rfl, hj, hm, hm2, hb0, hb, h⟩
  (try walk_at "law_panel")
  refine ⟨hj, by omega, by omega, ?_⟩
  intro v hv M1 j1
  have e1 : (1 + (v : Int)) = ((1 + v : Nat) : Int) := by push_cast; rfl
  rw [e1]
  (try walk_at "law_panel")
  refine ⟨j1.jg, by omega, ?_⟩
  intro ss sl nd nok M2 j2
  have hne : ss ≠ [] := fun z => by rw [z] at sl; simp at sl; omega
  refine ⟨⟨_, rfl⟩, ?_⟩
  refine lc_draw ss D.str (fun acc M' => ∃ ts : List Bool, acc = ts.map (fun b => D.str (sg b)) ∧ Jm j M2 M') ⟨[], rfl, .refl j2.jg⟩ (fun _ _ _ => trivial) ?_ ?_
  · rintro s hs acc M3 hl ⟨ts, rfl, j3⟩ yes hy
    (try walk_at "law_panel")
    refine ⟨j3.jg, ?_⟩
    intro u hu M4 j4
    rw [at_pm (by omega), ← sg_eq]
    exact hy _ _ ⟨ts ++ [decide (u = 0)], by simp, j3.trans j4⟩
  · rintro acc M3 hl ⟨ts, rfl, j3⟩
    rw [List.length_map] at hl
    rw [jn_signs (by omega)]
    (try walk_at "law_panel")
    refine ⟨j3.jg, by omega, by omega, ?_⟩
    intro d hd M4 j4
    refine ⟨by omega, by omega, ?_⟩
    refine lc_draw (List.range d) rngE (fun acc M' => ∃ rs : List Rule, acc = rs.map ruleD ∧ InS ss rs ∧ Jm j M3 M') ⟨[], rfl, fun r hr => (by cases hr), j4⟩ (fun _ _ _ => trivial) ?_ ?_
    · rintro k hk acc M5 hl2 ⟨rs, rfl, hin, j5⟩ yes hy
      (try walk_at "law_panel")
      refine ⟨j5.jg, hne, by omega, nd, by omega, ?_⟩
      intro r hr2 _ M6 j6
      exact hy _ _ ⟨rs ++ [r], by simp, hin.app (fun r' h' => by rw [List.mem_singleton.mp h']; exact hr2), j5.trans j6⟩
    · rintro acc M5 hl2 ⟨rs, rfl, hin, j5⟩
      rw [List.length_map, List.length_range] at hl2
      have J := j1.trans (j2.trans (j3.trans j5))
      have sw : swOk ss := ⟨hne, by omega, nd, nok⟩
      refine ⟨_, rfl, ?_⟩
      intro p hp
      have hpM := J.none hp
      have ne := hj.ne hpM
      have pj : PJ j p (.lst (rs.map ruleD)) M (M5.upd p (.lst (rs.map ruleD))) := PJ.new J
      refine ⟨pj.jg ne, ?_⟩
      intro c hc M6 j6
      have pj2 := pj.step ne j6
      have fin : ∀ (rs' : List Rule) (M7 : Mem), InS ss rs' → (rs'.length : Int) ≤ b + 1 → PJ j p (.lst (rs'.map ruleD)) M M7 → gTuple M7 [.ptr p] fun d M1 => ∃ d' M2, M2.le M1 ∧ Fz M1 M2 (.lst [strsF ss, d, setD ts]) d' ∧ post d' M2 := fun rs' M7 hi hb2 pj3 => by
        rw [tuple_cell pj3.cell]
        obtain ⟨M8, le, jm, _⟩ := pj3.out ne hpM
        exact ⟨_, M8, le, .same _, h ⟨ss, rs', sw, hi, by omega⟩ ts (by show (ss.length : Int) ≤ m; omega) hb2 hl M8 jm⟩
      by_cases hc0 : c = 0
      · rw [if_pos (by simp [hc0])]
        refine ⟨okL_cell pj2.cell, pj2.jg ne, hne, by omega, nd, hl, ?_⟩
        intro r hr2 _ M7 j7
        have pj3 := pj2.step ne j7
        rw [append_eq pj3.cell]
        refine ⟨by rw [List.length_map]; omega, ?_⟩
        have e2 : rs.map ruleD ++ [ruleD r] = (rs ++ [r]).map ruleD := by simp
        rw [e2]
        exact fin (rs ++ [r]) _ (hin.app fun r' h' => by rw [List.mem_singleton.mp h']; exact hr2) (by rw [List.length_append]; simp; omega) pj3.set
      · rw [if_neg (by simp; omega)]
        exact fin rs M6 hin (by omega) pj2
theorem ok_law_panel (T : Tx P w K mg base) : Pub P w K mg base 4 "_law_panel" ["_law_bag_here", "_law_wide", "_law_most"] sp_law_panel := (fn_law_panel T).pub fun _ _ _ _ _ _ us hl => match us, hl with | [_, _, _], _ => rfl
theorem sc_law_literals : FnScope ["_law_names_here", "_law_found", "_law_name"] ["_law_names_here"] (defScope (top 72)) := ⟨rfl, rfl, rfl, by decide +kernel, rfl, by decide +kernel, by decide +kernel⟩
def sp_law_literals : DSp := fun ds M post => ∃ ss : List Str, ds = [strsF ss] ∧ (ss.length ≤ 1000 ∧ post (.lst ((lits ss).map litD)) M)
theorem cl_law_literals {ss : List Str} {M : Mem} {post : WK} : sp_law_literals [strsF ss] M post = (ss.length ≤ 1000 ∧ post (.lst ((lits ss).map litD)) M) := by
  simp [-Bool.exists_bool, sp_law_literals, tp_inj, litD_inj, strs_inj, ruleD_inj, clD_inj, setD_inj, rules_inj, lits_inj, sets_inj, ints_inj, panF_inj, rngs_inj, rngE_inj, sg_inj, and_assoc, Int.natCast_inj]
local macro_rules | `(tactic| walk_at "law_literals") => `(tactic| simp only [↓FD.sSeq_e, ↓FD.sRet_e, ↓FD.sIf_e, ↓FD.sAsg_e, ↓FD.gSet_e, ↓FD.sDrop_e, ↓FD.sNext_e, ↓FD.sPar_e, ↓FD.sPar3_e, ↓FD.wIf_e, ↓FD.wOp_e, ↓FD.wUn_e, ↓FD.wVar_e, ↓FD.wC_e, ↓FD.wTst_e, ↓FD.wAnd_e, ↓FD.wOr_e, ↓FD.wNot_e, ↓FD.wAndV_e, ↓FD.wOrV_e, ↓FD.wNotV_e, ↓FD.wChain_e, ↓FD.aNil_e, ↓FD.aCons_e, ↓FD.wTup_e, ↓FD.wLst_e, ↓FD.wFtp_e, ↓FD.wNew_e, ↓FD.wCall_e, ↓FD.wB_e, ↓FD.wSl_e, ↓FD.oSome_e, ↓FD.oNone_e, ↓FD.wIsi_e, ↓FD.wIsiC_e, ↓FD.p1_e, ↓FD.p2_e, ↓FD.gLen_e, ↓FD.iLst_e, ↓FD.iTup_e, ↓FD.iStrD_e, ↓FD.iEnT_e, ↓FD.iEnL_e, ↓FD.iRng_e, ↓FD.iRng2_e, ↓FD.gTup_e, ↓FD.gsNil_e, ↓FD.gsCons_e, ↓FD.wM_e, ↓FD.wIxT_e, ↓FD.wFld_e, ↓FD.wMeth_e, ↓FD.wMake_e, ↓FD.sFldD_e, ↓FD.wDGet_e, ↓FD.sDput_e, ↓FD.wDNewK_e, ↓FD.wDNewT_e, ↓FD.wDisp1_e, ↓FD.wIce_e, ↓FD.gSub_e, ↓FD.wCallK_e, ↓FD.t1_e, ↓FD.t2_e, ↓FD.t1w_e, ↓FD.tYesD_e, ↓FD.gDIn_e, ↓FD.gDNin_e, ↓FD.gIndexT_e, ↓FD.gIndex_e, ↓FD.gAbs_e, ↓FD.gMax_e, ↓FD.gMin_e, ↓FD.gDivmod_e, ↓FD.wFz_e, ↓FD.wDGetD_e, ↓FD.t3_e, ↓FD.iZip3D_e, ↓sFor_eq, ↓wLc_eq, ↓wLc2_eq, ↓wDc_eq, ↓look_zero, ↓look_succ, ↓got_so, ↓isB_bl, ↓isI_int, ↓isS_str, ↓isT_tup, ↓isT_ftp, ↓isT_ktp, ↓isT_tp, ↓one_one, ↓two_two, ↓startD_cc, ↓startD_cn, ↓startD_nn, ↓FD.ix_str, ↓FD.ix_tup, ↓ix_ftp, ↓ix_ktp, ↓ix_lst, ↓ix_scr, ↓ix_tp, ↓atI0, ↓atI1, ↓atI2, ↓atI3, ↓FD.eq_str, ↓FD.ne_str, ↓FD.eq_int, ↓FD.ne_int, ↓FD.add_int, ↓FD.sub_int, ↓FD.lt_int, ↓FD.le_int, ↓FD.gt_int, ↓FD.ge_int, ↓FD.add_str, ↓FD.add_lst, ↓FD.add_tup, ↓FD.mul_int, ↓FD.mod_int, ↓FD.fdiv_int, ↓FD.pow_int, ↓isN_non, ↓notN_non, ↓FD.len_str, ↓len_tup, ↓len_ftp, ↓len_ktp, ↓len_lst, ↓len_scr, ↓len_tp, ↓seq_tup, ↓seq_ftp, ↓seq_ktp, ↓seq_lst, ↓seq_scr, ↓seq_tp, ↓in_tup, ↓in_ftp, ↓in_ktp, ↓in_lst, ↓nin_tup, ↓nin_ftp, ↓nin_ktp, ↓nin_lst, ↓FD.in_str, ↓nin_str, ↓isC_one, ↓asL_lst, ↓asL_scr, ↓if_tt, ↓if_ff, ↓isi_ss, ↓isi_tt, ↓isi_st, ↓isi_ts, ↓ty_str, ↓ty_tup, ↓ty_ftp, ↓ty_tp, ↓all_lst, ↓any_lst, ↓flat_s, ↓flat_set, ↓tuple_lst, ↓FD.int_int, ↓eq_ftp_nil, ↓ne_ftp_nil, ↓isNon_non, ↓isNon_int, ↓isNon_str, ↓isNon_ptr, ↓isNon_tup, ↓isNon_ftp, ↓inL_strs, ↓flatSs, ↓inL_sets, ↓flatSets, ↓FM.tw, ↓FM.tw3, ↓FM.sl_str, ↓sl_set, ↓cell_upd, ↓lk_sw, ↓lk_ru, ↓lk_st, ↓lk_place, ↓lk_has, ↓lk_keeps, ↓lk_wrongs, ↓lk_goods, ↓lk_ways_from, ↓lk_text, ↓ins_pan, ↓FD.fit_le, ↓cx_K, ↓nox_K, ↓blk_K, ↓bx_K, ↓c1, ↓c2, ↓c3, ↓c4, ↓inL_cons, ↓inL_nil, ↓all_bools, ↓any_bools, ↓in_tp, ↓nin_tp, ↓FM.sl_ftp, ↓FM.sl_tup, ↓FM.sl_lst, ↓FM.sl_scr, ↓index_eq, ↓ex_ftp, ↓eqd_str, ↓wf_at, ↓isT_cl, ↓isT_st, ↓isT_lit, ↓ix_lit0, ↓ix_lit1, ↓len_lit, ↓ty_lit, ↓eq_lit, ↓ne_lit, ↓eq_set, ↓ne_set, ↓len_set, ↓ty_set, ↓isS_set, ↓isC_sg, ↓sNever_e, ↓enumD_map, ↓dpAll_strs, ↓dpAll_mapI, ↓ne_lst_nil, ↓eq_lst_nil, ↓isT_grp, ↓len_grp, ↓isDc_wf, ↓wn_at, ↓isT_way, ↓len_way, ↓ty_way, ↓ty_st, ↓len_st, ↓ix_st0, ↓ix_st1, ↓inD_lits, ↓ninD_lits, ↓dpAll_sets, ↓three_three, ↓zip3_sets, ↓isT_z3, ↓inL_lock, ↓ninT_lits, ↓FM.tp_t, ↓FM.tp_f, ↓ixN30, ↓ixN31, ↓ixN32, ↓ix_upd, ↓FM.eq_bl, ↓FM.ne_bl, ↓FM.sl_tp, ↓lstOf_lst, ↓okL_lst, ↓gMulS_eq, ↓add_sets, ↓add_setb, ↓add_setp, ↓add_setm, ↓rngE_e, ↓ix_rule0, ↓repr_bb, ↓isB_isD, ↓isB_notD, ↓wLcN_eq, ↓optW_some, ↓optW_none, ↓isNon_way, ↓ne_way0, ↓mulL2, ↓add_rules, ↓add_rulesT, ↓add_rulesF, ↓ne_ftp_sets, ↓ne_ftp_lits, ↓ne_ftp_strs, Option.isSome_some, Option.isSome_none, Option.isNone_some, Option.isNone_none, Option.map_some, Option.map_none, isNon_optW, pick_nil, pick_cons, List.getElem?_cons_zero, List.getElem?_cons_succ, List.nil_append, List.append_nil, List.cons_append, Bool.decide_eq_true, Bool.decide_eq_false, Int.reduceAbs, Int.reduceToNat, Int.reducePow, true_or, or_true, Mem.upd_upd, rng_int, Bool.not_true, Bool.not_false, Bool.false_eq_true, if_false, if_true, true_and, and_true, List.set_cons_zero, List.set_cons_succ, List.length_cons, List.length_nil, List.length_map, eq_self, decide_true, decide_false, Bool.true_eq_false, or_self, Bool.or_self, List.all_cons, List.all_nil, Bool.and_true, Bool.true_and, Bool.or_false, Bool.false_or, Bool.or_true, Bool.true_or, Bool.and_false, Bool.false_and, Int.reduceLT, Int.reduceLE, Int.reduceEq, Nat.reduceLeDiff, Nat.reduceAdd, Nat.reduceLT, wf_some, wn_some, fold_lit, fold_litp, fold_litm, sg_iff, sg_in_pm, isNon_opt, isEmpty_map, ↓reduceIte, nq_0_1, nq_0_2, nq_0_3, nq_0_4, nq_0_5, nq_0_6, nq_0_7, nq_1_0, nq_1_2, nq_1_3, nq_1_4, nq_1_5, nq_1_6, nq_1_7, nq_2_0, nq_2_1, nq_2_3, nq_2_4, nq_2_5, nq_2_6, nq_2_7, nq_3_0, nq_3_1, nq_3_2, nq_3_4, nq_3_5, nq_3_6, nq_3_7, nq_4_0, nq_4_1, nq_4_2, nq_4_3, nq_4_5, nq_4_6, nq_4_7, nq_5_0, nq_5_1, nq_5_2, nq_5_3, nq_5_4, nq_5_6, nq_5_7, nq_6_0, nq_6_1, nq_6_2, nq_6_3, nq_6_4, nq_6_5, nq_6_7, nq_7_0, nq_7_1, nq_7_2, nq_7_3, nq_7_4, nq_7_5, nq_7_6])
theorem fn_law_literals (T : Tx P w K mg base) : Fng P w K mg base 1 "_law_literals" (top 72) ["_law_names_here"] sp_law_literals := by
  have S := sc_law_literals
  refine fng_of T.d_law_literals T.g_law_literals S (fun ds M post h => by unfold sp_law_literals at h; grind) fun f cdv A outer s H gd hr => ⟨_, (ds_cons (ds_set (i := 1) S.nd (de_lst da_nil))
      (ds_cons (ds_for PassesOwn.never rfl (di_tup (dv 0)) (dg_name (i := 2) S.nd)
      (ds_one (ds_set (i := 1) S.nd (de_op o_add (dv 1) (de_lst (da_cons (de_tup (da_cons (dv 2) (da_cons dstr da_nil))) (da_cons (de_tup (da_cons (dv 2) (da_cons dstr da_nil))) da_nil)))))))
      (ds_one (ds_ret (dv 1))))), ?_⟩
  rintro ds M post ⟨ss, rfl, hl, h⟩
  (try walk_at "law_literals")
  refine for_map ss D.str (fun i Γ' M' => ∃ x, Γ' = [some (strsF ss), some (.lst ((lits (ss.take i)).map litD)), x] ∧ M' = M) ⟨_, rfl, rfl⟩ (fun _ _ _ _ => trivial) ?_ ?_
  · rintro i x hx Γ' M' ⟨y, rfl, rfl⟩
    have e : lits (ss.take (i + 1)) = lits (ss.take i) ++ [⟨x, true⟩, ⟨x, false⟩] := by unfold lits; rw [tk_fm hx]
    have l1 := lits_len (ss.take i)
    rw [List.length_take] at l1
    rw [e]
    (try walk_at "law_literals")
    refine ⟨by omega, some (D.str x), by simp⟩
  · rintro Γ' M' ⟨y, rfl, rfl⟩
    rw [List.take_length]
    (try walk_at "law_literals")
    exact h
theorem ok_law_literals (T : Tx P w K mg base) : Pub P w K mg base 1 "_law_literals" ["_law_names_here"] sp_law_literals := (fn_law_literals T).pub fun _ _ _ _ _ _ us hl => match us, hl with | [_], _ => rfl
end
end LW

namespace LW
open PySem PySem.Spec PyProof.Rows L2 FD FM
local macro_rules | `(tactic| walk_at "w") => `(tactic| simp only [↓FD.sSeq_e, ↓FD.sRet_e, ↓FD.sIf_e, ↓FD.sAsg_e, ↓FD.gSet_e, ↓FD.sDrop_e, ↓FD.sNext_e, ↓FD.sPar_e, ↓FD.sPar3_e, ↓FD.wIf_e, ↓FD.wOp_e, ↓FD.wUn_e, ↓FD.wVar_e, ↓FD.wC_e, ↓FD.wTst_e, ↓FD.wAnd_e, ↓FD.wOr_e, ↓FD.wNot_e, ↓FD.wAndV_e, ↓FD.wOrV_e, ↓FD.wNotV_e, ↓FD.wChain_e, ↓FD.aNil_e, ↓FD.aCons_e, ↓FD.wTup_e, ↓FD.wLst_e, ↓FD.wFtp_e, ↓FD.wNew_e, ↓FD.wCall_e, ↓FD.wB_e, ↓FD.wSl_e, ↓FD.oSome_e, ↓FD.oNone_e, ↓FD.wIsi_e, ↓FD.wIsiC_e, ↓FD.p1_e, ↓FD.p2_e, ↓FD.gLen_e, ↓FD.iLst_e, ↓FD.iTup_e, ↓FD.iStrD_e, ↓FD.iEnT_e, ↓FD.iEnL_e, ↓FD.iRng_e, ↓FD.iRng2_e, ↓FD.gTup_e, ↓FD.gsNil_e, ↓FD.gsCons_e, ↓FD.wM_e, ↓FD.wIxT_e, ↓FD.wFld_e, ↓FD.wMeth_e, ↓FD.wMake_e, ↓FD.sFldD_e, ↓FD.wDGet_e, ↓FD.sDput_e, ↓FD.wDNewK_e, ↓FD.wDNewT_e, ↓FD.wDisp1_e, ↓FD.wIce_e, ↓FD.gSub_e, ↓FD.wCallK_e, ↓FD.t1_e, ↓FD.t2_e, ↓FD.t1w_e, ↓FD.tYesD_e, ↓FD.gDIn_e, ↓FD.gDNin_e, ↓FD.gIndexT_e, ↓FD.gIndex_e, ↓FD.gInt_e, ↓FD.gAbs_e, ↓FD.gMax_e, ↓FD.gMin_e, ↓FD.gDivmod_e, ↓FD.wFz_e, ↓FD.wDGetD_e, ↓FD.t3_e, ↓FD.iZip3D_e, ↓sFor_eq, ↓wLc_eq, ↓wLc2_eq, ↓wDc_eq, ↓look_zero, ↓look_succ, ↓got_so, ↓isB_bl, ↓isI_int, ↓isS_str, ↓isT_tup, ↓isT_ftp, ↓isT_ktp, ↓isT_tp, ↓one_one, ↓two_two, ↓startD_cc, ↓startD_cn, ↓startD_nn, ↓FD.ix_str, ↓FD.ix_tup, ↓ix_ftp, ↓ix_ktp, ↓ix_lst, ↓ix_scr, ↓ix_tp, ↓atI0, ↓atI1, ↓atI2, ↓atI3, ↓FD.eq_str, ↓FD.ne_str, ↓FD.eq_int, ↓FD.ne_int, ↓FD.add_int, ↓FD.sub_int, ↓FD.lt_int, ↓FD.le_int, ↓FD.gt_int, ↓FD.ge_int, ↓FD.add_str, ↓FD.add_lst, ↓FD.add_tup, ↓FD.mul_int, ↓FD.mod_int, ↓FD.fdiv_int, ↓FD.pow_int, ↓isN_non, ↓notN_non, ↓FD.len_str, ↓len_tup, ↓len_ftp, ↓len_ktp, ↓len_lst, ↓len_scr, ↓len_tp, ↓seq_tup, ↓seq_ftp, ↓seq_ktp, ↓seq_lst, ↓seq_scr, ↓seq_tp, ↓in_tup, ↓in_ftp, ↓in_ktp, ↓in_lst, ↓nin_tup, ↓nin_ftp, ↓nin_ktp, ↓nin_lst, ↓FD.in_str, ↓nin_str, ↓isC_one, ↓asL_lst, ↓asL_scr, ↓if_tt, ↓if_ff, ↓isi_ss, ↓isi_tt, ↓isi_st, ↓isi_ts, ↓ty_str, ↓ty_tup, ↓ty_ftp, ↓ty_tp, ↓all_lst, ↓any_lst, ↓flat_s, ↓flat_set, ↓tuple_lst, ↓FD.int_int, ↓eq_ftp_nil, ↓ne_ftp_nil, ↓isNon_non, ↓isNon_int, ↓isNon_str, ↓isNon_ptr, ↓isNon_tup, ↓isNon_ftp, ↓inL_strs, ↓flatSs, ↓inL_sets, ↓flatSets, ↓FM.tw, ↓FM.tw3, ↓FM.sl_str, ↓sl_set, ↓cell_upd, ↓lk_sw, ↓lk_ru, ↓lk_st, ↓lk_place, ↓lk_has, ↓lk_keeps, ↓lk_wrongs, ↓lk_goods, ↓lk_ways_from, ↓lk_text, ↓ins_pan, ↓FD.fit_le, ↓cx_K, ↓nox_K, ↓blk_K, ↓bx_K, ↓c1, ↓c2, ↓c3, ↓c4, ↓inL_cons, ↓inL_nil, ↓all_bools, ↓any_bools, ↓in_tp, ↓nin_tp, ↓FM.sl_ftp, ↓FM.sl_tup, ↓FM.sl_lst, ↓FM.sl_scr, ↓index_eq, ↓ex_ftp, ↓eqd_str, ↓wf_at, ↓isT_cl, ↓isT_st, ↓isT_lit, ↓ix_lit0, ↓ix_lit1, ↓len_lit, ↓ty_lit, ↓eq_lit, ↓ne_lit, ↓eq_set, ↓ne_set, ↓len_set, ↓ty_set, ↓isS_set, ↓isC_sg, ↓sNever_e, ↓enumD_map, ↓dpAll_strs, ↓dpAll_mapI, ↓ne_lst_nil, ↓eq_lst_nil, ↓isT_grp, ↓len_grp, ↓isDc_wf, ↓wn_at, ↓isT_way, ↓len_way, ↓ty_way, ↓ty_st, ↓len_st, ↓ix_st0, ↓ix_st1, ↓inD_lits, ↓ninD_lits, ↓dpAll_sets, ↓three_three, ↓zip3_sets, ↓isT_z3, ↓inL_lock, ↓ninT_lits, ↓FM.tp_t, ↓FM.tp_f, Bool.not_true, Bool.not_false, Bool.false_eq_true, if_false, if_true, true_and, and_true, List.set_cons_zero, List.set_cons_succ, List.length_cons, List.length_nil, List.length_map, eq_self, decide_true, decide_false, Bool.true_eq_false, or_self, Bool.or_self, List.all_cons, List.all_nil, Bool.and_true, Bool.true_and, Bool.or_false, Bool.false_or, Bool.or_true, Bool.true_or, Bool.and_false, Bool.false_and, Int.reduceLT, Int.reduceLE, Int.reduceEq, Nat.reduceLeDiff, Nat.reduceAdd, Nat.reduceLT, wf_some, wn_some, fold_lit, fold_litp, fold_litm, sg_iff, sg_in_pm, isNon_opt, isEmpty_map, ↓reduceIte, nq_0_1, nq_0_2, nq_0_3, nq_0_4, nq_0_5, nq_0_6, nq_0_7, nq_1_0, nq_1_2, nq_1_3, nq_1_4, nq_1_5, nq_1_6, nq_1_7, nq_2_0, nq_2_1, nq_2_3, nq_2_4, nq_2_5, nq_2_6, nq_2_7, nq_3_0, nq_3_1, nq_3_2, nq_3_4, nq_3_5, nq_3_6, nq_3_7, nq_4_0, nq_4_1, nq_4_2, nq_4_3, nq_4_5, nq_4_6, nq_4_7, nq_5_0, nq_5_1, nq_5_2, nq_5_3, nq_5_4, nq_5_6, nq_5_7, nq_6_0, nq_6_1, nq_6_2, nq_6_3, nq_6_4, nq_6_5, nq_6_7, nq_7_0, nq_7_1, nq_7_2, nq_7_3, nq_7_4, nq_7_5, nq_7_6])
section
variable {P : Program} {w : World} {K : PySem.W.Frag} {mg : Str → Option Value} {base : Heap}
theorem sc_law_made : FnScope ["_law_parts"] ["_law_parts"] (defScope (top 69)) := ⟨rfl, rfl, rfl, by decide +kernel, rfl, by decide +kernel, by decide +kernel⟩
def sp_law_made (K : PySem.W.Frag) : DSp := fun ds M post => ∃ (p : Pan) (x : D), ds = [.lst [strsF p.ss, .ftp (p.rs.map ruleD), x]] ∧ post (panD K p) M
theorem cl_law_made {p : Pan} {x : D} {M : Mem} {post : WK} : sp_law_made K [.lst [strsF p.ss, .ftp (p.rs.map ruleD), x]] M post = post (panD K p) M := by
  unfold sp_law_made
  refine propext ⟨fun ⟨q, y, e, h⟩ => ?_, fun h => ⟨p, x, rfl, h⟩⟩
  simp only [List.cons.injEq, D.lst.injEq, D.ftp.injEq, strs_inj, rules_inj, and_true] at e
  rw [Pan.ext' e.1 e.2.1]
  exact h
local macro_rules | `(tactic| walk_at "law_made") => `(tactic| simp only [↓FD.sSeq_e, ↓FD.sRet_e, ↓FD.sIf_e, ↓FD.sAsg_e, ↓FD.gSet_e, ↓FD.sDrop_e, ↓FD.sNext_e, ↓FD.sPar_e, ↓FD.sPar3_e, ↓FD.wIf_e, ↓FD.wOp_e, ↓FD.wUn_e, ↓FD.wVar_e, ↓FD.wC_e, ↓FD.wTst_e, ↓FD.wAnd_e, ↓FD.wOr_e, ↓FD.wNot_e, ↓FD.wAndV_e, ↓FD.wOrV_e, ↓FD.wNotV_e, ↓FD.wChain_e, ↓FD.aNil_e, ↓FD.aCons_e, ↓FD.wTup_e, ↓FD.wLst_e, ↓FD.wFtp_e, ↓FD.wNew_e, ↓FD.wCall_e, ↓FD.wB_e, ↓FD.wSl_e, ↓FD.oSome_e, ↓FD.oNone_e, ↓FD.wIsi_e, ↓FD.wIsiC_e, ↓FD.p1_e, ↓FD.p2_e, ↓FD.gLen_e, ↓FD.iLst_e, ↓FD.iTup_e, ↓FD.iStrD_e, ↓FD.iEnT_e, ↓FD.iEnL_e, ↓FD.iRng_e, ↓FD.iRng2_e, ↓FD.gTup_e, ↓FD.gsNil_e, ↓FD.gsCons_e, ↓FD.wM_e, ↓FD.wIxT_e, ↓FD.wFld_e, ↓FD.wMeth_e, ↓FD.wMake_e, ↓FD.sFldD_e, ↓FD.wDGet_e, ↓FD.sDput_e, ↓FD.wDNewK_e, ↓FD.wDNewT_e, ↓FD.wDisp1_e, ↓FD.wIce_e, ↓FD.gSub_e, ↓FD.wCallK_e, ↓FD.t1_e, ↓FD.t2_e, ↓FD.t1w_e, ↓FD.tYesD_e, ↓FD.gDIn_e, ↓FD.gDNin_e, ↓FD.gIndexT_e, ↓FD.gIndex_e, ↓FD.gAbs_e, ↓FD.gMax_e, ↓FD.gMin_e, ↓FD.gDivmod_e, ↓FD.wFz_e, ↓FD.wDGetD_e, ↓FD.t3_e, ↓FD.iZip3D_e, ↓sFor_eq, ↓wLc_eq, ↓wLc2_eq, ↓wDc_eq, ↓look_zero, ↓look_succ, ↓got_so, ↓isB_bl, ↓isI_int, ↓isS_str, ↓isT_tup, ↓isT_ftp, ↓isT_ktp, ↓isT_tp, ↓one_one, ↓two_two, ↓startD_cc, ↓startD_cn, ↓startD_nn, ↓FD.ix_str, ↓FD.ix_tup, ↓ix_ftp, ↓ix_ktp, ↓ix_lst, ↓ix_scr, ↓ix_tp, ↓atI0, ↓atI1, ↓atI2, ↓atI3, ↓FD.eq_str, ↓FD.ne_str, ↓FD.eq_int, ↓FD.ne_int, ↓FD.add_int, ↓FD.sub_int, ↓FD.lt_int, ↓FD.le_int, ↓FD.gt_int, ↓FD.ge_int, ↓FD.add_str, ↓FD.add_lst, ↓FD.add_tup, ↓FD.mul_int, ↓FD.mod_int, ↓FD.fdiv_int, ↓FD.pow_int, ↓isN_non, ↓notN_non, ↓FD.len_str, ↓len_tup, ↓len_ftp, ↓len_ktp, ↓len_lst, ↓len_scr, ↓len_tp, ↓seq_tup, ↓seq_ftp, ↓seq_ktp, ↓seq_lst, ↓seq_scr, ↓seq_tp, ↓in_tup, ↓in_ftp, ↓in_ktp, ↓in_lst, ↓nin_tup, ↓nin_ftp, ↓nin_ktp, ↓nin_lst, ↓FD.in_str, ↓nin_str, ↓isC_one, ↓asL_lst, ↓asL_scr, ↓if_tt, ↓if_ff, ↓isi_ss, ↓isi_tt, ↓isi_st, ↓isi_ts, ↓ty_str, ↓ty_tup, ↓ty_ftp, ↓ty_tp, ↓all_lst, ↓any_lst, ↓flat_s, ↓flat_set, ↓tuple_lst, ↓FD.int_int, ↓eq_ftp_nil, ↓ne_ftp_nil, ↓isNon_non, ↓isNon_int, ↓isNon_str, ↓isNon_ptr, ↓isNon_tup, ↓isNon_ftp, ↓inL_strs, ↓flatSs, ↓inL_sets, ↓flatSets, ↓FM.tw, ↓FM.tw3, ↓FM.sl_str, ↓sl_set, ↓cell_upd, ↓lk_sw, ↓lk_ru, ↓lk_st, ↓lk_place, ↓lk_has, ↓lk_keeps, ↓lk_wrongs, ↓lk_goods, ↓lk_ways_from, ↓lk_text, ↓ins_pan, ↓FD.fit_le, ↓cx_K, ↓nox_K, ↓blk_K, ↓bx_K, ↓c1, ↓c2, ↓c3, ↓c4, ↓inL_cons, ↓inL_nil, ↓all_bools, ↓any_bools, ↓in_tp, ↓nin_tp, ↓FM.sl_ftp, ↓FM.sl_tup, ↓FM.sl_lst, ↓FM.sl_scr, ↓index_eq, ↓ex_ftp, ↓eqd_str, ↓wf_at, ↓isT_cl, ↓isT_st, ↓isT_lit, ↓ix_lit0, ↓ix_lit1, ↓len_lit, ↓ty_lit, ↓eq_lit, ↓ne_lit, ↓eq_set, ↓ne_set, ↓len_set, ↓ty_set, ↓isS_set, ↓isC_sg, ↓sNever_e, ↓enumD_map, ↓dpAll_strs, ↓dpAll_mapI, ↓ne_lst_nil, ↓eq_lst_nil, ↓isT_grp, ↓len_grp, ↓isDc_wf, ↓wn_at, ↓isT_way, ↓len_way, ↓ty_way, ↓ty_st, ↓len_st, ↓ix_st0, ↓ix_st1, ↓inD_lits, ↓ninD_lits, ↓dpAll_sets, ↓three_three, ↓zip3_sets, ↓isT_z3, ↓inL_lock, ↓ninT_lits, ↓FM.tp_t, ↓FM.tp_f, ↓ixN30, ↓ixN31, ↓ixN32, ↓ix_upd, ↓FM.eq_bl, ↓FM.ne_bl, ↓FM.sl_tp, ↓lstOf_lst, ↓okL_lst, ↓gMulS_eq, ↓add_sets, ↓add_setb, ↓add_setp, ↓add_setm, ↓rngE_e, ↓ix_rule0, ↓repr_bb, ↓isB_isD, ↓isB_notD, ↓wLcN_eq, ↓optW_some, ↓optW_none, ↓isNon_way, ↓ne_way0, ↓mulL2, ↓add_rules, ↓add_rulesT, ↓add_rulesF, ↓ne_ftp_sets, ↓ne_ftp_lits, ↓ne_ftp_strs, Option.isSome_some, Option.isSome_none, Option.isNone_some, Option.isNone_none, Option.map_some, Option.map_none, isNon_optW, pick_nil, pick_cons, List.getElem?_cons_zero, List.getElem?_cons_succ, List.nil_append, List.append_nil, List.cons_append, Bool.decide_eq_true, Bool.decide_eq_false, Int.reduceAbs, Int.reduceToNat, Int.reducePow, true_or, or_true, Mem.upd_upd, rng_int, Bool.not_true, Bool.not_false, Bool.false_eq_true, if_false, if_true, true_and, and_true, List.set_cons_zero, List.set_cons_succ, List.length_cons, List.length_nil, List.length_map, eq_self, decide_true, decide_false, Bool.true_eq_false, or_self, Bool.or_self, List.all_cons, List.all_nil, Bool.and_true, Bool.true_and, Bool.or_false, Bool.false_or, Bool.or_true, Bool.true_or, Bool.and_false, Bool.false_and, Int.reduceLT, Int.reduceLE, Int.reduceEq, Nat.reduceLeDiff, Nat.reduceAdd, Nat.reduceLT, wf_some, wn_some, fold_lit, fold_litp, fold_litm, sg_iff, sg_in_pm, isNon_opt, isEmpty_map, ↓reduceIte, nq_0_1, nq_0_2, nq_0_3, nq_0_4, nq_0_5, nq_0_6, nq_0_7, nq_1_0, nq_1_2, nq_1_3, nq_1_4, nq_1_5, nq_1_6, nq_1_7, nq_2_0, nq_2_1, nq_2_3, nq_2_4, nq_2_5, nq_2_6, nq_2_7, nq_3_0, nq_3_1, nq_3_2, nq_3_4, nq_3_5, nq_3_6, nq_3_7, nq_4_0, nq_4_1, nq_4_2, nq_4_3, nq_4_5, nq_4_6, nq_4_7, nq_5_0, nq_5_1, nq_5_2, nq_5_3, nq_5_4, nq_5_6, nq_5_7, nq_6_0, nq_6_1, nq_6_2, nq_6_3, nq_6_4, nq_6_5, nq_6_7, nq_7_0, nq_7_1, nq_7_2, nq_7_3, nq_7_4, nq_7_5, nq_7_6])
theorem fn_law_made (T : Tx P w K mg base) : Fng P w K mg base 7 "_law_made" (top 69) ["_law_parts"] (sp_law_made K) := by
  have S := sc_law_made
  refine fng_of T.d_law_made T.g_law_made S (fun ds M post h => by unfold sp_law_made at h; grind) fun f cdv A outer s H gd hr => ⟨_, (ds_one (ds_ret (de_fz (de_make (mk_Panel T) (hr.mono (by decide)) gd (da_cons (de_ix o_ix (dv 0) dint) (da_cons (de_ix o_ix (dv 0) dint) da_nil)))))), ?_⟩
  rintro ds M post ⟨p, x, rfl, h⟩
  (try walk_at "law_made")
  intro a ha
  refine ⟨a, true, p, rfl, Mem.upd_same, ?_⟩
  intro M' le fz
  rw [Mem.del_upd ha] at le fz
  exact ⟨rfl, panD K p, M, le, fz, h⟩
theorem ok_law_made (T : Tx P w K mg base) : Pub P w K mg base 7 "_law_made" ["_law_parts"] (sp_law_made K) := (fn_law_made T).pub fun _ _ _ _ _ _ us hl => match us, hl with | [_], _ => rfl
theorem sc_law_right : FnScope ["_law_bag_here", "_law_turn", "_law_parts", "_law_rule_here", "_law_mine", "_law_mate", "_law_again", "_law_some", "_law_each", "_law_literal", "_law_name", "_law_near", "_law_far"] ["_law_bag_here"] (defScope (top 73)) := ⟨rfl, rfl, rfl, by decide +kernel, rfl, by decide +kernel, by decide +kernel⟩
def sp_law_right : DSp := fun ds M post => ∃ (j : Addr), ds = [.ptr j] ∧ (Jg M j ∧ ∀ M', Jm j M M' → post (.bl true) M')
theorem cl_law_right {j : Addr} {M : Mem} {post : WK} : sp_law_right [.ptr j] M post = (Jg M j ∧ ∀ M', Jm j M M' → post (.bl true) M') := by
  simp [-Bool.exists_bool, sp_law_right, tp_inj, litD_inj, strs_inj, ruleD_inj, clD_inj, setD_inj, rules_inj, lits_inj, sets_inj, ints_inj, panF_inj, rngs_inj, rngE_inj, sg_inj, and_assoc, Int.natCast_inj]
local macro_rules | `(tactic| walk_at "law_right") => `(tactic| simp only [↓cl_law_panel, cl_law_panel, ↓cl_law_made, cl_law_made, ↓cl_law_literals, cl_law_literals, ↓cl_law_one, cl_law_one, ↓cl_law_one1, cl_law_one1, ↓cl_law_one2, cl_law_one2, ↓cl_law_draw, cl_law_draw, ↓cl_law_rule, cl_law_rule, ↓cl_needed, cl_needed, ↓cl_settings, cl_settings, ↓cl_locked, cl_locked, ↓cl_comes, cl_comes, ↓FD.sSeq_e, ↓FD.sRet_e, ↓FD.sIf_e, ↓FD.sAsg_e, ↓FD.gSet_e, ↓FD.sDrop_e, ↓FD.sNext_e, ↓FD.sPar_e, ↓FD.sPar3_e, ↓FD.wIf_e, ↓FD.wOp_e, ↓FD.wUn_e, ↓FD.wVar_e, ↓FD.wC_e, ↓FD.wTst_e, ↓FD.wAnd_e, ↓FD.wOr_e, ↓FD.wNot_e, ↓FD.wAndV_e, ↓FD.wOrV_e, ↓FD.wNotV_e, ↓FD.wChain_e, ↓FD.aNil_e, ↓FD.aCons_e, ↓FD.wTup_e, ↓FD.wLst_e, ↓FD.wFtp_e, ↓FD.wNew_e, ↓FD.wCall_e, ↓FD.wB_e, ↓FD.wSl_e, ↓FD.oSome_e, ↓FD.oNone_e, ↓FD.wIsi_e, ↓FD.wIsiC_e, ↓FD.p1_e, ↓FD.p2_e, ↓FD.gLen_e, ↓FD.iLst_e, ↓FD.iTup_e, ↓FD.iStrD_e, ↓FD.iEnT_e, ↓FD.iEnL_e, ↓FD.iRng_e, ↓FD.iRng2_e, ↓FD.gTup_e, ↓FD.gsNil_e, ↓FD.gsCons_e, ↓FD.wM_e, ↓FD.wIxT_e, ↓FD.wFld_e, ↓FD.wMeth_e, ↓FD.wMake_e, ↓FD.sFldD_e, ↓FD.wDGet_e, ↓FD.sDput_e, ↓FD.wDNewK_e, ↓FD.wDNewT_e, ↓FD.wDisp1_e, ↓FD.wIce_e, ↓FD.gSub_e, ↓FD.wCallK_e, ↓FD.t1_e, ↓FD.t2_e, ↓FD.t1w_e, ↓FD.tYesD_e, ↓FD.gDIn_e, ↓FD.gDNin_e, ↓FD.gIndexT_e, ↓FD.gIndex_e, ↓FD.gAbs_e, ↓FD.gMax_e, ↓FD.gMin_e, ↓FD.gDivmod_e, ↓FD.wFz_e, ↓FD.wDGetD_e, ↓FD.t3_e, ↓FD.iZip3D_e, ↓sFor_eq, ↓wLc_eq, ↓wLc2_eq, ↓wDc_eq, ↓look_zero, ↓look_succ, ↓got_so, ↓isB_bl, ↓isI_int, ↓isS_str, ↓isT_tup, ↓isT_ftp, ↓isT_ktp, ↓isT_tp, ↓one_one, ↓two_two, ↓startD_cc, ↓startD_cn, ↓startD_nn, ↓FD.ix_str, ↓FD.ix_tup, ↓ix_ftp, ↓ix_ktp, ↓ix_lst, ↓ix_scr, ↓ix_tp, ↓atI0, ↓atI1, ↓atI2, ↓atI3, ↓FD.eq_str, ↓FD.ne_str, ↓FD.eq_int, ↓FD.ne_int, ↓FD.add_int, ↓FD.sub_int, ↓FD.lt_int, ↓FD.le_int, ↓FD.gt_int, ↓FD.ge_int, ↓FD.add_str, ↓FD.add_lst, ↓FD.add_tup, ↓FD.mul_int, ↓FD.mod_int, ↓FD.fdiv_int, ↓FD.pow_int, ↓isN_non, ↓notN_non, ↓FD.len_str, ↓len_tup, ↓len_ftp, ↓len_ktp, ↓len_lst, ↓len_scr, ↓len_tp, ↓seq_tup, ↓seq_ftp, ↓seq_ktp, ↓seq_lst, ↓seq_scr, ↓seq_tp, ↓in_tup, ↓in_ftp, ↓in_ktp, ↓in_lst, ↓nin_tup, ↓nin_ftp, ↓nin_ktp, ↓nin_lst, ↓FD.in_str, ↓nin_str, ↓isC_one, ↓asL_lst, ↓asL_scr, ↓if_tt, ↓if_ff, ↓isi_ss, ↓isi_tt, ↓isi_st, ↓isi_ts, ↓ty_str, ↓ty_tup, ↓ty_ftp, ↓ty_tp, ↓all_lst, ↓any_lst, ↓flat_s, ↓flat_set, ↓tuple_lst, ↓FD.int_int, ↓eq_ftp_nil, ↓ne_ftp_nil, ↓isNon_non, ↓isNon_int, ↓isNon_str, ↓isNon_ptr, ↓isNon_tup, ↓isNon_ftp, ↓inL_strs, ↓flatSs, ↓inL_sets, ↓flatSets, ↓FM.tw, ↓FM.tw3, ↓FM.sl_str, ↓sl_set, ↓cell_upd, ↓lk_sw, ↓lk_ru, ↓lk_st, ↓lk_place, ↓lk_has, ↓lk_keeps, ↓lk_wrongs, ↓lk_goods, ↓lk_ways_from, ↓lk_text, ↓ins_pan, ↓FD.fit_le, ↓cx_K, ↓nox_K, ↓blk_K, ↓bx_K, ↓c1, ↓c2, ↓c3, ↓c4, ↓inL_cons, ↓inL_nil, ↓all_bools, ↓any_bools, ↓in_tp, ↓nin_tp, ↓FM.sl_ftp, ↓FM.sl_tup, ↓FM.sl_lst, ↓FM.sl_scr, ↓index_eq, ↓ex_ftp, ↓eqd_str, ↓wf_at, ↓isT_cl, ↓isT_st, ↓isT_lit, ↓ix_lit0, ↓ix_lit1, ↓len_lit, ↓ty_lit, ↓eq_lit, ↓ne_lit, ↓eq_set, ↓ne_set, ↓len_set, ↓ty_set, ↓isS_set, ↓isC_sg, ↓sNever_e, ↓enumD_map, ↓dpAll_strs, ↓dpAll_mapI, ↓ne_lst_nil, ↓eq_lst_nil, ↓isT_grp, ↓len_grp, ↓isDc_wf, ↓wn_at, ↓isT_way, ↓len_way, ↓ty_way, ↓ty_st, ↓len_st, ↓ix_st0, ↓ix_st1, ↓inD_lits, ↓ninD_lits, ↓dpAll_sets, ↓three_three, ↓zip3_sets, ↓isT_z3, ↓inL_lock, ↓ninT_lits, ↓FM.tp_t, ↓FM.tp_f, ↓ixN30, ↓ixN31, ↓ixN32, ↓ix_upd, ↓FM.eq_bl, ↓FM.ne_bl, ↓FM.sl_tp, ↓lstOf_lst, ↓okL_lst, ↓gMulS_eq, ↓add_sets, ↓add_setb, ↓add_setp, ↓add_setm, ↓rngE_e, ↓ix_rule0, ↓repr_bb, ↓isB_isD, ↓isB_notD, ↓wLcN_eq, ↓optW_some, ↓optW_none, ↓isNon_way, ↓ne_way0, ↓mulL2, ↓add_rules, ↓add_rulesT, ↓add_rulesF, ↓ne_ftp_sets, ↓ne_ftp_lits, ↓ne_ftp_strs, Option.isSome_some, Option.isSome_none, Option.isNone_some, Option.isNone_none, Option.map_some, Option.map_none, isNon_optW, pick_nil, pick_cons, List.getElem?_cons_zero, List.getElem?_cons_succ, List.nil_append, List.append_nil, List.cons_append, Bool.decide_eq_true, Bool.decide_eq_false, Int.reduceAbs, Int.reduceToNat, Int.reducePow, true_or, or_true, Mem.upd_upd, rng_int, Bool.not_true, Bool.not_false, Bool.false_eq_true, if_false, if_true, true_and, and_true, List.set_cons_zero, List.set_cons_succ, List.length_cons, List.length_nil, List.length_map, eq_self, decide_true, decide_false, Bool.true_eq_false, or_self, Bool.or_self, List.all_cons, List.all_nil, Bool.and_true, Bool.true_and, Bool.or_false, Bool.false_or, Bool.or_true, Bool.true_or, Bool.and_false, Bool.false_and, Int.reduceLT, Int.reduceLE, Int.reduceEq, Nat.reduceLeDiff, Nat.reduceAdd, Nat.reduceLT, wf_some, wn_some, fold_lit, fold_litp, fold_litm, sg_iff, sg_in_pm, isNon_opt, isEmpty_map, ↓reduceIte, nq_0_1, nq_0_2, nq_0_3, nq_0_4, nq_0_5, nq_0_6, nq_0_7, nq_1_0, nq_1_2, nq_1_3, nq_1_4, nq_1_5, nq_1_6, nq_1_7, nq_2_0, nq_2_1, nq_2_3, nq_2_4, nq_2_5, nq_2_6, nq_2_7, nq_3_0, nq_3_1, nq_3_2, nq_3_4, nq_3_5, nq_3_6, nq_3_7, nq_4_0, nq_4_1, nq_4_2, nq_4_3, nq_4_5, nq_4_6, nq_4_7, nq_5_0, nq_5_1, nq_5_2, nq_5_3, nq_5_4, nq_5_6, nq_5_7, nq_6_0, nq_6_1, nq_6_2, nq_6_3, nq_6_4, nq_6_5, nq_6_7, nq_7_0, nq_7_1, nq_7_2, nq_7_3, nq_7_4, nq_7_5, nq_7_6])
theorem fn_law_right (T : Tx P w K mg base) : Fng P w K mg base 10 "_law_right" (top 73) ["_law_bag_here"] sp_law_right := by
  have S := sc_law_right
  refine fng_of T.d_law_right T.g_law_right S (fun ds M post h => by unfold sp_law_right at h; grind) fun f cdv A outer s H gd hr => ⟨_, (ds_cons (ds_for PassesOwn.never rfl (di_range T.m_range (da_cons dint da_nil)) (dg_name (i := 1) S.nd)
      (ds_cons (ds_set (i := 2) S.nd (de_call (ok_law_panel T) (hr.mono (by decide)) gd (da_cons (dv 0) (da_cons dint (da_cons dint da_nil)))))
      (ds_cons (ds_set (i := 3) S.nd (de_call (ok_law_rule T) (hr.mono (by decide)) gd (da_cons (dv 0) (da_cons (de_ix o_ix (dv 2) dint) (da_cons (de_ix o_ix (dv 2) dint) (da_cons (de_call (ok_law_draw T) (hr.mono (by decide)) gd (da_cons (dv 0) (da_cons dint da_nil))) da_nil))))))
      (ds_cons (ds_asg (de_tup (da_cons (de_call (ok_law_made T) (hr.mono (by decide)) gd (da_cons (dv 2) da_nil)) (da_cons (de_fz (de_make (mk_Panel T) (hr.mono (by decide)) gd (da_cons (de_ix o_ix (dv 2) dint) (da_cons (de_op o_add (de_ix o_ix (dv 2) dint) (de_tup (da_cons (dv 3) da_nil))) da_nil)))) da_nil))) (dg_tup (n := 2) rfl (dgs_cons (dg_name (i := 4) S.nd) (dgs_cons (dg_name (i := 5) S.nd) dgs_nil))))
      (ds_cons (ds_set (i := 6) S.nd (de_fz (de_make (mk_Panel T) (hr.mono (by decide)) gd (da_cons (de_ix o_ix (dv 2) dint) (da_cons (de_op o_add (de_fld T.c_Panel T.n_Panel_rules (dv 5)) (de_tup (da_cons (de_call (ok_law_one T) (hr.mono (by decide)) gd (da_cons (dv 0) (da_cons (de_fld T.c_Panel T.n_Panel_rules (dv 5)) da_nil))) da_nil))) da_nil)))))
      (ds_cons (ds_set (i := 7) S.nd (de_call (ok_settings T) (hr.mono (by decide)) gd (da_cons (dv 5) da_nil)))
      (ds_cons (ds_if (PW.pt (dw_or (dt_cmp (o_ne hr) (de_lc (own := [("_law_each", 8)]) rfl S.nd (di_tup (dv 7)) (blkOk_by (N := ["_law_bag_here", "_law_turn", "_law_parts", "_law_rule_here", "_law_mine", "_law_mate", "_law_again", "_law_some", "_law_each", "_law_literal", "_law_name", "_law_near", "_law_far"]) (sc := defScope (top 73)) (by decide +kernel)) tgt1 (fun _ _ _ _ _ => pg_name (i := 8) S.nd rfl (Or.inl rfl)) (fun _ _ _ _ _ => (dts_one (dt_cmp o_nin (dv 8) (de_call (ok_settings T) (hr.mono (by decide)) gd (da_cons (dv 4) da_nil))))) (fun _ _ _ _ _ => (dv 8))) (de_lst da_nil)) (dw_or1 (dt_cmp (o_ne hr) (de_call (ok_settings T) (hr.mono (by decide)) gd (da_cons (dv 6) da_nil)) (dv 7)))))
      (ds_one (ds_ret dbl))
      ds_nil)
      (ds_cons (ds_for PassesOwn.never rfl (di_list (de_call (ok_law_literals T) (hr.mono (by decide)) gd (da_cons (de_ix o_ix (dv 2) dint) da_nil))) (dg_name (i := 9) S.nd)
      (ds_cons (ds_if (dt_cmp (o_ne hr) (de_lc (own := [("_law_each", 8)]) rfl S.nd (di_tup (de_call (ok_needed T) (hr.mono (by decide)) gd (da_cons (dv 4) (da_cons (dv 9) da_nil)))) (blkOk_by (N := ["_law_bag_here", "_law_turn", "_law_parts", "_law_rule_here", "_law_mine", "_law_mate", "_law_again", "_law_some", "_law_each", "_law_literal", "_law_name", "_law_near", "_law_far"]) (sc := defScope (top 73)) (by decide +kernel)) tgt1 (fun _ _ _ _ _ => pg_name (i := 8) S.nd rfl (Or.inl rfl)) (fun _ _ _ _ _ => (dts_one (dt_cmp (o_ninT hr) (dv 8) (de_call (ok_needed T) (hr.mono (by decide)) gd (da_cons (dv 5) (da_cons (dv 9) da_nil)))))) (fun _ _ _ _ _ => (dv 8))) (de_lst da_nil))
      (ds_one (ds_ret dbl))
      ds_nil)
      (ds_one (ds_if (dt_cmp (o_ne hr) (de_call (ok_needed T) (hr.mono (by decide)) gd (da_cons (dv 6) (da_cons (dv 9) da_nil))) (de_call (ok_needed T) (hr.mono (by decide)) gd (da_cons (dv 5) (da_cons (dv 9) da_nil))))
      (ds_one (ds_ret dbl))
      ds_nil))))
      (ds_one (ds_if (dt_cmp (o_ne hr) (dv 7) (de_tup da_nil))
      (ds_cons (ds_if (PW.pt (dw_or (dt_cmp (o_ne hr) (de_lc (own := [("_law_name", 10)]) rfl S.nd (di_tup (de_call (ok_locked T) (hr.mono (by decide)) gd (da_cons (dv 4) da_nil))) (blkOk_by (N := ["_law_bag_here", "_law_turn", "_law_parts", "_law_rule_here", "_law_mine", "_law_mate", "_law_again", "_law_some", "_law_each", "_law_literal", "_law_name", "_law_near", "_law_far"]) (sc := defScope (top 73)) (by decide +kernel)) tgt1 (fun _ _ _ _ _ => pg_name (i := 10) S.nd rfl (Or.inl rfl)) (fun _ _ _ _ _ => (dts_one (dt_cmp o_nin (dv 10) (de_call (ok_locked T) (hr.mono (by decide)) gd (da_cons (dv 5) da_nil))))) (fun _ _ _ _ _ => (dv 10))) (de_lst da_nil)) (dw_or1 (dt_cmp (o_ne hr) (de_call (ok_locked T) (hr.mono (by decide)) gd (da_cons (dv 6) da_nil)) (de_call (ok_locked T) (hr.mono (by decide)) gd (da_cons (dv 5) da_nil))))))
      (ds_one (ds_ret dbl))
      ds_nil)
      (ds_cons (ds_par (i := 11) (j := 12) rfl S.nd (da_cons (de_call (ok_law_one T) (hr.mono (by decide)) gd (da_cons (dv 0) (da_cons (dv 7) da_nil))) (da_cons (de_call (ok_law_one T) (hr.mono (by decide)) gd (da_cons (dv 0) (da_cons (dv 7) da_nil))) da_nil)))
      (ds_cons (ds_if (PW.pt (dw_and (dt_val (de_call (ok_comes T) (hr.mono (by decide)) gd (da_cons (dv 5) (da_cons (dv 11) (da_cons (dv 12) da_nil))))) (dw_and1 (dt_not (dt_val (de_call (ok_comes T) (hr.mono (by decide)) gd (da_cons (dv 4) (da_cons (dv 11) (da_cons (dv 12) da_nil)))))))))
      (ds_one (ds_ret dbl))
      ds_nil)
      (ds_one (ds_if (dt_cmp (o_ne hr) (de_call (ok_comes T) (hr.mono (by decide)) gd (da_cons (dv 6) (da_cons (dv 11) (da_cons (dv 12) da_nil)))) (de_call (ok_comes T) (hr.mono (by decide)) gd (da_cons (dv 5) (da_cons (dv 11) (da_cons (dv 12) da_nil)))))
      (ds_one (ds_ret dbl))
      ds_nil)))))
      ds_nil))))))))))
      (ds_one (ds_ret dbl))), ?_⟩
  rintro ds M post ⟨j, rfl, hj, h⟩
  (try walk_at "law_right")
  rw [rng_eq]
  refine for_map (List.range 4) rngE (fun i Γ' M' => (∃ x1 x2 x3 x4 x5 x6 x7 x8 x9 x10 x11 x12, Γ' = [some (.ptr j), x1, x2, x3, x4, x5, x6, x7, x8, x9, x10, x11, x12]) ∧ Jm j M M') ⟨⟨_, _, _, _, _, _, _, _, _, _, _, _, rfl⟩, .refl hj⟩ (fun _ _ _ _ => trivial) ?_ ?_
  · rintro i k hk Γ' M' ⟨⟨x1, x2, x3, x4, x5, x6, x7, x8, x9, x10, x11, x12, rfl⟩, j1⟩
    (try walk_at "law_right")
    refine ⟨j1.jg, ?_⟩
    intro p t pl rl tl M2 j2
    have l10 := p.sw.2.1
    refine ⟨j2.jg, ?_⟩
    intro v hv M3 j3
    refine ⟨j3.jg, p.sw.1, by omega, p.sw.2.2.1, tl, ?_⟩
    intro r hr2 _ M4 j4
    (try walk_at "law_right")
    refine ⟨by omega, ?_⟩
    intro a ha
    obtain ⟨q, qs, qr⟩ : ∃ q : Pan, q.ss = p.ss ∧ q.rs = p.rs ++ [r] := ⟨p.add r hr2 (by omega), rfl, rfl⟩
    refine ⟨a, false, q, by rw [qs, qr]; rfl, Mem.upd_same, ?_⟩
    intro M5 le fz
    rw [Mem.del_upd ha] at le fz
    refine ⟨rfl, panF K false q, M4, le, fz, ?_⟩
    (try walk_at "law_right")
    have ql : q.rs.length = p.rs.length + 1 := by rw [qr, List.length_append]; rfl
    refine ⟨j4.jg, fun z => by rw [List.map_eq_nil_iff] at z; rw [z] at ql; simp at ql, by omega, ?_⟩
    intro x hx M6 j6
    obtain ⟨r2, hr3, rfl⟩ := List.mem_map.mp hx
    refine ⟨by omega, ?_⟩
    intro a2 ha2
    obtain ⟨w, ws, wr⟩ : ∃ w : Pan, w.ss = p.ss ∧ w.rs = q.rs ++ [r2] := ⟨q.add r2 (q.ru r2 hr3) (by omega), qs, rfl⟩
    refine ⟨a2, false, w, by rw [ws, wr, List.map_append]; rfl, Mem.upd_same, ?_⟩
    intro M7 le2 fz2
    rw [Mem.del_upd ha2] at le2 fz2
    refine ⟨rfl, panF K false w, M6, le2, fz2, ?_⟩
    have hm : ∀ r', r' ∈ q.rs ↔ r' ∈ w.rs := fun r' => by
      rw [wr, List.mem_append, List.mem_singleton]
      exact ⟨.inl, fun z => z.elim id fun e => by rw [e]; exact hr3⟩
    have hsub : ∀ r' ∈ p.rs, r' ∈ q.rs := fun r' h' => by rw [qr]; exact List.mem_append_left _ h'
    have wq : w.ss = q.ss := by rw [ws, qs]
    have gw : goodsL w.ss w.rs = goodsL q.ss q.rs := goods_eq wq hm
    have J := j1.trans (j2.trans (j3.trans (j4.trans j6)))
    refine lc_pure (goodsL q.ss q.rs) setD (fun _ => false) setD trivial ?_ ?_
    · intro u hu yes no hy hn
      have hu2 := goods_more qs hsub hu
      (try walk_at "law_right")
      simp only [hu2, decide_true]
      (try walk_at "law_right")
      exact hn rfl
    · rw [filter_no]
      (try walk_at "law_right")
      rw [gw]
      (try walk_at "law_right")
      refine ⟨by omega, ?_⟩
      refine for_map (lits p.ss) litD (fun i Γ' M' => (∃ x1 x8 x9 x10 x11 x12, Γ' = [some (.ptr j), x1, some (.lst [strsF p.ss, .ftp (p.rs.map ruleD), setD t]), some (ruleD r), some (panD K p), some (panF K false q), some (panF K false w), some (.ftp ((goodsL q.ss q.rs).map setD)), x8, x9, x10, x11, x12]) ∧ Jm j M M') ⟨⟨_, _, _, _, _, _, rfl⟩, J⟩ (fun _ _ _ _ => trivial) ?_ ?_
      · rintro i2 a3 hi2 Γ' M8 ⟨⟨y1, y8, y9, y10, y11, y12, rfl⟩, j8⟩
        have ha3 := mem_lits.mp (List.mem_of_getElem? hi2)
        have ha4 : a3.n ∈ q.ss := by rw [qs]; exact ha3
        have ha5 : a3.n ∈ w.ss := by rw [ws]; exact ha3
        (try walk_at "law_right")
        refine ⟨ha3, ?_⟩
        refine lc_pure (neededL p a3) litD (fun _ => false) litD trivial ?_ ?_
        · intro b hb yes no hy hn
          have hb2 : b ∈ neededL q a3 := by
            unfold neededL at hb ⊢
            rw [List.mem_filter] at hb ⊢
            exact ⟨by rw [qs]; exact hb.1, inW_more qs hsub ha3 hb.2⟩
          (try walk_at "law_right")
          refine ⟨ha4, ?_⟩
          simp only [hb2, decide_true]
          (try walk_at "law_right")
          exact hn rfl
        · rw [filter_no]
          (try walk_at "law_right")
          refine ⟨by simp [dpAll], ha5, ha4, ?_⟩
          rw [needed_eq wq hm ha4]
          (try walk_at "law_right")
          exact ⟨⟨_, _, _, _, _, _, rfl⟩, j8⟩
      · rintro Γ' M8 ⟨⟨y1, y8, y9, y10, y11, y12, rfl⟩, j8⟩
        (try walk_at "law_right")
        cases e0 : (goodsL q.ss q.rs).isEmpty with
        | true =>
          (try walk_at "law_right")
          exact ⟨⟨_, _, _, _, _, _, _, _, _, _, _, _, rfl⟩, j8⟩
        | false =>
          obtain ⟨t0, ht0⟩ := ne_nil_iff.mp e0
          have hgq := hasGood_of ht0
          have hgp := hasGood_of (goods_more qs hsub ht0)
          have hgw : hasGood w.ss w.rs = true := hasGood_of (t := t0) (by rw [gw]; exact ht0)
          have gne : (goodsL q.ss q.rs).map setD ≠ [] := fun z => by
            rw [List.map_eq_nil_iff] at z; rw [z] at ht0; cases ht0
          have gl : (goodsL q.ss q.rs).length < 1073741824 := by
            have h1 : (goodsL q.ss q.rs).length ≤ (every q.ss.length).length := List.length_filter_le ..
            have h2 := every_small (n := q.ss.length) (by rw [qs]; omega)
            omega
          have lw : lockedL w.ss w.rs = lockedL q.ss q.rs := by
            have := lockS_eq wq hm
            rwa [lockS_good hgw, lockS_good hgq] at this
          (try walk_at "law_right")
          refine ⟨hgp, ?_⟩
          refine lc_pure (lockedL p.ss p.rs) D.str (fun _ => false) D.str trivial ?_ ?_
          · intro s hs yes no hy hn
            have hs2 := locked_more qs hsub hgq hs
            (try walk_at "law_right")
            refine ⟨hgq, ?_⟩
            simp only [hs2, decide_true]
            (try walk_at "law_right")
            exact hn rfl
          · rw [filter_no]
            (try walk_at "law_right")
            refine ⟨hgw, hgq, ?_⟩
            rw [lw]
            (try walk_at "law_right")
            refine ⟨j8.jg, gne, gl, ?_⟩
            intro x hx M9 j9
            obtain ⟨u1, hu1, rfl⟩ := List.mem_map.mp hx
            refine ⟨j9.jg, gne, gl, ?_⟩
            intro y hy M10 j10
            obtain ⟨u2, hu2, rfl⟩ := List.mem_map.mp hy
            obtain ⟨lq1, gq1⟩ := mem_goods.mp hu1
            obtain ⟨lq2, gq2⟩ := mem_goods.mp hu2
            obtain ⟨lp1, gp1⟩ := mem_goods.mp (goods_more qs hsub hu1)
            obtain ⟨lp2, gp2⟩ := mem_goods.mp (goods_more qs hsub hu2)
            obtain ⟨lw1, gw1⟩ := mem_goods.mp (show u1 ∈ goodsL w.ss w.rs by rw [gw]; exact hu1)
            obtain ⟨lw2, gw2⟩ := mem_goods.mp (show u2 ∈ goodsL w.ss w.rs by rw [gw]; exact hu2)
            have J2 := j8.trans (j9.trans j10)
            (try walk_at "law_right")
            refine ⟨lq1, gq1, lq2, gq2, ?_⟩
            cases e1 : (apartL q u1 u2).isEmpty with
            | true =>
              have e2 := apart_more qs hsub hgq e1
              (try walk_at "law_right")
              refine ⟨lp1, gp1, lp2, gp2, ?_⟩
              rw [e2]
              (try walk_at "law_right")
              refine ⟨lw1, gw1, lw2, gw2, lq1, gq1, lq2, gq2, ?_⟩
              rw [apart_eq wq hm, e1]
              (try walk_at "law_right")
              exact ⟨⟨_, _, _, _, _, _, _, _, _, _, _, _, rfl⟩, J2⟩
            | false =>
              (try walk_at "law_right")
              refine ⟨lw1, gw1, lw2, gw2, lq1, gq1, lq2, gq2, ?_⟩
              rw [apart_eq wq hm, e1]
              (try walk_at "law_right")
              exact ⟨⟨_, _, _, _, _, _, _, _, _, _, _, _, rfl⟩, J2⟩
  · rintro Γ' M' ⟨⟨x1, x2, x3, x4, x5, x6, x7, x8, x9, x10, x11, x12, rfl⟩, j1⟩
    (try walk_at "law_right")
    exact h M' j1
theorem ok_law_right (T : Tx P w K mg base) : Pub P w K mg base 10 "_law_right" ["_law_bag_here"] sp_law_right := (fn_law_right T).pub fun _ _ _ _ _ _ us hl => match us, hl with | [_], _ => rfl
theorem sc_law_bag : FnScope ["_law_script", "_law_k", "_law_held_cell", "_law_seed", "_law_this", "_law_held_signs"] ["_law_script", "_law_k"] (defScope (top 63)) := ⟨rfl, rfl, rfl, by decide +kernel, rfl, by decide +kernel, by decide +kernel⟩
def sp_law_bag : DSp := fun ds M post => ∃ (ns : List Int) (k : Nat), ds = [.scr (ns.map D.int), .int (k : Int)] ∧ ∀ (j : Addr) (a b : Int), M j = none → post (.ptr j) (M.upd j (jg a b 0))
theorem cl_law_bag {ns : List Int} {k : Nat} {M : Mem} {post : WK} : sp_law_bag [.scr (ns.map D.int), .int (k : Int)] M post = ∀ (j : Addr) (a b : Int), M j = none → post (.ptr j) (M.upd j (jg a b 0)) := by
  simp [-Bool.exists_bool, sp_law_bag, tp_inj, litD_inj, strs_inj, ruleD_inj, clD_inj, setD_inj, rules_inj, lits_inj, sets_inj, ints_inj, panF_inj, rngs_inj, rngE_inj, sg_inj, and_assoc, Int.natCast_inj]
local macro_rules | `(tactic| walk_at "law_bag") => `(tactic| simp only [↓FD.sSeq_e, ↓FD.sRet_e, ↓FD.sIf_e, ↓FD.sAsg_e, ↓FD.gSet_e, ↓FD.sDrop_e, ↓FD.sNext_e, ↓FD.sPar_e, ↓FD.sPar3_e, ↓FD.wIf_e, ↓FD.wOp_e, ↓FD.wUn_e, ↓FD.wVar_e, ↓FD.wC_e, ↓FD.wTst_e, ↓FD.wAnd_e, ↓FD.wOr_e, ↓FD.wNot_e, ↓FD.wAndV_e, ↓FD.wOrV_e, ↓FD.wNotV_e, ↓FD.wChain_e, ↓FD.aNil_e, ↓FD.aCons_e, ↓FD.wTup_e, ↓FD.wLst_e, ↓FD.wFtp_e, ↓FD.wNew_e, ↓FD.wCall_e, ↓FD.wB_e, ↓FD.wSl_e, ↓FD.oSome_e, ↓FD.oNone_e, ↓FD.wIsi_e, ↓FD.wIsiC_e, ↓FD.p1_e, ↓FD.p2_e, ↓FD.gLen_e, ↓FD.iLst_e, ↓FD.iTup_e, ↓FD.iStrD_e, ↓FD.iEnT_e, ↓FD.iEnL_e, ↓FD.iRng_e, ↓FD.iRng2_e, ↓FD.gTup_e, ↓FD.gsNil_e, ↓FD.gsCons_e, ↓FD.wM_e, ↓FD.wIxT_e, ↓FD.wFld_e, ↓FD.wMeth_e, ↓FD.wMake_e, ↓FD.sFldD_e, ↓FD.wDGet_e, ↓FD.sDput_e, ↓FD.wDNewK_e, ↓FD.wDNewT_e, ↓FD.wDisp1_e, ↓FD.wIce_e, ↓FD.gSub_e, ↓FD.wCallK_e, ↓FD.t1_e, ↓FD.t2_e, ↓FD.t1w_e, ↓FD.tYesD_e, ↓FD.gDIn_e, ↓FD.gDNin_e, ↓FD.gIndexT_e, ↓FD.gIndex_e, ↓FD.gAbs_e, ↓FD.gMax_e, ↓FD.gMin_e, ↓FD.gDivmod_e, ↓FD.wFz_e, ↓FD.wDGetD_e, ↓FD.t3_e, ↓FD.iZip3D_e, ↓sFor_eq, ↓wLc_eq, ↓wLc2_eq, ↓wDc_eq, ↓look_zero, ↓look_succ, ↓got_so, ↓isB_bl, ↓isI_int, ↓isS_str, ↓isT_tup, ↓isT_ftp, ↓isT_ktp, ↓isT_tp, ↓one_one, ↓two_two, ↓startD_cc, ↓startD_cn, ↓startD_nn, ↓FD.ix_str, ↓FD.ix_tup, ↓ix_ftp, ↓ix_ktp, ↓ix_lst, ↓ix_scr, ↓ix_tp, ↓atI0, ↓atI1, ↓atI2, ↓atI3, ↓FD.eq_str, ↓FD.ne_str, ↓FD.eq_int, ↓FD.ne_int, ↓FD.add_int, ↓FD.sub_int, ↓FD.lt_int, ↓FD.le_int, ↓FD.gt_int, ↓FD.ge_int, ↓FD.add_str, ↓FD.add_lst, ↓FD.add_tup, ↓FD.mul_int, ↓FD.mod_int, ↓FD.fdiv_int, ↓FD.pow_int, ↓isN_non, ↓notN_non, ↓FD.len_str, ↓len_tup, ↓len_ftp, ↓len_ktp, ↓len_lst, ↓len_scr, ↓len_tp, ↓seq_tup, ↓seq_ftp, ↓seq_ktp, ↓seq_lst, ↓seq_scr, ↓seq_tp, ↓in_tup, ↓in_ftp, ↓in_ktp, ↓in_lst, ↓nin_tup, ↓nin_ftp, ↓nin_ktp, ↓nin_lst, ↓FD.in_str, ↓nin_str, ↓isC_one, ↓asL_lst, ↓asL_scr, ↓if_tt, ↓if_ff, ↓isi_ss, ↓isi_tt, ↓isi_st, ↓isi_ts, ↓ty_str, ↓ty_tup, ↓ty_ftp, ↓ty_tp, ↓all_lst, ↓any_lst, ↓flat_s, ↓flat_set, ↓tuple_lst, ↓FD.int_int, ↓eq_ftp_nil, ↓ne_ftp_nil, ↓isNon_non, ↓isNon_int, ↓isNon_str, ↓isNon_ptr, ↓isNon_tup, ↓isNon_ftp, ↓inL_strs, ↓flatSs, ↓inL_sets, ↓flatSets, ↓FM.tw, ↓FM.tw3, ↓FM.sl_str, ↓sl_set, ↓cell_upd, ↓lk_sw, ↓lk_ru, ↓lk_st, ↓lk_place, ↓lk_has, ↓lk_keeps, ↓lk_wrongs, ↓lk_goods, ↓lk_ways_from, ↓lk_text, ↓ins_pan, ↓FD.fit_le, ↓cx_K, ↓nox_K, ↓blk_K, ↓bx_K, ↓c1, ↓c2, ↓c3, ↓c4, ↓inL_cons, ↓inL_nil, ↓all_bools, ↓any_bools, ↓in_tp, ↓nin_tp, ↓FM.sl_ftp, ↓FM.sl_tup, ↓FM.sl_lst, ↓FM.sl_scr, ↓index_eq, ↓ex_ftp, ↓eqd_str, ↓wf_at, ↓isT_cl, ↓isT_st, ↓isT_lit, ↓ix_lit0, ↓ix_lit1, ↓len_lit, ↓ty_lit, ↓eq_lit, ↓ne_lit, ↓eq_set, ↓ne_set, ↓len_set, ↓ty_set, ↓isS_set, ↓isC_sg, ↓sNever_e, ↓enumD_map, ↓dpAll_strs, ↓dpAll_mapI, ↓ne_lst_nil, ↓eq_lst_nil, ↓isT_grp, ↓len_grp, ↓isDc_wf, ↓wn_at, ↓isT_way, ↓len_way, ↓ty_way, ↓ty_st, ↓len_st, ↓ix_st0, ↓ix_st1, ↓inD_lits, ↓ninD_lits, ↓dpAll_sets, ↓three_three, ↓zip3_sets, ↓isT_z3, ↓inL_lock, ↓ninT_lits, ↓FM.tp_t, ↓FM.tp_f, ↓ixN30, ↓ixN31, ↓ixN32, ↓ix_upd, ↓FM.eq_bl, ↓FM.ne_bl, ↓FM.sl_tp, ↓lstOf_lst, ↓okL_lst, ↓gMulS_eq, ↓add_sets, ↓add_setb, ↓add_setp, ↓add_setm, ↓rngE_e, ↓ix_rule0, ↓repr_bb, ↓isB_isD, ↓isB_notD, ↓wLcN_eq, ↓optW_some, ↓optW_none, ↓isNon_way, ↓ne_way0, ↓mulL2, ↓add_rules, ↓add_rulesT, ↓add_rulesF, ↓ne_ftp_sets, ↓ne_ftp_lits, ↓ne_ftp_strs, Option.isSome_some, Option.isSome_none, Option.isNone_some, Option.isNone_none, Option.map_some, Option.map_none, isNon_optW, pick_nil, pick_cons, List.getElem?_cons_zero, List.getElem?_cons_succ, List.nil_append, List.append_nil, List.cons_append, Bool.decide_eq_true, Bool.decide_eq_false, Int.reduceAbs, Int.reduceToNat, Int.reducePow, true_or, or_true, Mem.upd_upd, rng_int, Bool.not_true, Bool.not_false, Bool.false_eq_true, if_false, if_true, true_and, and_true, List.set_cons_zero, List.set_cons_succ, List.length_cons, List.length_nil, List.length_map, eq_self, decide_true, decide_false, Bool.true_eq_false, or_self, Bool.or_self, List.all_cons, List.all_nil, Bool.and_true, Bool.true_and, Bool.or_false, Bool.false_or, Bool.or_true, Bool.true_or, Bool.and_false, Bool.false_and, Int.reduceLT, Int.reduceLE, Int.reduceEq, Nat.reduceLeDiff, Nat.reduceAdd, Nat.reduceLT, wf_some, wn_some, fold_lit, fold_litp, fold_litm, sg_iff, sg_in_pm, isNon_opt, isEmpty_map, ↓reduceIte, nq_0_1, nq_0_2, nq_0_3, nq_0_4, nq_0_5, nq_0_6, nq_0_7, nq_1_0, nq_1_2, nq_1_3, nq_1_4, nq_1_5, nq_1_6, nq_1_7, nq_2_0, nq_2_1, nq_2_3, nq_2_4, nq_2_5, nq_2_6, nq_2_7, nq_3_0, nq_3_1, nq_3_2, nq_3_4, nq_3_5, nq_3_6, nq_3_7, nq_4_0, nq_4_1, nq_4_2, nq_4_3, nq_4_5, nq_4_6, nq_4_7, nq_5_0, nq_5_1, nq_5_2, nq_5_3, nq_5_4, nq_5_6, nq_5_7, nq_6_0, nq_6_1, nq_6_2, nq_6_3, nq_6_4, nq_6_5, nq_6_7, nq_7_0, nq_7_1, nq_7_2, nq_7_3, nq_7_4, nq_7_5, nq_7_6])
theorem fn_law_bag (T : Tx P w K mg base) : Fng P w K mg base 1 "_law_bag" (top 63) ["_law_script", "_law_k"] sp_law_bag := by
  have S := sc_law_bag
  refine fng_of T.d_law_bag T.g_law_bag S (fun ds M post h => by unfold sp_law_bag at h; grind) fun f cdv A outer s H gd hr => ⟨_, (ds_cons (ds_par (i := 2) (j := 3) rfl S.nd (da_cons (de_if (dt_cmp o_lt (dv 1) (de_b c_len T.m_len (by decide +kernel) (da_cons (dv 0) da_nil))) (de_ty c_int T.m_int (by decide +kernel) (da_cons (de_ix o_ix (dv 0) (dv 1)) da_nil)) dint) (da_cons (de_op o_mul dint (de_op o_add (dv 1) dint)) da_nil)))
      (ds_cons (ds_for PassesOwn.never rfl (di_list (de_slice o_slice (dv 0) do_none (do_some dint))) (dg_name (i := 4) S.nd)
      (ds_one (ds_set (i := 3) S.nd (de_op o_mod (de_ty c_int T.m_int (by decide +kernel) (da_cons (de_op o_add (de_op o_add (de_op o_mul (dv 3) dint) (de_op o_mod (de_ty c_int T.m_int (by decide +kernel) (da_cons (dv 4) da_nil)) dint)) (de_op o_mul dint (dv 1))) da_nil)) dint))))
      (ds_cons (ds_set (i := 5) S.nd (de_if (PW.pt (dw_or (dt_cmp o_lt (dv 2) dint) (dw_or1 (dt_cmp o_ge (dv 2) (de_op o_pow dint dint))))) (de_b c_abs T.m_abs (by decide +kernel) (da_cons (dv 2) da_nil)) dint))
      (ds_one (ds_ret (de_new (da_cons (dv 5) (da_cons (de_op o_mod (de_ty c_int T.m_int (by decide +kernel) (da_cons (de_op o_add (dv 3) (de_op o_mul dint (de_op o_mod (de_ty c_int T.m_int (by decide +kernel) (da_cons (dv 2) da_nil)) dint))) da_nil)) dint) (da_cons dint da_nil))))))))), ?_⟩
  rintro ds M post ⟨ns, k, rfl, h⟩
  have e7 : cutL (ns.map D.int) none (some 7) = (ns.take 7).map D.int := by rw [cutL_map]; exact congrArg _ (cutL_take (k := 7))
  (try walk_at "law_bag")
  by_cases hk : k < ns.length
  · rw [if_pos (by simp [hk]), atI_lt (by rw [List.length_map]; exact hk), List.getElem_map]
    (try walk_at "law_bag")
    generalize ns[k] = c
    rw [e7]
    refine for_map (ns.take 7) D.int (fun i Γ' M' => ∃ m x y, Γ' = [some (.scr (ns.map D.int)), some (.int (k : Int)), some (.int c), some (.int m), x, y] ∧ M' = M) ⟨_, _, _, rfl, rfl⟩ (fun _ _ _ _ => trivial) ?_ ?_
    · rintro i y hy Γ' M' ⟨m, x, z, rfl, rfl⟩
      (try walk_at "law_bag")
      first | exact ⟨_, _, _, rfl, rfl⟩ | exact ⟨_, _, _, rfl⟩
    · rintro Γ' M' ⟨m, x, z, rfl, rfl⟩
      (try walk_at "law_bag")
      (repeat' split) <;> exact fun j hj => h j _ _ hj
  · rw [if_neg (by simp; omega)]
    (try walk_at "law_bag")
    rw [e7]
    refine for_map (ns.take 7) D.int (fun i Γ' M' => ∃ m x y, Γ' = [some (.scr (ns.map D.int)), some (.int (k : Int)), some (.int 0), some (.int m), x, y] ∧ M' = M) ⟨_, _, _, rfl, rfl⟩ (fun _ _ _ _ => trivial) ?_ ?_
    · rintro i y hy Γ' M' ⟨m, x, z, rfl, rfl⟩
      (try walk_at "law_bag")
      first | exact ⟨_, _, _, rfl, rfl⟩ | exact ⟨_, _, _, rfl⟩
    · rintro Γ' M' ⟨m, x, z, rfl, rfl⟩
      (try walk_at "law_bag")
      (repeat' split) <;> exact fun j hj => h j _ _ hj
theorem ok_law_bag (T : Tx P w K mg base) : Pub P w K mg base 1 "_law_bag" ["_law_script", "_law_k"] sp_law_bag := (fn_law_bag T).pub fun _ _ _ _ _ _ us hl => match us, hl with | [_, _], _ => rfl
theorem sc_law : FnScope ["_law_script", "_law_k"] ["_law_script"] (defScope (top 74)) := ⟨rfl, rfl, rfl, by decide +kernel, rfl, by decide +kernel, by decide +kernel⟩
def sp_law : DSp := fun ds M post => ∃ (ns : List Int), ds = [.scr (ns.map D.int)] ∧ ∀ M', post (.bl true) M' 
local macro_rules | `(tactic| walk_at "law") => `(tactic| simp only [↓cl_law_bag, cl_law_bag, ↓cl_law_right, cl_law_right, ↓FD.sSeq_e, ↓FD.sRet_e, ↓FD.sIf_e, ↓FD.sAsg_e, ↓FD.gSet_e, ↓FD.sDrop_e, ↓FD.sNext_e, ↓FD.sPar_e, ↓FD.sPar3_e, ↓FD.wIf_e, ↓FD.wOp_e, ↓FD.wUn_e, ↓FD.wVar_e, ↓FD.wC_e, ↓FD.wTst_e, ↓FD.wAnd_e, ↓FD.wOr_e, ↓FD.wNot_e, ↓FD.wAndV_e, ↓FD.wOrV_e, ↓FD.wNotV_e, ↓FD.wChain_e, ↓FD.aNil_e, ↓FD.aCons_e, ↓FD.wTup_e, ↓FD.wLst_e, ↓FD.wFtp_e, ↓FD.wNew_e, ↓FD.wCall_e, ↓FD.wB_e, ↓FD.wSl_e, ↓FD.oSome_e, ↓FD.oNone_e, ↓FD.wIsi_e, ↓FD.wIsiC_e, ↓FD.p1_e, ↓FD.p2_e, ↓FD.gLen_e, ↓FD.iLst_e, ↓FD.iTup_e, ↓FD.iStrD_e, ↓FD.iEnT_e, ↓FD.iEnL_e, ↓FD.iRng_e, ↓FD.iRng2_e, ↓FD.gTup_e, ↓FD.gsNil_e, ↓FD.gsCons_e, ↓FD.wM_e, ↓FD.wIxT_e, ↓FD.wFld_e, ↓FD.wMeth_e, ↓FD.wMake_e, ↓FD.sFldD_e, ↓FD.wDGet_e, ↓FD.sDput_e, ↓FD.wDNewK_e, ↓FD.wDNewT_e, ↓FD.wDisp1_e, ↓FD.wIce_e, ↓FD.gSub_e, ↓FD.wCallK_e, ↓FD.t1_e, ↓FD.t2_e, ↓FD.t1w_e, ↓FD.tYesD_e, ↓FD.gDIn_e, ↓FD.gDNin_e, ↓FD.gIndexT_e, ↓FD.gIndex_e, ↓FD.gAbs_e, ↓FD.gMax_e, ↓FD.gMin_e, ↓FD.gDivmod_e, ↓FD.wFz_e, ↓FD.wDGetD_e, ↓FD.t3_e, ↓FD.iZip3D_e, ↓sFor_eq, ↓wLc_eq, ↓wLc2_eq, ↓wDc_eq, ↓look_zero, ↓look_succ, ↓got_so, ↓isB_bl, ↓isI_int, ↓isS_str, ↓isT_tup, ↓isT_ftp, ↓isT_ktp, ↓isT_tp, ↓one_one, ↓two_two, ↓startD_cc, ↓startD_cn, ↓startD_nn, ↓FD.ix_str, ↓FD.ix_tup, ↓ix_ftp, ↓ix_ktp, ↓ix_lst, ↓ix_scr, ↓ix_tp, ↓atI0, ↓atI1, ↓atI2, ↓atI3, ↓FD.eq_str, ↓FD.ne_str, ↓FD.eq_int, ↓FD.ne_int, ↓FD.add_int, ↓FD.sub_int, ↓FD.lt_int, ↓FD.le_int, ↓FD.gt_int, ↓FD.ge_int, ↓FD.add_str, ↓FD.add_lst, ↓FD.add_tup, ↓FD.mul_int, ↓FD.mod_int, ↓FD.fdiv_int, ↓FD.pow_int, ↓isN_non, ↓notN_non, ↓FD.len_str, ↓len_tup, ↓len_ftp, ↓len_ktp, ↓len_lst, ↓len_scr, ↓len_tp, ↓seq_tup, ↓seq_ftp, ↓seq_ktp, ↓seq_lst, ↓seq_scr, ↓seq_tp, ↓in_tup, ↓in_ftp, ↓in_ktp, ↓in_lst, ↓nin_tup, ↓nin_ftp, ↓nin_ktp, ↓nin_lst, ↓FD.in_str, ↓nin_str, ↓isC_one, ↓asL_lst, ↓asL_scr, ↓if_tt, ↓if_ff, ↓isi_ss, ↓isi_tt, ↓isi_st, ↓isi_ts, ↓ty_str, ↓ty_tup, ↓ty_ftp, ↓ty_tp, ↓all_lst, ↓any_lst, ↓flat_s, ↓flat_set, ↓tuple_lst, ↓FD.int_int, ↓eq_ftp_nil, ↓ne_ftp_nil, ↓isNon_non, ↓isNon_int, ↓isNon_str, ↓isNon_ptr, ↓isNon_tup, ↓isNon_ftp, ↓inL_strs, ↓flatSs, ↓inL_sets, ↓flatSets, ↓FM.tw, ↓FM.tw3, ↓FM.sl_str, ↓sl_set, ↓cell_upd, ↓lk_sw, ↓lk_ru, ↓lk_st, ↓lk_place, ↓lk_has, ↓lk_keeps, ↓lk_wrongs, ↓lk_goods, ↓lk_ways_from, ↓lk_text, ↓ins_pan, ↓FD.fit_le, ↓cx_K, ↓nox_K, ↓blk_K, ↓bx_K, ↓c1, ↓c2, ↓c3, ↓c4, ↓inL_cons, ↓inL_nil, ↓all_bools, ↓any_bools, ↓in_tp, ↓nin_tp, ↓FM.sl_ftp, ↓FM.sl_tup, ↓FM.sl_lst, ↓FM.sl_scr, ↓index_eq, ↓ex_ftp, ↓eqd_str, ↓wf_at, ↓isT_cl, ↓isT_st, ↓isT_lit, ↓ix_lit0, ↓ix_lit1, ↓len_lit, ↓ty_lit, ↓eq_lit, ↓ne_lit, ↓eq_set, ↓ne_set, ↓len_set, ↓ty_set, ↓isS_set, ↓isC_sg, ↓sNever_e, ↓enumD_map, ↓dpAll_strs, ↓dpAll_mapI, ↓ne_lst_nil, ↓eq_lst_nil, ↓isT_grp, ↓len_grp, ↓isDc_wf, ↓wn_at, ↓isT_way, ↓len_way, ↓ty_way, ↓ty_st, ↓len_st, ↓ix_st0, ↓ix_st1, ↓inD_lits, ↓ninD_lits, ↓dpAll_sets, ↓three_three, ↓zip3_sets, ↓isT_z3, ↓inL_lock, ↓ninT_lits, ↓FM.tp_t, ↓FM.tp_f, ↓ixN30, ↓ixN31, ↓ixN32, ↓ix_upd, ↓FM.eq_bl, ↓FM.ne_bl, ↓FM.sl_tp, ↓lstOf_lst, ↓okL_lst, ↓gMulS_eq, ↓add_sets, ↓add_setb, ↓add_setp, ↓add_setm, ↓rngE_e, ↓ix_rule0, ↓repr_bb, ↓isB_isD, ↓isB_notD, ↓wLcN_eq, ↓optW_some, ↓optW_none, ↓isNon_way, ↓ne_way0, ↓mulL2, ↓add_rules, ↓add_rulesT, ↓add_rulesF, ↓ne_ftp_sets, ↓ne_ftp_lits, ↓ne_ftp_strs, Option.isSome_some, Option.isSome_none, Option.isNone_some, Option.isNone_none, Option.map_some, Option.map_none, isNon_optW, pick_nil, pick_cons, List.getElem?_cons_zero, List.getElem?_cons_succ, List.nil_append, List.append_nil, List.cons_append, Bool.decide_eq_true, Bool.decide_eq_false, Int.reduceAbs, Int.reduceToNat, Int.reducePow, true_or, or_true, Mem.upd_upd, rng_int, Bool.not_true, Bool.not_false, Bool.false_eq_true, if_false, if_true, true_and, and_true, List.set_cons_zero, List.set_cons_succ, List.length_cons, List.length_nil, List.length_map, eq_self, decide_true, decide_false, Bool.true_eq_false, or_self, Bool.or_self, List.all_cons, List.all_nil, Bool.and_true, Bool.true_and, Bool.or_false, Bool.false_or, Bool.or_true, Bool.true_or, Bool.and_false, Bool.false_and, Int.reduceLT, Int.reduceLE, Int.reduceEq, Nat.reduceLeDiff, Nat.reduceAdd, Nat.reduceLT, wf_some, wn_some, fold_lit, fold_litp, fold_litm, sg_iff, sg_in_pm, isNon_opt, isEmpty_map, ↓reduceIte, nq_0_1, nq_0_2, nq_0_3, nq_0_4, nq_0_5, nq_0_6, nq_0_7, nq_1_0, nq_1_2, nq_1_3, nq_1_4, nq_1_5, nq_1_6, nq_1_7, nq_2_0, nq_2_1, nq_2_3, nq_2_4, nq_2_5, nq_2_6, nq_2_7, nq_3_0, nq_3_1, nq_3_2, nq_3_4, nq_3_5, nq_3_6, nq_3_7, nq_4_0, nq_4_1, nq_4_2, nq_4_3, nq_4_5, nq_4_6, nq_4_7, nq_5_0, nq_5_1, nq_5_2, nq_5_3, nq_5_4, nq_5_6, nq_5_7, nq_6_0, nq_6_1, nq_6_2, nq_6_3, nq_6_4, nq_6_5, nq_6_7, nq_7_0, nq_7_1, nq_7_2, nq_7_3, nq_7_4, nq_7_5, nq_7_6])
theorem fn_law (T : Tx P w K mg base) : Fng P w K mg base 11 "law" (top 74) ["_law_script"] sp_law := by
  have S := sc_law
  refine fng_of T.d_law T.g_law S (fun ds M post h => by unfold sp_law at h; grind) fun f cdv A outer s H gd hr => ⟨_, (ds_one (ds_ret (de_b (c_all rfl) T.m_all (by decide +kernel) (da_cons (de_lc (own := [("_law_k", 1)]) rfl S.nd (di_range T.m_range (da_cons (de_b (c_max rfl) T.m_max (by decide +kernel) (da_cons dint (da_cons (de_b (c_min rfl) T.m_min (by decide +kernel) (da_cons (de_b c_len T.m_len (by decide +kernel) (da_cons (dv 0) da_nil)) (da_cons dint da_nil))) da_nil))) da_nil)) (blkOk_by (N := ["_law_script", "_law_k"]) (sc := defScope (top 74)) (by decide +kernel)) tgt1 (fun _ _ _ _ _ => pg_name (i := 1) S.nd rfl (Or.inl rfl)) (fun _ _ _ _ _ => dts_nil) (fun _ _ _ _ _ => (de_call (ok_law_right T) (hr.mono (by decide)) gd (da_cons (de_call (ok_law_bag T) (hr.mono (by decide)) gd (da_cons (dv 0) (da_cons (dv 1) da_nil))) da_nil)))) da_nil)))), ?_⟩
  rintro ds M post ⟨ns, rfl, h⟩
  (try walk_at "law")
  generalize hm : (if (if (4 : Int) < (ns.length : Int) then 4 else (ns.length : Int)) > 2 then if (4 : Int) < (ns.length : Int) then 4 else (ns.length : Int) else 2) = m
  have m5 : 2 ≤ m ∧ m ≤ 5 := by
    rw [← hm]
    (repeat' split) <;> omega
  refine ⟨by omega, by omega, ?_⟩
  rw [rng_eq]
  refine lc_mapI (List.range m.toNat) rngE (fun _ => D.bl true) (fun _ => True) trivial (fun _ _ => trivial) ?_ ?_
  · intro k hk M1 _ yes hy
    (try walk_at "law")
    intro j a b hn
    exact ⟨⟨a, b, 0, Mem.upd_same⟩, fun M2 _ => hy M2 trivial⟩
  · intro M2 _
    have e : ((List.range m.toNat).all fun _ => true) = true := by simp
    rw [all_bools, e]
    exact h M2
theorem ok_law (T : Tx P w K mg base) : Pub P w K mg base 11 "law" ["_law_script"] sp_law := (fn_law T).pub fun _ _ _ _ _ _ us hl => match us, hl with | [_], _ => rfl
end
end LW

namespace LW
open PySem PySem.Spec PyProof.Rows L2 FD FM
abbrev Rw : PySem.W.OpenRow := PySem.W.OpenLaw.row PySem.Challenge.rw_fliponce_k27_whole_rules_more
abbrev hk : PySem.W.Hook := He.hookX 4 fa fn [] [] ft
def ob (s : PySem.W.SharedT) : He.AlX := He.obsX 4 fa fn [] [] ft (HandSHeadRun.getT s)
theorem ob_eq (s : PySem.W.SharedT) : ob s = hk.obs s.abs := He.obsX_eq (HandSHeadRun.getT_eq s)
set_option maxHeartbeats 0 in
theorem run (w : World) : HandSHeadRun.RunEq Rw (PySem.W.view Rw.prog [74]) hk ob 20000 names w := by
  intro os
  kernel_rfl
theorem law_ends {P : Program} {w : World} {K : PySem.W.Frag} {h : Heap} {mg : Str → Option Value} {f : Addr} (KX : K.In h) (G : h.Ns mainGlobals mg) (hf : mg ("law" : Str) = some (.ref f)) (c : He.SaysD fa fn K) (t : ft K = true) :
    ∃ fd : FuncData, (∀ (s : Shared) (u : Value), BindsTo s fd ⟨[u], []⟩ [("_law_script", u)]) ∧ ∀ base : Heap, K.In base → base.Ns mainGlobals mg → FnG P w K mg base 11 f fd ["_law_script"] sp_law := by
  have T0 : ∀ base, Tx P w K mg base := fun base => ⟨c, t, h, KX, G⟩
  obtain ⟨fd, D⟩ := (T0 h).d_law
  cases hf.symm.trans (T0 h).g_law
  have b := FunD.bindsA (ps := ["_law_script"]) D fun _ _ _ _ _ _ us hl => match us, hl with | [_], _ => rfl
  refine ⟨fd, fun s u => b s [u] rfl, fun base _ _ => ?_⟩
  exact (fn_law (T0 base)).atD D
end LW
open PySem PySem.W PySem.Calls PyProof.Rows
set_option maxRecDepth 100000 in
set_option maxHeartbeats 0 in
theorem PySem.Challenge.cw_fliponce_k27_whole_rules_more_holds : PySem.Challenge.rw_fliponce_k27_whole_rules_more.Holds := by
  w_on; o_law
  refine HandSHeadRun.head_any (r := LW.Rw) (q := view LW.Rw.prog [74]) (H := LW.hk) (ob := LW.ob) (M := 20000) (loose := LW.names) (d := HandSHeadRun.topDef LW.Rw.prog 74) (kwd := []) LW.ob_eq
    (by kernel_rfl) (fun s => by kernel_rfl) LW.run (by kernel_rfl) (by kernel_rfl) (by kernel_rfl) (by rfl) (by first | assumption | decide +kernel) (by decide +kernel) ⟨rfl, rfl, rfl, rfl, rfl, by decide +kernel⟩ ?hw ?hc
  case hw => w_witness2
  case hc =>
    refine FD.end_walk (l := PySem.Challenge.rw_fliponce_k27_whole_rules_more) (n := 63) (k := 11) (x := "_law_script") rfl (by decide) (by kernel_rfl) ⟨rfl, by decide, by decide⟩ ?F
    intro w mg f h Y G named
    obtain ⟨K, KX, c⟩ := Y
    have e : (HandSHeadRun.topDef LW.Rw.prog 74).name = ("law" : PySem.Str) := by kernel_rfl
    rw [e] at named
    obtain ⟨fd, hb, hF⟩ := LW.law_ends (P := (PySem.Challenge.rw_fliponce_k27_whole_rules_more).prog) (w := w) KX G named c.t.d c.more
    exact ⟨K, fd, _, KX, hb, fun ns _ => ⟨ns, rfl, fun _ => rfl⟩, hF⟩


