import PyProof.Rows.All
import Wide.All
import OpenK.AllK
import Wide.FinOn
import HandS.ForMost
import HandS.Walk
import HandS.Zip
import HandS.Wide
import HandS.TupAny
import HandS.TupMul
import HandS.IsInst
import HandS.StrMore
import HandS.Conv
import HandS.Style
import KE.GoesMore
import KE.GoesEnum
import KE.GoesZip
import PyProof.ReprRoads
import HandS.RaiseMore
import HandS.Ends
import KE.KUnpackStar
import HandS.Codes
import HandS.OwnEq
import HandS.Property
import HandS.ClsMeth
import HandS.MapJoin
import HandS.Defaults
import PySem.Challenge.RW_checkdigits_k55_weights_written
set_option Elab.async false
set_option linter.all false
set_option maxRecDepth 100000
set_option maxHeartbeats 2000000
/-! A layer of plain data over the hand layer: heaps are out of sight. -/
namespace Qd
open PySem PySem.Spec PyProof.Rows L2

/-- plain data -/
inductive D where
  | non | bl (b : Bool) | int (i : Int) | str (s : Str)
  | lst (ds : List D) | tup (ds : List D)
  | ins (C : Addr) (fs : List (Str × D))
  | ref (a : Addr) | ty (n : String) | scr (ns : List Int)

/-- V stands for data, read off the still part I of the heap -/
inductive DR (K : PySem.W.Frag) (I : Hp) : V → D → Prop
  | non : DR K I .non .non
  | bl (b : Bool) : DR K I (.bl b) (.bl b)
  | int (i : Int) : DR K I (.int i) (.int i)
  | str (s : Str) (h : s.length ≤ sizeLine) : DR K I (.str s) (.str s)
  | lst {a : Addr} {xs : List V} {ds : List D} : I a = some (.lst xs) → xs.length ≤ sizeLine → xs.length = ds.length → (∀ (i : Nat) (x : V) (d : D), xs[i]? = some x → ds[i]? = some d → DR K I x d) → DR K I (.ref a) (.lst ds)
  | tup {a : Addr} {xs : List V} {ds : List D} : SqT K I a xs → xs.length ≤ sizeLine → xs.length = ds.length → (∀ (i : Nat) (x : V) (d : D), xs[i]? = some x → ds[i]? = some d → DR K I x d) → DR K I (.ref a) (.tup ds)
  | ins {a C dx : Addr} {fv : List (Str × V)} {fs : List (Str × D)} : I a = some (.ins C dx fv) → I dx = some (.own a) → fv.length = fs.length →
      (∀ (i : Nat) (x : Str × V) (d : Str × D), fv[i]? = some x → fs[i]? = some d → x.1 = d.1) →
      (∀ (i : Nat) (x : Str × V) (d : Str × D), fv[i]? = some x → fs[i]? = some d → DR K I x.2 d.2) → DR K I (.ref a) (.ins C fs)
  | ref (a : Addr) : DR K I (.ref a) (.ref a)
  | ty (n : String) : DR K I (.ty n) (.ty n)
  | scr {a : Addr} {ns : List Int} : SqL K I a (ns.map V.int) → ns.length ≤ 63 → DR K I (.ref a) (.scr ns)

theorem Same.sqt {K : PySem.W.Frag} {H H' : Hp} {a : Addr} {xs : List V} (e : Same H H') (h : SqT K H a xs) : SqT K H' a xs := by
  rcases h with (h | ⟨o, h⟩) | h
  · exact .inl (.inl (e _ _ h))
  · exact .inl (.inr ⟨o, e _ _ h⟩)
  · exact .inr h

theorem DR.mono {K : PySem.W.Frag} {I I' : Hp} (s : Same I I') {v : V} {d : D} (h : DR K I v d) : DR K I' v d := by
  induction h with
  | non => exact .non
  | bl b => exact .bl b
  | int i => exact .int i
  | str x h => exact .str x h
  | lst h1 h2 h3 h4 ih => exact .lst (s _ _ h1) h2 h3 ih
  | tup h1 h2 h3 h4 ih => exact .tup (Same.sqt s h1) h2 h3 ih
  | ins h1 h2 h3 h4 h5 ih => exact .ins (s _ _ h1) (s _ _ h2) h3 h4 ih
  | ref a => exact .ref a
  | ty n => exact .ty n
  | scr h1 h2 => exact .scr (s.seq h1) h2

/-- lists of values for lists of data -/
structure DRs (K : PySem.W.Frag) (I : Hp) (xs : List V) (ds : List D) : Prop where
  len : xs.length = ds.length
  at_ : ∀ (i : Nat) (x : V) (d : D), xs[i]? = some x → ds[i]? = some d → DR K I x d
section
variable {K : PySem.W.Frag} {I I' : Hp}
theorem DRs.mono (s : Same I I') {xs : List V} {ds : List D} (h : DRs K I xs ds) : DRs K I' xs ds := ⟨h.len, fun i x d a b => (h.at_ i x d a b).mono s⟩
theorem DRs.nil : DRs K I [] [] := ⟨rfl, fun i x d a => by simp at a⟩
theorem DRs.cons {x : V} {d : D} {xs : List V} {ds : List D} (h : DR K I x d) (t : DRs K I xs ds) : DRs K I (x :: xs) (d :: ds) := by
  refine ⟨by simp [t.len], fun i y e a b => ?_⟩
  cases i with
  | zero => simp at a b; subst a; subst b; exact h
  | succ i => exact t.at_ i y e (by simpa using a) (by simpa using b)
theorem DRs.head {x : V} {d : D} {xs : List V} {ds : List D} (h : DRs K I (x :: xs) (d :: ds)) : DR K I x d := h.at_ 0 x d rfl rfl
theorem DRs.tail {x : V} {d : D} {xs : List V} {ds : List D} (h : DRs K I (x :: xs) (d :: ds)) : DRs K I xs ds :=
  ⟨by have := h.len; simpa using this, fun i y e a b => h.at_ (i + 1) y e (by simpa using a) (by simpa using b)⟩
theorem DRs.get {xs : List V} {ds : List D} (h : DRs K I xs ds) {i : Nat} {d : D} (e : ds[i]? = some d) : ∃ x, xs[i]? = some x ∧ DR K I x d := by
  have hi := (List.getElem?_eq_some_iff.mp e).1
  have hi' : i < xs.length := by rw [h.len]; exact hi
  exact ⟨xs[i], List.getElem?_eq_getElem hi', h.at_ i _ _ (List.getElem?_eq_getElem hi') e⟩
theorem DRs.getV {xs : List V} {ds : List D} (h : DRs K I xs ds) {i : Nat} {x : V} (e : xs[i]? = some x) : ∃ d, ds[i]? = some d ∧ DR K I x d := by
  have hi := (List.getElem?_eq_some_iff.mp e).1
  have hi' : i < ds.length := by rw [← h.len]; exact hi
  exact ⟨ds[i], List.getElem?_eq_getElem hi', h.at_ i _ _ e (List.getElem?_eq_getElem hi')⟩
theorem DRs.append {xs ys : List V} {ds es : List D} (h : DRs K I xs ds) (g : DRs K I ys es) : DRs K I (xs ++ ys) (ds ++ es) := by
  refine ⟨by simp [h.len, g.len], fun i x d a b => ?_⟩
  by_cases hi : i < xs.length
  · rw [List.getElem?_append_left hi] at a
    rw [List.getElem?_append_left (by rw [← h.len]; exact hi)] at b
    exact h.at_ i x d a b
  · rw [List.getElem?_append_right (by omega)] at a
    rw [List.getElem?_append_right (by rw [← h.len]; omega), ← h.len] at b
    exact g.at_ _ x d a b
theorem DRs.set {xs : List V} {ds : List D} (h : DRs K I xs ds) {x : V} {d : D} (g : DR K I x d) (i : Nat) : DRs K I (xs.set i x) (ds.set i d) := by
  refine ⟨by simp [h.len], fun j y e a b => ?_⟩
  by_cases hj : i = j
  · subst hj
    by_cases hl : i < xs.length
    · rw [List.getElem?_set_self hl] at a
      rw [List.getElem?_set_self (by rw [← h.len]; exact hl)] at b
      cases a; cases b; exact g
    · rw [List.getElem?_eq_none (by simpa using Nat.le_of_not_lt hl)] at a; cases a
  · rw [List.getElem?_set_ne hj] at a b
    exact h.at_ j y e a b
theorem DRs.take {xs : List V} {ds : List D} (h : DRs K I xs ds) (n : Nat) : DRs K I (xs.take n) (ds.take n) := by
  refine ⟨by simp [h.len], fun i x d a b => ?_⟩
  by_cases hi : i < n
  · rw [List.getElem?_take_of_lt hi] at a b
    exact h.at_ i x d a b
  · rw [List.getElem?_eq_none (by rw [List.length_take]; omega)] at a; cases a
theorem DRs.drop {xs : List V} {ds : List D} (h : DRs K I xs ds) (n : Nat) : DRs K I (xs.drop n) (ds.drop n) := by
  refine ⟨by simp [h.len], fun i x d a b => ?_⟩
  rw [List.getElem?_drop] at a b
  exact h.at_ _ x d a b
theorem DRs.reverse {xs : List V} {ds : List D} (h : DRs K I xs ds) : DRs K I xs.reverse ds.reverse := by
  refine ⟨by simp [h.len], fun i x d a b => ?_⟩
  have hi := (List.getElem?_eq_some_iff.mp a).1
  rw [List.length_reverse] at hi
  rw [List.getElem?_reverse hi] at a
  rw [List.getElem?_reverse (by rw [← h.len]; exact hi), ← h.len] at b
  exact h.at_ _ x d a b
theorem DRs.rep {xs : List V} {ds : List D} (h : DRs K I xs ds) : ∀ n : Nat, DRs K I (List.replicate n xs).flatten (List.replicate n ds).flatten
  | 0 => DRs.nil
  | n + 1 => by
    rw [List.replicate_succ, List.replicate_succ, List.flatten_cons, List.flatten_cons]
    exact h.append (DRs.rep h n)
theorem DRs.ofMap {α : Type} {f : α → V} {g : α → D} {l : List α} (h : ∀ a ∈ l, DR K I (f a) (g a)) : DRs K I (l.map f) (l.map g) := by
  refine ⟨by simp, fun i x d a b => ?_⟩
  rw [List.getElem?_map] at a b
  cases e : l[i]? with
  | none => rw [e] at a; cases a
  | some z => rw [e] at a b; cases a; cases b; exact h z (List.mem_of_getElem? e)
theorem DR.lst_inv {v : V} {ds : List D} (h : DR K I v (.lst ds)) : ∃ a xs, v = .ref a ∧ I a = some (.lst xs) ∧ xs.length ≤ sizeLine ∧ DRs K I xs ds := by
  cases h with
  | lst h1 h2 h3 h4 => exact ⟨_, _, rfl, h1, h2, h3, h4⟩
theorem DR.tup_inv {v : V} {ds : List D} (h : DR K I v (.tup ds)) : ∃ a xs, v = .ref a ∧ SqT K I a xs ∧ xs.length ≤ sizeLine ∧ DRs K I xs ds := by
  cases h with
  | tup h1 h2 h3 h4 => exact ⟨_, _, rfl, h1, h2, h3, h4⟩
theorem DR.int_inv {v : V} {i : Int} (h : DR K I v (.int i)) : v = .int i := by cases h; rfl
theorem DR.bl_inv {v : V} {i : Bool} (h : DR K I v (.bl i)) : v = .bl i := by cases h; rfl
theorem DR.non_inv {v : V} (h : DR K I v .non) : v = .non := by cases h; rfl
theorem DR.str_inv {v : V} {i : Str} (h : DR K I v (.str i)) : v = .str i ∧ i.length ≤ sizeLine := by cases h; exact ⟨rfl, by assumption⟩
theorem DR.ref_inv {v : V} {i : Addr} (h : DR K I v (.ref i)) : v = .ref i := by cases h; rfl
end

/-! ### what may change -/
inductive MO where
  | lst (ds : List D)
  | ins (C : Addr) (fs : List (Str × D))
abbrev Mem := Addr → Option MO
def mset (M : Mem) (a : Addr) (o : MO) : Mem := fun b => if b = a then some o else M b
def mdel (M : Mem) (a : Addr) : Mem := fun b => if b = a then none else M b
theorem mset_same {M : Mem} {a : Addr} {o : MO} : mset M a o a = some o := by unfold mset; rw [if_pos rfl]
theorem mset_ne {M : Mem} {a b : Addr} {o : MO} (h : b ≠ a) : mset M a o b = M b := by unfold mset; rw [if_neg h]
theorem mset_mset {M : Mem} {a : Addr} {o u : MO} : mset (mset M a o) a u = mset M a u := by
  funext b; unfold mset; split <;> rfl
theorem mdel_mset {M : Mem} {a : Addr} {o : MO} (h : M a = none) : mdel (mset M a o) a = M := by
  funext b; unfold mdel mset
  by_cases hb : b = a
  · rw [if_pos hb, hb, h]
  · rw [if_neg hb, if_neg hb]
theorem mdel_ne {M : Mem} {a b : Addr} (h : b ≠ a) : mdel M a b = M b := by unfold mdel; rw [if_neg h]
theorem mset_comm {M : Mem} {a b : Addr} {o u : MO} (h : a ≠ b) : mset (mset M a o) b u = mset (mset M b u) a o := by
  funext c; unfold mset
  by_cases h1 : c = b
  · subst h1
    rw [if_pos rfl, if_neg (Ne.symm h), if_pos rfl]
  · rw [if_neg h1]
    by_cases h2 : c = a
    · rw [if_pos h2, if_pos h2]
    · rw [if_neg h2, if_neg h2, if_neg h1]
theorem mset_self {M : Mem} {a : Addr} {o : MO} (h : M a = some o) : mset M a o = M := by
  funext c; unfold mset
  by_cases h1 : c = a
  · rw [if_pos h1, h1, h]
  · rw [if_neg h1]

/-- the fields of an object -/
structure DRf (K : PySem.W.Frag) (I : Hp) (fv : List (Str × V)) (fs : List (Str × D)) : Prop where
  len : fv.length = fs.length
  at_ : ∀ (i : Nat) (x : Str × V) (d : Str × D), fv[i]? = some x → fs[i]? = some d → x.1 = d.1 ∧ DR K I x.2 d.2
def MR (K : PySem.W.Frag) (I H : Hp) (b : Addr) : MO → Prop
  | .lst ds => ∃ xs, H b = some (.lst xs) ∧ xs.length ≤ sizeLine ∧ DRs K I xs ds
  | .ins C fs => ∃ dx fv, H b = some (.ins C dx fv) ∧ I dx = some (.own b) ∧ DRf K I fv fs
/-- the heap H: a still part I, a part F out of sight, and what may change -/
structure Rep (K : PySem.W.Frag) (I F : Hp) (M : Mem) (H : Hp) : Prop where
  sub : Same I H
  frm : Same F H
  dis : ∀ b o, F b = some o → I b = none ∧ M b = none
  mem : ∀ b o, M b = some o → I b = none ∧ MR K I H b o
section
variable {K : PySem.W.Frag} {I I' F H H' : Hp} {M : Mem} {p : Addr}
theorem DRf.mono (s : Same I I') {xs : List (Str × V)} {ds : List (Str × D)} (h : DRf K I xs ds) : DRf K I' xs ds := ⟨h.len, fun i x d a b => ⟨(h.at_ i x d a b).1, (h.at_ i x d a b).2.mono s⟩⟩
theorem MR.there {b : Addr} {o : MO} (h : MR K I H b o) : ∃ u, H b = some u := by
  cases o with
  | lst ds => obtain ⟨_, e, _⟩ := h; exact ⟨_, e⟩
  | ins C fs => obtain ⟨_, _, e, _⟩ := h; exact ⟨_, e⟩
theorem MR.move {b : Addr} {o : MO} (h : MR K I H b o) (s : Same I I') (e : H' b = H b) : MR K I' H' b o := by
  cases o with
  | lst ds => obtain ⟨xs, e1, z, r⟩ := h; exact ⟨xs, e.trans e1, z, r.mono s⟩
  | ins C fs => obtain ⟨dx, fv, e1, z, r⟩ := h; exact ⟨dx, fv, e.trans e1, s _ _ z, r.mono s⟩
theorem Rep.freeI (r : Rep K I F M H) (h : H p = none) : I p = none := Same.free r.sub h
theorem Rep.freeF (r : Rep K I F M H) (h : H p = none) : F p = none := Same.free r.frm h
theorem Rep.freeM (r : Rep K I F M H) (h : H p = none) : M p = none := by
  cases e : M p with
  | none => rfl
  | some o =>
    obtain ⟨u, hu⟩ := (r.mem p o e).2.there
    rw [h] at hu; cases hu
theorem Rep.noF (r : Rep K I F M H) {o : MO} (h : M p = some o) : F p = none := by
  cases e : F p with
  | none => rfl
  | some u =>
    have := (r.dis p u e).2
    rw [h] at this; cases this
theorem same_new {H : Hp} {p : Addr} {o : HO} (h : H p = none) : Same H (upd H p o) := fun b x e => by
  rw [upd_ne (ne_of_none e h)]
  exact e
/-- a new still object -/
theorem Rep.still (r : Rep K I F M H) (h : H p = none) (o : HO) : Rep K (upd I p o) F M (upd H p o) := by
  refine ⟨fun b u e => ?_, fun b u e => ?_, fun b u e => ?_, fun b u e => ?_⟩
  · by_cases hb : b = p
    · subst hb; rw [upd_same] at e ⊢; exact e
    · rw [upd_ne hb] at e ⊢; exact r.sub b u e
  · rw [upd_ne (ne_of_none (r.frm b u e) h)]; exact r.frm b u e
  · obtain ⟨h1, h2⟩ := r.dis b u e
    exact ⟨by rw [upd_ne (ne_of_none (r.frm b u e) h)]; exact h1, h2⟩
  · obtain ⟨h1, h2⟩ := r.mem b u e
    have hb : b ≠ p := fun z => by subst z; rw [r.freeM h] at e; cases e
    exact ⟨by rw [upd_ne hb]; exact h1, h2.move (same_new (r.freeI h)) (upd_ne hb)⟩
/-- a new list that may change -/
theorem Rep.newL (r : Rep K I F M H) (h : H p = none) {xs : List V} {ds : List D} (hz : xs.length ≤ sizeLine) (hd : DRs K I xs ds) : Rep K I F (mset M p (.lst ds)) (upd H p (.lst xs)) := by
  refine ⟨fun b u e => ?_, fun b u e => ?_, fun b u e => ?_, fun b u e => ?_⟩
  · rw [upd_ne (ne_of_none (r.sub b u e) h)]; exact r.sub b u e
  · rw [upd_ne (ne_of_none (r.frm b u e) h)]; exact r.frm b u e
  · obtain ⟨h1, h2⟩ := r.dis b u e
    exact ⟨h1, by rw [mset_ne (ne_of_none (r.frm b u e) h)]; exact h2⟩
  · by_cases hb : b = p
    · subst hb
      rw [mset_same] at e; cases e
      exact ⟨r.freeI h, xs, upd_same, hz, hd⟩
    · rw [mset_ne hb] at e
      obtain ⟨h1, h2⟩ := r.mem b u e
      exact ⟨h1, h2.move (Same.refl I) (upd_ne hb)⟩
/-- what may change does -/
theorem Rep.change (r : Rep K I F M H) {o o' : MO} (h : M p = some o) {u : HO} (hn : MR K I (upd H p u) p o') : Rep K I F (mset M p o') (upd H p u) := by
  obtain ⟨hI, _⟩ := r.mem p _ h
  have hF := r.noF h
  refine ⟨fun b u e => ?_, fun b u e => ?_, fun b u e => ?_, fun b u e => ?_⟩
  · rw [upd_ne (ne_of_none e hI)]; exact r.sub b u e
  · rw [upd_ne (ne_of_none e hF)]; exact r.frm b u e
  · obtain ⟨h1, h2⟩ := r.dis b u e
    exact ⟨h1, by rw [mset_ne (ne_of_none e hF)]; exact h2⟩
  · by_cases hb : b = p
    · subst hb
      rw [mset_same] at e; cases e
      exact ⟨hI, hn⟩
    · rw [mset_ne hb] at e
      obtain ⟨h1, h2⟩ := r.mem b u e
      exact ⟨h1, h2.move (Same.refl I) (upd_ne hb)⟩
theorem Rep.setL (r : Rep K I F M H) {o : MO} {es : List D} (h : M p = some o) {xs : List V} (hz : xs.length ≤ sizeLine) (hd : DRs K I xs es) : Rep K I F (mset M p (.lst es)) (upd H p (.lst xs)) :=
  r.change h ⟨xs, upd_same, hz, hd⟩
theorem mdel_same {M : Mem} {a : Addr} : mdel M a a = none := by unfold mdel; rw [if_pos rfl]
/-- what was to change is from here on still -/
theorem Rep.frz (r : Rep K I F M H) {o : MO} (h : M p = some o) {u : HO} (hu : H p = some u) : Rep K (upd I p u) F (mdel M p) H ∧ Same I (upd I p u) := by
  obtain ⟨hI, _⟩ := r.mem p _ h
  have hF := r.noF h
  have s : Same I (upd I p u) := same_new hI
  refine ⟨⟨fun b u e => ?_, r.frm, fun b u e => ?_, fun b u e => ?_⟩, s⟩
  · by_cases hb : b = p
    · subst hb; rw [upd_same] at e; cases e; exact hu
    · rw [upd_ne hb] at e; exact r.sub b u e
  · obtain ⟨h1, h2⟩ := r.dis b u e
    have hb : b ≠ p := ne_of_none e hF
    exact ⟨by rw [upd_ne hb]; exact h1, by rw [mdel_ne hb]; exact h2⟩
  · by_cases hb : b = p
    · subst hb; rw [mdel_same] at e; cases e
    · rw [mdel_ne hb] at e
      obtain ⟨h1, h2⟩ := r.mem b u e
      exact ⟨by rw [upd_ne hb]; exact h1, h2.move s rfl⟩
theorem Rep.frzL (r : Rep K I F M H) {ds : List D} (h : M p = some (.lst ds)) : ∃ I', Rep K I' F (mdel M p) H ∧ Same I I' ∧ DR K I' (.ref p) (.lst ds) := by
  obtain ⟨hI, xs, hx, hz, hd⟩ := r.mem p _ h
  obtain ⟨h1, s⟩ := r.frz h hx
  exact ⟨_, h1, s, .lst upd_same hz hd.len fun i x d a b => (hd.at_ i x d a b).mono s⟩
theorem Rep.frzO (r : Rep K I F M H) {C : Addr} {fs : List (Str × D)} (h : M p = some (.ins C fs)) : ∃ I', Rep K I' F (mdel M p) H ∧ Same I I' ∧ DR K I' (.ref p) (.ins C fs) := by
  obtain ⟨hI, dx, fv, hx, hdx, hd⟩ := r.mem p _ h
  obtain ⟨h1, s⟩ := r.frz h hx
  exact ⟨_, h1, s, .ins upd_same (s _ _ hdx) hd.len (fun i x d a b => (hd.at_ i x d a b).1) fun i x d a b => (hd.at_ i x d a b).2.mono s⟩
/-- a new list out of sight, changed, thrown open -/
theorem Rep.hide (r : Rep K I F M H) (h : H p = none) (o : HO) : Rep K I (upd F p o) M (upd H p o) := by
  refine ⟨fun b u e => ?_, fun b u e => ?_, fun b u e => ?_, fun b u e => ?_⟩
  · rw [upd_ne (ne_of_none (r.sub b u e) h)]; exact r.sub b u e
  · by_cases hb : b = p
    · subst hb; rw [upd_same] at e ⊢; exact e
    · rw [upd_ne hb] at e ⊢; exact r.frm b u e
  · by_cases hb : b = p
    · subst hb; exact ⟨r.freeI h, r.freeM h⟩
    · rw [upd_ne hb] at e; exact r.dis b u e
  · obtain ⟨h1, h2⟩ := r.mem b u e
    have hb : b ≠ p := fun z => by subst z; rw [r.freeM h] at e; cases e
    exact ⟨h1, h2.move (Same.refl I) (upd_ne hb)⟩
theorem Rep.rehide {o u : HO} (r : Rep K I (upd F p o) M H) : Rep K I (upd F p u) M (upd H p u) := by
  obtain ⟨hI, hM⟩ := r.dis p o upd_same
  refine ⟨fun b u e => ?_, fun b u e => ?_, fun b u e => ?_, fun b u e => ?_⟩
  · rw [upd_ne (ne_of_none e hI)]; exact r.sub b u e
  · by_cases hb : b = p
    · subst hb; rw [upd_same] at e ⊢; exact e
    · rw [upd_ne hb] at e ⊢; exact r.frm b u (by rw [upd_ne hb]; exact e)
  · by_cases hb : b = p
    · subst hb; exact ⟨hI, hM⟩
    · rw [upd_ne hb] at e; exact r.dis b u (by rw [upd_ne hb]; exact e)
  · obtain ⟨h1, h2⟩ := r.mem b u e
    have hb : b ≠ p := fun z => by subst z; rw [hM] at e; cases e
    exact ⟨h1, h2.move (Same.refl I) (upd_ne hb)⟩
theorem Rep.unhide {o : HO} (r : Rep K I (upd F p o) M H) (hF : F p = none) : Rep K (upd I p o) F M H ∧ Same I (upd I p o) := by
  obtain ⟨hI, hM⟩ := r.dis p o upd_same
  have s : Same I (upd I p o) := same_new hI
  refine ⟨⟨fun b u e => ?_, fun b u e => ?_, fun b u e => ?_, fun b u e => ?_⟩, s⟩
  · by_cases hb : b = p
    · subst hb; rw [upd_same] at e; cases e; exact r.frm _ _ upd_same
    · rw [upd_ne hb] at e; exact r.sub b u e
  · exact r.frm b u (by rw [upd_ne (ne_of_none e hF)]; exact e)
  · have hb : b ≠ p := ne_of_none e hF
    obtain ⟨h1, h2⟩ := r.dis b u (by rw [upd_ne hb]; exact e)
    exact ⟨by rw [upd_ne hb]; exact h1, h2⟩
  · obtain ⟨h1, h2⟩ := r.mem b u e
    have hb : b ≠ p := fun z => by subst z; rw [hM] at e; cases e
    exact ⟨by rw [upd_ne hb]; exact h1, h2.move s rfl⟩
/-- a new still list, tuple -/
theorem DR.newL {xs : List V} {ds : List D} (hI : I p = none) (hz : xs.length ≤ sizeLine) (hd : DRs K I xs ds) : DR K (upd I p (.lst xs)) (.ref p) (.lst ds) :=
  .lst upd_same hz hd.len fun i x d a b => (hd.at_ i x d a b).mono (same_new hI)
theorem DR.newT {xs : List V} {ds : List D} (hI : I p = none) (hz : xs.length ≤ sizeLine) (hd : DRs K I xs ds) : DR K (upd I p (.tup xs)) (.ref p) (.tup ds) :=
  .tup (.inl (.inl upd_same)) hz hd.len fun i x d a b => (hd.at_ i x d a b).mono (same_new hI)
end

/-! ### the slots -/
abbrev DEnv := List (Option D)
def nth : DEnv → Nat → Option D
  | [], _ => none
  | o :: _, 0 => o
  | _ :: r, i + 1 => nth r i
def est : DEnv → Nat → Option D → DEnv
  | [], _, _ => []
  | _ :: r, 0, d => d :: r
  | o :: r, i + 1, d => o :: est r i d
def ewipe : DEnv → List Nat → DEnv
  | E, [] => E
  | E, v :: vs => est (ewipe E vs) v none
structure ER (K : PySem.W.Frag) (I : Hp) (σ : L2.St) (E : DEnv) : Prop where
  len : σ.length = E.length
  at_ : ∀ i d, nth E i = some d → ∃ v, σ[i]? = some (some v) ∧ DR K I v d
theorem est_len : ∀ (E : DEnv) (i : Nat) (d : Option D), (est E i d).length = E.length
  | [], _, _ => rfl
  | _ :: _, 0, _ => rfl
  | _ :: r, i + 1, d => by show (est r i d).length + 1 = r.length + 1; rw [est_len r i d]
theorem nth_est_ne : ∀ (E : DEnv) (i j : Nat) (d : Option D), j ≠ i → nth (est E i d) j = nth E j
  | [], _, _, _, _ => rfl
  | _ :: _, 0, 0, _, h => absurd rfl h
  | _ :: _, 0, j + 1, _, _ => rfl
  | _ :: _, i + 1, 0, _, _ => rfl
  | _ :: r, i + 1, j + 1, d, h => nth_est_ne r i j d (fun e => h (by rw [e]))
theorem nth_est_same : ∀ (E : DEnv) (i : Nat) (d : Option D), i < E.length → nth (est E i d) i = d
  | [], _, _, h => absurd h (by simp)
  | _ :: _, 0, _, _ => rfl
  | _ :: r, i + 1, d, h => nth_est_same r i d (by simpa using h)
theorem nth_lt : ∀ {E : DEnv} {i : Nat} {d : D}, nth E i = some d → i < E.length
  | [], _, _, h => by cases h
  | _ :: _, 0, _, _ => by simp
  | _ :: r, i + 1, d, h => by have := nth_lt (E := r) (i := i) h; simpa using this
section
variable {K : PySem.W.Frag} {I I' : Hp} {σ : L2.St} {E : DEnv}
theorem ER.mono (s : Same I I') (h : ER K I σ E) : ER K I' σ E := ⟨h.len, fun i d e => let ⟨v, a, b⟩ := h.at_ i d e; ⟨v, a, b.mono s⟩⟩
theorem ER.set (h : ER K I σ E) {v : V} {d : D} (r : DR K I v d) (i : Nat) : ER K I (σ.set i (some v)) (est E i (some d)) := by
  refine ⟨by rw [List.length_set, est_len, h.len], fun j e he => ?_⟩
  by_cases hj : j = i
  · subst hj
    have hl := nth_lt he
    rw [est_len] at hl
    rw [nth_est_same _ _ _ hl] at he
    cases he
    exact ⟨v, List.getElem?_set_self (by rw [h.len]; exact hl), r⟩
  · rw [nth_est_ne _ _ _ _ hj] at he
    obtain ⟨w, a, b⟩ := h.at_ j e he
    exact ⟨w, by rw [List.getElem?_set_ne (Ne.symm hj)]; exact a, b⟩
theorem ER.drop1 (h : ER K I σ E) (o : Option V) (i : Nat) : ER K I (σ.set i o) (est E i none) := by
  refine ⟨by rw [List.length_set, est_len, h.len], fun j e he => ?_⟩
  by_cases hj : j = i
  · subst hj
    have hl := nth_lt he
    rw [est_len] at hl
    rw [nth_est_same _ _ _ hl] at he
    cases he
  · rw [nth_est_ne _ _ _ _ hj] at he
    obtain ⟨w, a, b⟩ := h.at_ j e he
    exact ⟨w, by rw [List.getElem?_set_ne (Ne.symm hj)]; exact a, b⟩
theorem ER.wipe (h : ER K I σ E) : ∀ vs : List Nat, ER K I (L2.wipe σ vs) (ewipe E vs)
  | [] => h
  | v :: vs => (ER.wipe h vs).drop1 none v
end
end Qd
namespace Qd
open PySem PySem.Spec PyProof.Rows L2

/-! ### readings over data -/
abbrev DK := D → Mem → Prop
abbrev DE := DEnv → Mem → DK → Prop
abbrev DT := DEnv → Mem → (Bool → Mem → Prop) → Prop
abbrev DA := DEnv → Mem → (List D → Mem → Prop) → Prop
def SE (K : PySem.W.Frag) (te : TE) (de : DE) : Prop := ∀ (E : DEnv) (M : Mem) (k : DK) (σ : L2.St) (I F H : Hp) (Q : VK), de E M k → ER K I σ E → Rep K I F M H →
  (∀ d M' v I' H', k d M' → Rep K I' F M' H' → Same I I' → DR K I' v d → Q v H') → te σ H Q
def ST (K : PySem.W.Frag) (tt : TT) (dt : DT) : Prop := ∀ (E : DEnv) (M : Mem) (k : Bool → Mem → Prop) (σ : L2.St) (I F H : Hp) (Q : Bool → Hp → Prop), dt E M k → ER K I σ E → Rep K I F M H →
  (∀ b M' I' H', k b M' → Rep K I' F M' H' → Same I I' → Q b H') → tt σ H Q
def SA (K : PySem.W.Frag) (n : Nat) (ta : TA) (da : DA) : Prop := ∀ (E : DEnv) (M : Mem) (k : List D → Mem → Prop) (σ : L2.St) (I F H : Hp) (Q : List V → Hp → Prop), da E M k → ER K I σ E → Rep K I F M H →
  (∀ ds M' vs I' H', ds.length = n → k ds M' → Rep K I' F M' H' → Same I I' → DRs K I' vs ds → Q vs H') → ta σ H Q
structure QE (X : Cx) (e : Expr) (te : TE) (de : DE) : Prop where
  pe : PE X e te
  sim : SE X.K te de
structure QT (X : Cx) (e : Expr) (tt : TT) (dt : DT) : Prop where
  pt : PT X e tt
  sim : ST X.K tt dt
structure QW (X : Cx) (e : Expr) (tt : TT) (dt : DT) : Prop where
  pw : PW X e tt
  sim : ST X.K tt dt
structure QA (X : Cx) (es : List Expr) (ta : TA) (da : DA) : Prop where
  pa : PA X es ta
  sim : SA X.K es.length ta da
/-- rules by values -/
def R2S (K : PySem.W.Frag) (r : R2) (r' : D → D → Mem → DK → Prop) : Prop := ∀ (x y : V) (a b : D) (M : Mem) (k : DK) (I F H : Hp) (Q : VK), r' a b M k → DR K I x a → DR K I y b → Rep K I F M H →
  (∀ d M' v I' H', k d M' → Rep K I' F M' H' → Same I I' → DR K I' v d → Q v H') → r x y H Q
def R1S (K : PySem.W.Frag) (r : V → Hp → VK → Prop) (r' : D → Mem → DK → Prop) : Prop := ∀ (x : V) (a : D) (M : Mem) (k : DK) (I F H : Hp) (Q : VK), r' a M k → DR K I x a → Rep K I F M H →
  (∀ d M' v I' H', k d M' → Rep K I' F M' H' → Same I I' → DR K I' v d → Q v H') → r x H Q
def RNS (K : PySem.W.Frag) (r : List V → Hp → VK → Prop) (r' : List D → Mem → DK → Prop) : Prop := ∀ (xs : List V) (as : List D) (M : Mem) (k : DK) (I F H : Hp) (Q : VK), r' as M k → DRs K I xs as → Rep K I F M H →
  (∀ d M' v I' H', k d M' → Rep K I' F M' H' → Same I I' → DR K I' v d → Q v H') → r xs H Q
structure QO (X : Cx) (f : Value → Value → Sem Value) (r : R2) (r' : D → D → Mem → DK → Prop) : Prop where
  op : OpR X f r
  sim : R2S X.K r r'
structure QU (X : Cx) (f : Value → Sem Value) (r : V → Hp → VK → Prop) (r' : D → Mem → DK → Prop) : Prop where
  op : UnR X f r
  sim : R1S X.K r r'
structure QC (X : Cx) (f : Value) (r : List V → Hp → VK → Prop) (r' : List D → Mem → DK → Prop) : Prop where
  op : CallR X f r
  sim : RNS X.K r r'
structure QX (X : Cx) (r : R2) (r' : D → D → Mem → DK → Prop) : Prop where
  op : IxR X r
  sim : R2S X.K r r'

def dVar (i : Nat) : DE := fun E M k => match nth E i with
  | some d => k d M
  | none => False
def dC (d : D) : DE := fun _ M k => k d M
def dOp (r : D → D → Mem → DK → Prop) (da db : DE) : DE := fun E M k => da E M fun x M1 => db E M1 fun y M2 => r x y M2 k
def dUn (r : D → Mem → DK → Prop) (da : DE) : DE := fun E M k => da E M fun x M1 => r x M1 k
def dTest (de : DE) : DT := fun E M k => de E M fun d M1 => match d with
  | .bl b => k b M1
  | _ => False
def dAnd (a b : DT) : DT := fun E M k => a E M fun c M1 => match c with
  | true => b E M1 k
  | false => k false M1
def dOr (a b : DT) : DT := fun E M k => a E M fun c M1 => match c with
  | true => k true M1
  | false => b E M1 k
def dNot (a : DT) : DT := fun E M k => a E M fun c M1 => k (!c) M1
def dAndV (a b : DE) : DE := fun E M k => a E M fun c M1 => match c with
  | .bl true => b E M1 k
  | .bl false => k (.bl false) M1
  | _ => False
def dOrV (a b : DE) : DE := fun E M k => a E M fun c M1 => match c with
  | .bl true => k (.bl true) M1
  | .bl false => b E M1 k
  | _ => False
def dNotV (a : DE) : DE := fun E M k => a E M fun c M1 => match c with
  | .bl b => k (.bl (!b)) M1
  | _ => False
def dIf (t : DT) (a b : DE) : DE := fun E M k => t E M fun c M1 => match c with
  | true => a E M1 k
  | false => b E M1 k
def dNil : DA := fun _ M k => k [] M
def dCons (a : DE) (r : DA) : DA := fun E M k => a E M fun x M1 => r E M1 fun xs M2 => k (x :: xs) M2
def dTup (a : DA) : DE := fun E M k => a E M fun ds M1 => k (.tup ds) M1
def dLst (a : DA) : DE := fun E M k => a E M fun ds M1 => k (.lst ds) M1
/-- a new list that will change -/
def dLstM (a : DA) : DE := fun E M k => a E M fun ds M1 => ∀ p, M1 p = none → k (.ref p) (mset M1 p (.lst ds))
def dChain (r r' : D → D → Mem → DK → Prop) (a b c : DE) : DE := fun E M k => a E M fun x M1 => b E M1 fun y M2 => r x y M2 fun z M3 => match z with
  | .bl true => c E M3 fun w M4 => r' y w M4 k
  | .bl false => k (.bl false) M3
  | _ => False
def dCB (r : List D → Mem → DK → Prop) (a : DA) : DE := fun E M k => a E M fun ds M1 => r ds M1 k

section
variable {X : Cx} {e a b c : Expr} {es : List Expr} {te ta tb tc : TE} {de da db dc : DE} {pos : Pos} {tt tu : TT} {dt du : DT} {tA : TA} {dA : DA}
variable {K : PySem.W.Frag}
theorem qv (i : Nat) {x : Str} (hN : X.N[i]? = some x := by rfl) (hv : Vis X.env.scope x := by first | exact Or.inl rfl | exact Or.inr (Or.inl rfl) | exact Or.inr (Or.inr rfl)) (hd : (x == ("__debug__" : Str)) = false := by decide)
    (hcd : (x == ("__classdict__" : Str)) = false := by decide) : QE X (.Name x pos) (tVar i) (dVar i) := by
  refine ⟨pe_var hN hv hd hcd, fun E M k σ I F H Q h er rp kk => ?_⟩
  unfold dVar at h
  cases q : nth E i with
  | none => rw [q] at h; exact h.elim
  | some d =>
    rw [q] at h
    obtain ⟨v, a1, a2⟩ := er.at_ i d q
    exact ⟨v, a1, kk d M v I H h rp (Same.refl I) a2⟩
theorem se_c {v : V} {d : D} (h : ∀ K I, DR K I v d) : SE K (tC v) (dC d) := fun E M k σ I F H Q hk er rp kk => kk d M v I H hk rp (Same.refl I) (h _ _)
theorem qi {i j} : QE X (.Constant (.int i) j pos) (tC (.int i)) (dC (.int i)) := ⟨pe_int, se_c fun _ _ => .int i⟩
theorem qb {i j} : QE X (.Constant (.bool i) j pos) (tC (.bl i)) (dC (.bl i)) := ⟨pe_bl, se_c fun _ _ => .bl i⟩
theorem qn {j} : QE X (.Constant .none j pos) (tC .non) (dC .non) := ⟨pe_non, se_c fun _ _ => .non⟩
theorem qs {x : String} {j} (h : (Str.ofString x).length ≤ 1000 := by decide +kernel) : QE X (.Constant (.str x) j pos) (tC (.str x)) (dC (.str x)) := ⟨pe_str, se_c fun _ _ => .str x (Nat.le_trans h (by decide))⟩
/-- a module's constant -/
theorem qg {x : Str} {v : V} {d : D} {u : Value} (hg : Gl X x := by rfl) (hm : X.mg x = some u) (r : RelV v u) (hd : ∀ K I, DR K I v d) (hdb : (x == ("__debug__" : Str)) = false := by decide) : QE X (.Name x pos) (tC v) (dC d) := ⟨pe_glob hg hm r hdb, se_c hd⟩
theorem qop {op : Operator} {r : R2} {r'} (ho : QO X (binaryOp op) r r') (ha : QE X a ta da) (hb : QE X b tb db) : QE X (.BinOp a op b pos) (tOp r ta tb) (dOp r' da db) := by
  refine ⟨pe_op ho.op ha.pe hb.pe, fun E M k σ I F H Q h er rp kk => ?_⟩
  refine ha.sim E M _ σ I F H _ h er rp fun x M1 v I1 H1 h1 rp1 s1 d1 => ?_
  refine hb.sim E M1 _ σ I1 F H1 _ h1 (er.mono s1) rp1 fun y M2 u I2 H2 h2 rp2 s2 d2 => ?_
  exact ho.sim v u x y M2 k I2 F H2 Q h2 (d1.mono s2) d2 rp2 fun d M' w I' H' q rp' s' d' => kk d M' w I' H' q rp' ((s1.trans s2).trans s') d'
theorem qun {op : UnaryOp} {r r'} (ho : QU X (unaryOp op) r r') (ha : QE X a ta da) : QE X (.UnaryOp op a pos) (tUn r ta) (dUn r' da) := by
  refine ⟨pe_un ho.op ha.pe, fun E M k σ I F H Q h er rp kk => ?_⟩
  refine ha.sim E M _ σ I F H _ h er rp fun x M1 v I1 H1 h1 rp1 s1 d1 => ?_
  exact ho.sim v x M1 k I1 F H1 Q h1 d1 rp1 fun d M' w I' H' q rp' s' d' => kk d M' w I' H' q rp' (s1.trans s') d'
theorem se_op {r r'} (ho : R2S K r r') (ha : SE K ta da) (hb : SE K tb db) : SE K (tOp r ta tb) (dOp r' da db) := by
  refine fun E M k σ I F H Q h er rp kk => ?_
  refine ha E M _ σ I F H _ h er rp fun x M1 v I1 H1 h1 rp1 s1 d1 => ?_
  refine hb E M1 _ σ I1 F H1 _ h1 (er.mono s1) rp1 fun y M2 u I2 H2 h2 rp2 s2 d2 => ?_
  exact ho v u x y M2 k I2 F H2 Q h2 (d1.mono s2) d2 rp2 fun d M' w I' H' q rp' s' d' => kk d M' w I' H' q rp' ((s1.trans s2).trans s') d'
theorem qcmp {op : CmpOp} {r : R2} {r'} (ho : QO X (compareOp op) r r') (ha : QE X a ta da) (hb : QE X b tb db) (hm : behindInMarks op b = false := by first | exact nomark _ | rfl) : QE X (.Compare a [op] [b] pos) (tOp r ta tb) (dOp r' da db) :=
  ⟨pe_cmpR ho.op ha.pe hb.pe hm, se_op ho.sim ha.sim hb.sim⟩
theorem qix {r : R2} {r'} (ho : QX X r r') (ha : QE X a ta da) (hb : QE X b tb db) (hs : PlainIx b := by intro _ _; rfl) : QE X (.Subscript a b pos) (tOp r ta tb) (dOp r' da db) :=
  ⟨pe_ix ho.op ha.pe hb.pe hs, se_op ho.sim ha.sim hb.sim⟩
theorem st_test (h : SE K te de) : ST K (tTest te) (dTest de) := fun E M k σ I F H Q hd er rp kk =>
  h E M _ σ I F H _ hd er rp fun d M' v I' H' q rp' s' d' => by
    cases d' with
    | bl b => exact ⟨b, rfl, kk b M' I' H' q rp' s'⟩
    | _ => exact q.elim
theorem qtcmp {op : CmpOp} {r : R2} {r'} (ho : QO X (compareOp op) r r') (ha : QE X a ta da) (hb : QE X b tb db) (hm : behindInMarks op b = false := by first | exact nomark _ | rfl) : QT X (.Compare a [op] [b] pos) (tTest (tOp r ta tb)) (dTest (dOp r' da db)) :=
  ⟨pt_cmpR ho.op ha.pe hb.pe hm, st_test (se_op ho.sim ha.sim hb.sim)⟩
theorem qtv (h : QE X e te de) (he : ∀ whole, isTrue e X.env whole = (do let v ← whole; standAt e.pos; holding [v] (truthy v)) := by intro _; rfl) : QT X e (tB te) (dTest de) :=
  ⟨pt_val h.pe he, st_test h.sim⟩
theorem st_and (h1 : ST K tt dt) (h2 : ST K tu du) : ST K (tAnd tt tu) (dAnd dt du) := fun E M k σ I F H Q hd er rp kk =>
  h1 E M _ σ I F H _ hd er rp fun b M1 I1 H1 q rp1 s1 => by
    cases b with
    | true => rw [if_pos rfl]; exact h2 E M1 k σ I1 F H1 Q q (er.mono s1) rp1 fun b M' I' H' q' rp' s' => kk b M' I' H' q' rp' (s1.trans s')
    | false => rw [if_neg Bool.false_ne_true]; exact kk false M1 I1 H1 q rp1 s1
theorem st_or (h1 : ST K tt dt) (h2 : ST K tu du) : ST K (tOr tt tu) (dOr dt du) := fun E M k σ I F H Q hd er rp kk =>
  h1 E M _ σ I F H _ hd er rp fun b M1 I1 H1 q rp1 s1 => by
    cases b with
    | false => rw [if_neg Bool.false_ne_true]; exact h2 E M1 k σ I1 F H1 Q q (er.mono s1) rp1 fun b M' I' H' q' rp' s' => kk b M' I' H' q' rp' (s1.trans s')
    | true => rw [if_pos rfl]; exact kk true M1 I1 H1 q rp1 s1
theorem QW.qt (h : QW X e tt dt) : QT X e tt dt := ⟨h.pw.pt, h.sim⟩
theorem qw_and1 (h : QT X a tt dt) : QW X (.BoolOp .And [a] pos) tt dt := ⟨pw_and1 h.pt, h.sim⟩
theorem qw_or1 (h : QT X a tt dt) : QW X (.BoolOp .Or [a] pos) tt dt := ⟨pw_or1 h.pt, h.sim⟩
theorem qw_and {rest : List Expr} (h : QT X a tt dt) (g : QW X (.BoolOp .And (b :: rest) pos) tu du) : QW X (.BoolOp .And (a :: b :: rest) pos) (tAnd tt tu) (dAnd dt du) := ⟨pw_and h.pt g.pw, st_and h.sim g.sim⟩
theorem qw_or {rest : List Expr} (h : QT X a tt dt) (g : QW X (.BoolOp .Or (b :: rest) pos) tu du) : QW X (.BoolOp .Or (a :: b :: rest) pos) (tOr tt tu) (dOr dt du) := ⟨pw_or h.pt g.pw, st_or h.sim g.sim⟩
theorem qt_not (h : QT X a tt dt) : QT X (.UnaryOp .Not a pos) (tNot tt) (dNot dt) := ⟨pt_not h.pt, fun E M k σ I F H Q hd er rp kk => h.sim E M _ σ I F H _ hd er rp fun b M1 I1 H1 q rp1 s1 => kk (!b) M1 I1 H1 q rp1 s1⟩
theorem qe_one {op} (h : QE X a ta da) : QE X (.BoolOp op [a] pos) ta da := ⟨pe_one h.pe, h.sim⟩
theorem qe_and {rest : List Expr} (h : QE X a ta da) (g : QE X (.BoolOp .And (b :: rest) pos) tb db) : QE X (.BoolOp .And (a :: b :: rest) pos) (tAndV ta tb) (dAndV da db) :=
  ⟨pe_and h.pe g.pe, fun E M k σ I F H Q hd er rp kk => h.sim E M _ σ I F H _ hd er rp fun d M1 v I1 H1 q rp1 s1 d1 => by
    cases d1 with
    | bl c =>
      cases c with
      | true => exact ⟨true, rfl, by rw [if_pos rfl]; exact g.sim E M1 k σ I1 F H1 Q q (er.mono s1) rp1 fun d M' v I' H' q' rp' s' d' => kk d M' v I' H' q' rp' (s1.trans s') d'⟩
      | false => exact ⟨false, rfl, by rw [if_neg Bool.false_ne_true]; exact kk _ M1 _ I1 H1 q rp1 s1 (.bl false)⟩
    | _ => exact q.elim⟩
theorem qe_or {rest : List Expr} (h : QE X a ta da) (g : QE X (.BoolOp .Or (b :: rest) pos) tb db) : QE X (.BoolOp .Or (a :: b :: rest) pos) (tOrV ta tb) (dOrV da db) :=
  ⟨pe_or h.pe g.pe, fun E M k σ I F H Q hd er rp kk => h.sim E M _ σ I F H _ hd er rp fun d M1 v I1 H1 q rp1 s1 d1 => by
    cases d1 with
    | bl c =>
      cases c with
      | false => exact ⟨false, rfl, by rw [if_neg Bool.false_ne_true]; exact g.sim E M1 k σ I1 F H1 Q q (er.mono s1) rp1 fun d M' v I' H' q' rp' s' d' => kk d M' v I' H' q' rp' (s1.trans s') d'⟩
      | true => exact ⟨true, rfl, by rw [if_pos rfl]; exact kk _ M1 _ I1 H1 q rp1 s1 (.bl true)⟩
    | _ => exact q.elim⟩
theorem qe_not (h : QE X a ta da) : QE X (.UnaryOp .Not a pos) (tNotV ta) (dNotV da) :=
  ⟨pe_not h.pe, fun E M k σ I F H Q hd er rp kk => h.sim E M _ σ I F H _ hd er rp fun d M1 v I1 H1 q rp1 s1 d1 => by
    cases d1 with
    | bl c => exact ⟨c, rfl, kk _ M1 _ I1 H1 q rp1 s1 (.bl (!c))⟩
    | _ => exact q.elim⟩
theorem qe_if (h : QT X c tt dt) (ha : QE X a ta da) (hb : QE X b tb db) : QE X (.IfExp c a b pos) (tIf tt ta tb) (dIf dt da db) :=
  ⟨pe_ifExp h.pt ha.pe hb.pe, fun E M k σ I F H Q hd er rp kk => h.sim E M _ σ I F H _ hd er rp fun b M1 I1 H1 q rp1 s1 => by
    cases b with
    | true => rw [if_pos rfl]; exact ha.sim E M1 k σ I1 F H1 Q q (er.mono s1) rp1 fun d M' v I' H' q' rp' s' d' => kk d M' v I' H' q' rp' (s1.trans s') d'
    | false => rw [if_neg Bool.false_ne_true]; exact hb.sim E M1 k σ I1 F H1 Q q (er.mono s1) rp1 fun d M' v I' H' q' rp' s' d' => kk d M' v I' H' q' rp' (s1.trans s') d'⟩
theorem qa_nil : QA X [] tNil dNil := ⟨pa_nil, fun E M k σ I F H Q h er rp kk => kk [] M [] I H rfl h rp (Same.refl I) DRs.nil⟩
theorem qa_cons (h : QE X e te de) (g : QA X es tA dA) (hs : starEach (e :: es) X.env = (false, eval e X.env) :: starEach es X.env := by rfl) : QA X (e :: es) (tCons te tA) (dCons de dA) :=
  ⟨pa_cons h.pe g.pa hs, fun E M k σ I F H Q hd er rp kk => h.sim E M _ σ I F H _ hd er rp fun d M1 v I1 H1 q rp1 s1 d1 =>
    g.sim E M1 _ σ I1 F H1 _ q (er.mono s1) rp1 fun ds M2 vs I2 H2 hl q2 rp2 s2 d2 => kk (d :: ds) M2 (v :: vs) I2 H2 (by rw [List.length_cons, List.length_cons, hl]) q2 rp2 (s1.trans s2) (.cons (d1.mono s2) d2)⟩
theorem small_line {n : Nat} (h : n ≤ 1000) : n ≤ sizeLine := Nat.le_trans h (by decide)
theorem qe_tup {x1} (h : QA X es tA dA) (hn : es.length ≤ 1000 := by decide) : QE X (.Tuple es x1 pos) (tTup tA) (dTup dA) :=
  ⟨pe_tup h.pa, fun E M k σ I F H Q hd er rp kk => h.sim E M _ σ I F H _ hd er rp fun ds M1 vs I1 H1 hl q rp1 s1 d1 =>
    ⟨by rw [d1.len, hl]; exact small_line hn, fun p hp => kk (.tup ds) M1 (.ref p) _ _ q (rp1.still hp _) (s1.trans (same_new (rp1.freeI hp))) (.newT (rp1.freeI hp) (by rw [d1.len, hl]; exact small_line hn) d1)⟩⟩
theorem qe_lst (h : QA X es tA dA) (hn : es.length ≤ 1000 := by decide) : QE X (.List es pos) (tLst tA) (dLst dA) :=
  ⟨pe_lst h.pa, fun E M k σ I F H Q hd er rp kk => h.sim E M _ σ I F H _ hd er rp fun ds M1 vs I1 H1 hl q rp1 s1 d1 =>
    ⟨by rw [d1.len, hl]; exact small_line hn, fun p hp => kk (.lst ds) M1 (.ref p) _ _ q (rp1.still hp _) (s1.trans (same_new (rp1.freeI hp))) (.newL (rp1.freeI hp) (by rw [d1.len, hl]; exact small_line hn) d1)⟩⟩
theorem qe_lstM (h : QA X es tA dA) (hn : es.length ≤ 1000 := by decide) : QE X (.List es pos) (tLst tA) (dLstM dA) :=
  ⟨pe_lst h.pa, fun E M k σ I F H Q hd er rp kk => h.sim E M _ σ I F H _ hd er rp fun ds M1 vs I1 H1 hl q rp1 s1 d1 =>
    ⟨by rw [d1.len, hl]; exact small_line hn, fun p hp => kk (.ref p) _ (.ref p) _ _ (q p (rp1.freeM hp)) (rp1.newL hp (by rw [d1.len, hl]; exact small_line hn) d1) s1 (.ref p)⟩⟩
theorem se_chain {r r' : R2} {g g'} (ho : R2S K r g) (ho' : R2S K r' g') (ha : SE K ta da) (hb : SE K tb db) (hc : SE K tc dc) : SE K (tChain r r' ta tb tc) (dChain g g' da db dc) := by
  refine fun E M k σ I F H Q h er rp kk => ?_
  refine ha E M _ σ I F H _ h er rp fun x M1 v I1 H1 h1 rp1 s1 d1 => ?_
  refine hb E M1 _ σ I1 F H1 _ h1 (er.mono s1) rp1 fun y M2 u I2 H2 h2 rp2 s2 d2 => ?_
  refine ho v u x y M2 _ I2 F H2 _ h2 (d1.mono s2) d2 rp2 fun z M3 w I3 H3 q rp3 s3 d3 => ?_
  cases d3 with
  | bl c =>
    cases c with
    | true =>
      refine ⟨true, rfl, ?_⟩
      rw [if_pos rfl]
      refine hc E M3 _ σ I3 F H3 _ q (((er.mono s1).mono s2).mono s3) rp3 fun z M4 w4 I4 H4 q4 rp4 s4 d4 => ?_
      exact ho' u w4 y z M4 k I4 F H4 Q q4 ((d2.mono s3).mono s4) d4 rp4 fun d M' w I' H' q rp' s' d' => kk d M' w I' H' q rp' ((((s1.trans s2).trans s3).trans s4).trans s') d'
    | false =>
      refine ⟨false, rfl, ?_⟩
      rw [if_neg Bool.false_ne_true]
      exact kk _ M3 _ I3 H3 q rp3 ((s1.trans s2).trans s3) (.bl false)
  | _ => exact q.elim
theorem qe_chain {op op' : CmpOp} {r r' : R2} {g g'} (ho : QO X (compareOp op) r g) (ho' : QO X (compareOp op') r' g') (ha : QE X a ta da) (hb : QE X b tb db) (hc : QE X c tc dc)
    (hm : lastMarks [op, op'] [b, c] = false := by with_unfolding_all rfl) : QE X (.Compare a [op, op'] [b, c] pos) (tChain r r' ta tb tc) (dChain g g' da db dc) :=
  ⟨pe_chain ho.op ho'.op ha.pe hb.pe hc.pe hm, se_chain ho.sim ho'.sim ha.sim hb.sim hc.sim⟩
theorem qt_chain {op op' : CmpOp} {r r' : R2} {g g'} (ho : QO X (compareOp op) r g) (ho' : QO X (compareOp op') r' g') (ha : QE X a ta da) (hb : QE X b tb db) (hc : QE X c tc dc)
    (hm : lastMarks [op, op'] [b, c] = false := by with_unfolding_all rfl) : QT X (.Compare a [op, op'] [b, c] pos) (tTest (tChain r r' ta tb tc)) (dTest (dChain g g' da db dc)) :=
  ⟨pt_chain ho.op ho'.op ha.pe hb.pe hc.pe hm, st_test (se_chain ho.sim ho'.sim ha.sim hb.sim hc.sim)⟩
theorem se_cb {r r'} (ho : RNS K r r') {n : Nat} (ha : SA K n tA dA) : SE K (tCB r tA) (dCB r' dA) := fun E M k σ I F H Q hd er rp kk =>
  ha E M _ σ I F H _ hd er rp fun ds M1 vs I1 H1 hl q rp1 s1 d1 => ho vs ds M1 k I1 F H1 Q q d1 rp1 fun d M' w I' H' q rp' s' d' => kk d M' w I' H' q rp' (s1.trans s') d'
theorem qe_bi {id : String} {r r'} {x : Str} {p : Pos} (hc : QC X (.builtin id) r r') (hg : Gl X x) (hm : X.mg x = none) (hv : bootBuiltins x = some (.builtin id)) (ha : QA X (e :: es) tA dA) (hn : x ≠ "__name__" := by decide) (hdb : (x == ("__debug__" : Str)) = false := by decide)
    (he : starEach (e :: es) X.env = (false, eval e X.env) :: starEach es X.env := by rfl) (hpl : (backTo pos (starEach es X.env)).any (·.1) = false := by rfl) : QE X (.Call (.Name x p) (e :: es) [] pos) (tCB r tA) (dCB r' dA) :=
  ⟨pe_callB hc.op hg hm hv ha.pa hn hdb he hpl, se_cb hc.sim ha.sim⟩
theorem qe_ty {T : String} {r r'} {x : Str} {p : Pos} (hc : QC X (.type T) r r') (hg : Gl X x) (hm : X.mg x = none) (hv : bootBuiltins x = some (.type T)) (ha : QA X (e :: es) tA dA) (hn : x ≠ "__name__" := by decide) (hdb : (x == ("__debug__" : Str)) = false := by decide)
    (he : starEach (e :: es) X.env = (false, eval e X.env) :: starEach es X.env := by rfl) (hpl : (backTo pos (starEach es X.env)).any (·.1) = false := by rfl) : QE X (.Call (.Name x p) (e :: es) [] pos) (tCB r tA) (dCB r' dA) :=
  ⟨pe_callTy hc.op hg hm hv ha.pa hn hdb he hpl, se_cb hc.sim ha.sim⟩
end
end Qd
namespace Qd
open PySem PySem.Spec PyProof.Rows L2

/-! ### statements over data -/
structure DEnds where
  nx : DEnv → Mem → Prop
  rt : D → Mem → Prop
  bk : DEnv → Mem → Prop := fun _ _ => False
  ct : DEnv → Mem → Prop := fun _ _ => False
abbrev DS := DEnds → DEnv → Mem → Prop
structure EOk (K : PySem.W.Frag) (I F : Hp) (De : DEnds) (Dv : Ends) : Prop where
  nx : ∀ E' M' σ' I' H', De.nx E' M' → ER K I' σ' E' → Rep K I' F M' H' → Same I I' → Dv.nx σ' H'
  rt : ∀ d M' v I' H', De.rt d M' → Rep K I' F M' H' → Same I I' → DR K I' v d → Dv.rt v H'
  bk : ∀ E' M' σ' I' H', De.bk E' M' → ER K I' σ' E' → Rep K I' F M' H' → Same I I' → Dv.bk σ' H'
  ct : ∀ E' M' σ' I' H', De.ct E' M' → ER K I' σ' E' → Rep K I' F M' H' → Same I I' → Dv.ct σ' H'
theorem EOk.mono {K : PySem.W.Frag} {I I1 F : Hp} {De : DEnds} {Dv : Ends} (h : EOk K I F De Dv) (s : Same I I1) : EOk K I1 F De Dv :=
  ⟨fun E' M' σ' I' H' a b c d => h.nx E' M' σ' I' H' a b c (s.trans d), fun d M' v I' H' a b c e => h.rt d M' v I' H' a b (s.trans c) e,
    fun E' M' σ' I' H' a b c d => h.bk E' M' σ' I' H' a b c (s.trans d), fun E' M' σ' I' H' a b c d => h.ct E' M' σ' I' H' a b c (s.trans d)⟩
def SS (K : PySem.W.Frag) (ts : TS) (ds : DS) : Prop := ∀ (De : DEnds) (E : DEnv) (M : Mem) (σ : L2.St) (I F H : Hp) (Dv : Ends), ds De E M → ER K I σ E → Rep K I F M H → EOk K I F De Dv → ts Dv σ H
structure QS (X : Cx) (st : Stmt) (ts : TS) (ds : DS) : Prop where
  ps : PS X st ts
  sim : SS X.K ts ds
structure QSs (X : Cx) (sts : List Stmt) (ts : TS) (ds : DS) : Prop where
  pss : PSs X sts ts
  sim : SS X.K ts ds
abbrev DG := D → DEnv → Mem → (DEnv → Mem → Prop) → Prop
abbrev DGs := List D → DEnv → Mem → (DEnv → Mem → Prop) → Prop
def SG (K : PySem.W.Frag) (tg : TG) (dg : DG) : Prop := ∀ (d : D) (E : DEnv) (M : Mem) (k : DEnv → Mem → Prop) (v : V) (σ : L2.St) (I F H : Hp) (Q : L2.St → Hp → Prop), dg d E M k → DR K I v d → ER K I σ E → Rep K I F M H →
  (∀ E' M' σ' I' H', k E' M' → ER K I' σ' E' → Rep K I' F M' H' → Same I I' → Q σ' H') → tg v σ H Q
def SGs (K : PySem.W.Frag) (tg : TGs) (dg : DGs) : Prop := ∀ (ds : List D) (E : DEnv) (M : Mem) (k : DEnv → Mem → Prop) (vs : List V) (σ : L2.St) (I F H : Hp) (Q : L2.St → Hp → Prop), dg ds E M k → DRs K I vs ds → ER K I σ E → Rep K I F M H →
  (∀ E' M' σ' I' H', k E' M' → ER K I' σ' E' → Rep K I' F M' H' → Same I I' → Q σ' H') → tg vs σ H Q
/-- the target's slots are among vs -/
def GW (tg : TG) (vs : List Nat) : Prop := ∀ (v : V) (σ : L2.St) (H : Hp) (Q : L2.St → Hp → Prop), tg v σ H Q → tg v σ H fun σ2 H2 => wipe σ2 vs = wipe σ vs ∧ Q σ2 H2
def GWs (tg : TGs) (vs : List Nat) : Prop := ∀ (us : List V) (σ : L2.St) (H : Hp) (Q : L2.St → Hp → Prop), tg us σ H Q → tg us σ H fun σ2 H2 => wipe σ2 vs = wipe σ vs ∧ Q σ2 H2
theorem wipe_set_in {σ : L2.St} {i : Nat} {o : Option V} : ∀ {vs : List Nat}, i ∈ vs → wipe (σ.set i o) vs = wipe σ vs
  | [], h => by simp at h
  | v :: vs, h => by
    unfold wipe
    by_cases hi : i ∈ vs
    · rw [wipe_set_in hi]
    · have e : i = v := by
        rcases List.mem_cons.mp h with h | h
        · exact h
        · exact absurd h hi
      subst e
      have out : ∀ (ws : List Nat), i ∉ ws → wipe (σ.set i o) ws = (wipe σ ws).set i o := by
        intro ws
        induction ws with
        | nil => intro _; rfl
        | cons w ws ih =>
          intro hm
          have h1 : i ≠ w := fun z => hm (by rw [z]; exact List.mem_cons_self)
          have h2 : i ∉ ws := fun z => hm (List.mem_cons_of_mem _ z)
          show (wipe (σ.set i o) ws).set w none = ((wipe σ ws).set w none).set i o
          rw [ih h2]
          exact List.set_comm _ _ h1
      rw [out vs hi, List.set_set]
theorem wipe_wipe {σ : L2.St} : ∀ {vs : List Nat}, wipe (wipe σ vs) vs = wipe σ vs := by
  intro vs
  have main : ∀ (us ws : List Nat), (∀ u ∈ us, u ∈ ws) → wipe (wipe σ us) ws = wipe σ ws := by
    intro us
    induction us with
    | nil => intro ws _; rfl
    | cons u us ih =>
      intro ws h
      show wipe ((wipe σ us).set u none) ws = wipe σ ws
      rw [wipe_set_in (h u List.mem_cons_self)]
      exact ih ws fun x hx => h x (List.mem_cons_of_mem _ hx)
  exact main vs vs fun _ h => h
structure QG (X : Cx) (tg : Expr) (g : TG) (dg : DG) : Prop where
  pg : PG X tg g
  sim : SG X.K g dg
structure QGs (X : Cx) (ts : List Expr) (g : TGs) (dg : DGs) : Prop where
  pgs : PGs X ts g
  sim : SGs X.K g dg
def dgName (i : Nat) : DG := fun d E M k => k (est E i (some d)) M
def dgNil : DGs := fun ds E M k => match ds with
  | [] => k E M
  | _ => False
def dgCons (g : DG) (r : DGs) : DGs := fun ds E M k => match ds with
  | d :: ds' => g d E M fun E1 M1 => r ds' E1 M1 k
  | [] => False
def dgTup (n : Nat) (g : DGs) : DG := fun d E M k => match d with
  | .tup ds => ds.length = n ∧ g ds E M k
  | _ => False
def dNext : DS := fun D E M => D.nx E M
def dSeq (t u : DS) : DS := fun D E M => t { D with nx := u D } E M
def dBreak : DS := fun D E M => D.bk E M
def dCont : DS := fun D E M => D.ct E M
def dDrop (de : DE) : DS := fun D E M => de E M fun _ M1 => D.nx E M1
def dRet (de : DE) : DS := fun D E M => de E M D.rt
def dRetN : DS := fun D _ M => D.rt .non M
def dIfS (c : DT) (t u : DS) : DS := fun D E M => c E M fun b M1 => match b with
  | true => t D E M1
  | false => u D E M1
def dNever : DS := fun _ _ _ => False
def dAsg (de : DE) (g : DG) : DS := fun D E M => de E M fun d M1 => g d E M1 D.nx
def dPar (i j : Nat) (da : DA) : DS := fun D E M => da E M fun ds M1 => match ds with
  | [a, b] => D.nx (est (est E i (some a)) j (some b)) M1
  | _ => False
def dWhile (c : DT) (b : DS) : DS := fun D E M => ∃ W : Nat → DEnv → Mem → Prop, (∃ m, W m E M) ∧ ∀ m E M, W m E M →
  c E M fun x M1 => match x with
    | true => b { D with nx := fun E' M' => ∃ m', m' < m ∧ W m' E' M', ct := fun E' M' => ∃ m', m' < m ∧ W m' E' M', bk := D.nx } E M1
    | false => D.nx E M1
/-- a list that was to change is still from here on -/
def frzE (p : Addr) (d : D) : DEnv → DEnv
  | [] => []
  | some (.ref q) :: r => (if q = p then some d else some (.ref q)) :: frzE p d r
  | o :: r => o :: frzE p d r
def dFrz (i : Nat) (u : DS) : DS := fun D E M => match nth E i with
  | some (.ref p) => (match M p with
    | some (.lst ds) => u D (frzE p (.lst ds) E) (mdel M p)
    | some (.ins C fs) => u D (frzE p (.ins C fs) E) (mdel M p)
    | none => False)
  | _ => False
section
variable {X : Cx} {e a b c : Expr} {es : List Expr} {te ta tb tc : TE} {de da db dc : DE} {pos : Pos} {tt tu : TT} {dt du : DT} {tA : TA} {dA : DA} {st : Stmt} {rest : List Stmt} {t u : TS} {d f : DS}
variable {K : PySem.W.Frag}
theorem qss_nil : QSs X [] tNext dNext := ⟨pss_nil, fun De E M σ I F H Dv h er rp eo => eo.nx E M σ I H h er rp (Same.refl I)⟩
theorem ss_seq (h1 : SS K t d) (h2 : SS K u f) : SS K (tSeq t u) (dSeq d f) := fun De E M σ I F H Dv h er rp eo =>
  h1 { De with nx := f De } E M σ I F H { Dv with nx := u Dv } h er rp ⟨fun E' M' σ' I' H' a b c s => h2 De E' M' σ' I' F H' Dv a b c (eo.mono s), eo.rt, eo.bk, eo.ct⟩
theorem qss_cons (h1 : QS X st t d) (h2 : QSs X rest u f) : QSs X (st :: rest) (tSeq t u) (dSeq d f) := ⟨pss_cons h1.ps h2.pss, ss_seq h1.sim h2.sim⟩
theorem qss_one (h1 : QS X st t d) : QSs X [st] t d := ⟨pss_one h1.ps, h1.sim⟩
theorem qs_pass : QS X (.Pass pos) tNext dNext := ⟨ps_pass, fun De E M σ I F H Dv h er rp eo => eo.nx E M σ I H h er rp (Same.refl I)⟩
theorem qs_break : QS X (.Break pos) tBreak dBreak := ⟨ps_break, fun De E M σ I F H Dv h er rp eo => eo.bk E M σ I H h er rp (Same.refl I)⟩
theorem qs_cont : QS X (.Continue pos) tCont dCont := ⟨ps_continue, fun De E M σ I F H Dv h er rp eo => eo.ct E M σ I H h er rp (Same.refl I)⟩
theorem qs_never : QS X st tNever dNever := ⟨ps_never, fun De E M σ I F H Dv h er rp eo => h.elim⟩
theorem qss_never {sts : List Stmt} : QSs X sts tNever dNever := ⟨pss_never, fun De E M σ I F H Dv h er rp eo => h.elim⟩
theorem qs_expr (h : QE X e te de) (hs : swapsWith e none pos.line X.env = pure false := by rfl) : QS X (.Expr e pos) (tDrop te) (dDrop de) :=
  ⟨ps_expr h.pe hs, fun De E M σ I F H Dv hd er rp eo => h.sim E M _ σ I F H _ hd er rp fun d M1 v I1 H1 q rp1 s1 d1 => eo.nx E M1 σ I1 H1 q (er.mono s1) rp1 s1⟩
theorem qs_ret (h : QE X e te de) : QS X (.Return (some e) pos) (tRet te) (dRet de) :=
  ⟨ps_ret h.pe, fun De E M σ I F H Dv hd er rp eo => h.sim E M _ σ I F H _ hd er rp fun d M1 v I1 H1 q rp1 s1 d1 => eo.rt d M1 v I1 H1 q rp1 s1 d1⟩
theorem qs_retN : QS X (.Return none pos) tRetN dRetN := ⟨ps_retN, fun De E M σ I F H Dv hd er rp eo => eo.rt .non M .non I H hd rp (Same.refl I) .non⟩
theorem qs_if {ss1 ss2 : List Stmt} (hc : QT X c tt dt) (h1 : QSs X ss1 t d) (h2 : QSs X ss2 u f) : QS X (.If c ss1 ss2 pos) (tIfS tt t u) (dIfS dt d f) :=
  ⟨ps_if hc.pt h1.pss h2.pss, fun De E M σ I F H Dv hd er rp eo => hc.sim E M _ σ I F H _ hd er rp fun b M1 I1 H1 q rp1 s1 => by
    cases b with
    | true => rw [if_pos rfl]; exact h1.sim De E M1 σ I1 F H1 Dv q (er.mono s1) rp1 (eo.mono s1)
    | false => rw [if_neg Bool.false_ne_true]; exact h2.sim De E M1 σ I1 F H1 Dv q (er.mono s1) rp1 (eo.mono s1)⟩
theorem sg_name {i : Nat} : SG K (gName i) (dgName i) := fun d E M k v σ I F H Q h r er rp kk => kk _ M _ I H h (er.set r i) rp (Same.refl I)
theorem qg_name {i : Nat} {x : Str} (hN : X.N.Nodup) (hi : X.N[i]? = some x) (hx : Loc X.env.scope x) (hf : X.fn x = true ∨ X.env.scope.names.lookup x = some .local := by first | exact .inl rfl | exact .inr rfl | assumption) : QG X (.Name x pos) (gName i) (dgName i) :=
  ⟨pg_name hN hi hx hf, sg_name⟩
theorem qgs_nil : QGs X [] gNil dgNil := ⟨pgs_nil, fun ds E M k vs σ I F H Q h r er rp kk => by
  cases ds with
  | nil =>
    have e : vs = [] := by have := r.len; simpa using this
    exact ⟨e, kk E M σ I H h er rp (Same.refl I)⟩
  | cons _ _ => exact h.elim⟩
theorem qgs_cons {g : TG} {dg : DG} {gs : TGs} {dgs : DGs} (h1 : QG X e g dg) (h2 : QGs X es gs dgs) (hs : (assignEach (e :: es) X.env).map (·.2) = assign e X.env :: (assignEach es X.env).map (·.2) := by rfl) : QGs X (e :: es) (gCons g gs) (dgCons dg dgs) :=
  ⟨pgs_cons h1.pg h2.pgs hs, fun ds E M k vs σ I F H Q h r er rp kk => by
    cases ds with
    | nil => exact h.elim
    | cons d ds =>
      cases vs with
      | nil => have := r.len; simp at this
      | cons v vs => exact ⟨v, vs, rfl, h1.sim d E M _ v σ I F H _ h r.head er rp fun E1 M1 σ1 I1 H1 q er1 rp1 s1 => h2.sim ds E1 M1 k vs σ1 I1 F H1 Q q (r.tail.mono s1) er1 rp1 fun E' M' σ' I' H' a b c s => kk E' M' σ' I' H' a b c (s1.trans s)⟩⟩
theorem qg_tup {kx : Nat} {gs : TGs} {dgs : DGs} {n : Nat} (hc : X.calm = true) (h : QGs X es gs dgs) (hn : (assignEach es X.env).length = n := by rfl) (hst : (assignEach es X.env).findIdx? (·.1) = none := by rfl) : QG X (.Tuple es kx pos) (gTup X.K n gs) (dgTup n dgs) :=
  ⟨pg_tup hc h.pgs hn hst, fun d E M k v σ I F H Q hd r er rp kk => by
    cases d with
    | tup ds =>
      obtain ⟨ad, xs, rfl, h1, h2, h3⟩ := r.tup_inv
      exact ⟨ad, xs, rfl, Same.sqt rp.sub h1, by rw [h3.len]; exact hd.1, h.sim ds E M k xs σ I F H Q hd.2 h3 er rp kk⟩
    | _ => exact hd.elim⟩
theorem gw_name {i : Nat} {vs : List Nat} (h : i ∈ vs) : GW (gName i) vs := fun v σ H Q q => ⟨wipe_set_in h, q⟩
theorem gws_nil {vs : List Nat} : GWs gNil vs := fun us σ H Q q => ⟨q.1, rfl, q.2⟩
theorem gws_cons {g : TG} {gs : TGs} {vs : List Nat} (h1 : GW g vs) (h2 : GWs gs vs) (mono : ∀ v σ H (Q Q' : L2.St → Hp → Prop), (∀ σ' H', Q σ' H' → Q' σ' H') → g v σ H Q → g v σ H Q') : GWs (gCons g gs) vs := by
  rintro us σ H Q ⟨v, r, e, q⟩
  refine ⟨v, r, e, mono v σ H _ _ (fun σ1 H1 ⟨e1, q1⟩ => ?_) (h1 v σ H _ q)⟩
  have q2 := h2 r σ1 H1 _ q1
  rw [e1] at q2
  exact q2
theorem gname_mono {i : Nat} : ∀ v σ H (Q Q' : L2.St → Hp → Prop), (∀ σ' H', Q σ' H' → Q' σ' H') → gName i v σ H Q → gName i v σ H Q' := fun v σ H Q Q' h q => h _ _ q
theorem gw_tup {n : Nat} {gs : TGs} {vs : List Nat} (h : GWs gs vs) : GW (gTup K n gs) vs := by
  rintro v σ H Q ⟨a, xs, e, h1, h2, q⟩
  exact ⟨a, xs, e, h1, h2, h xs σ H Q q⟩
theorem gw_tup2 {i j : Nat} {vs : List Nat} (h1 : i ∈ vs) (h2 : j ∈ vs) : GW (gTup K 2 (gCons (gName i) (gCons (gName j) gNil))) vs :=
  gw_tup (gws_cons (gw_name h1) (gws_cons (gw_name h2) gws_nil gname_mono) gname_mono)
theorem gw_tup3 {i j l : Nat} {vs : List Nat} (h1 : i ∈ vs) (h2 : j ∈ vs) (h3 : l ∈ vs) : GW (gTup K 3 (gCons (gName i) (gCons (gName j) (gCons (gName l) gNil)))) vs :=
  gw_tup (gws_cons (gw_name h1) (gws_cons (gw_name h2) (gws_cons (gw_name h3) gws_nil gname_mono) gname_mono) gname_mono)
theorem ss_asg {g : TG} {dg : DG} (h : SE K te de) (hg : SG K g dg) : SS K (tAsg te g) (dAsg de dg) := fun De E M σ I F H Dv hd er rp eo =>
  h E M _ σ I F H _ hd er rp fun d M1 v I1 H1 q rp1 s1 d1 => hg d E M1 De.nx v σ I1 F H1 Dv.nx q d1 (er.mono s1) rp1 fun E' M' σ' I' H' a b c s => eo.nx E' M' σ' I' H' a b c (s1.trans s)
theorem qs_set {i : Nat} {x : Str} {pos' : Pos} (hN : X.N.Nodup) (hi : X.N[i]? = some x) (hx : Loc X.env.scope x) (h : QE X e te de) (hs : swapsWith e (some (.Name x pos')) pos.line X.env = pure false := by rfl) (hf : X.fn x = true ∨ X.env.scope.names.lookup x = some .local := by first | exact .inl rfl | exact .inr rfl | assumption) :
    QS X (.Assign [.Name x pos'] e pos) (tAsg te (gName i)) (dAsg de (dgName i)) := ⟨ps_set hN hi hx h.pe hs hf, ss_asg h.sim sg_name⟩
theorem qs_asg {tg : Expr} {g : TG} {dg : DG} (h : QE X e te de) (hg : QG X tg g dg) (hs : swapsWithSole [tg] e pos.line X.env = pure false := by rfl) (hw : swappedStores [tg] e X.env = pure none := by rfl)
    (h1 : (assignEach [tg] X.env).map (·.2) = [assign tg X.env] := by rfl) : QS X (.Assign [tg] e pos) (tAsg te g) (dAsg de dg) := ⟨ps_asg h.pe hg.pg hs hw h1, ss_asg h.sim hg.sim⟩
theorem qs_par {i j : Nat} {x y : Str} {px py pt : Pos} {kt k2 pt2} (hc : X.calm = true) (hN : X.N.Nodup) (hi : X.N[i]? = some x) (hj : X.N[j]? = some y) (hij : i ≠ j)
    (hx : X.env.scope.names.lookup x = some .local) (hy : X.env.scope.names.lookup y = some .local) (ha : QA X [a, b] tA dA)
    (hw : swappedStores [.Tuple [.Name x px, .Name y py] kt pt] (.Tuple [a, b] k2 pt2) X.env = pure (some [x, y]))
    (hs : swapsWithSole [.Tuple [.Name x px, .Name y py] kt pt] (.Tuple [a, b] k2 pt2) pos.line X.env = pure false := by rfl) :
    QS X (.Assign [.Tuple [.Name x px, .Name y py] kt pt] (.Tuple [a, b] k2 pt2) pos) (tPar i j tA) (dPar i j dA) :=
  ⟨ps_par hc hN hi hj hij hx hy ha.pa hw hs, fun De E M σ I F H Dv hd er rp eo => ha.sim E M _ σ I F H _ hd er rp fun ds M1 vs I1 H1 hl q rp1 s1 d1 => by
    match ds, q, d1 with
    | [x, y], q, d1 =>
      match vs, d1 with
      | [v, w], d1 => exact ⟨v, w, rfl, eo.nx _ M1 _ I1 H1 q (((er.mono s1).set d1.head i).set d1.tail.head j) rp1 s1⟩
      | [], d1 => have := d1.len; simp at this
      | [_], d1 => have := d1.len; simp at this
      | _ :: _ :: _ :: _, d1 => have := d1.len; simp at this
    | [], q, _ => exact q.elim
    | [_], q, _ => exact q.elim
    | _ :: _ :: _ :: _, q, _ => exact q.elim⟩
theorem qs_while {body : List Stmt} (hp : PassesOwn (model X.prog X.w) X.A X.env X.xe) (hc : QT X c tt dt) (hb : QSs X body t d) : QS X (.While c body [] pos) (tWhile tt t) (dWhile dt d) :=
  ⟨ps_while hp hc.pt hb.pss, fun De E M σ I F H Dv ⟨W, ⟨m0, w0⟩, turn⟩ er rp eo => by
    refine ⟨fun m σ' H' => ∃ E' M' I', W m E' M' ∧ ER X.K I' σ' E' ∧ Rep X.K I' F M' H' ∧ Same I I', ⟨m0, E, M, I, w0, er, rp, Same.refl I⟩, fun m σ' H' hw => ?_⟩
    obtain ⟨E', M', I', w, er', rp', s'⟩ := hw
    refine hc.sim E' M' _ σ' I' F H' _ (turn m E' M' w) er' rp' fun b M1 I1 H1 q rp1 s1 => ?_
    cases b with
    | true =>
      rw [if_pos rfl]
      refine ⟨fun σ2 H2 => ∃ m', m' < m ∧ ∃ E2 M2 I2, W m' E2 M2 ∧ ER X.K I2 σ2 E2 ∧ Rep X.K I2 F M2 H2 ∧ Same I I2, fun σ2 H2 z => z, ?_⟩
      refine hb.sim _ E' M1 σ' I1 F H1 _ q (er'.mono s1) rp1 ⟨?_, ?_, ?_, ?_⟩
      · rintro E2 M2 σ2 I2 H2 ⟨m', hm, w2⟩ er2 rp2 s2
        exact ⟨m', hm, E2, M2, I2, w2, er2, rp2, (s'.trans s1).trans s2⟩
      · exact fun d M' v I' H' a b c e => eo.rt d M' v I' H' a b ((s'.trans s1).trans c) e
      · exact fun E2 M2 σ2 I2 H2 a b c s => eo.nx E2 M2 σ2 I2 H2 a b c ((s'.trans s1).trans s)
      · rintro E2 M2 σ2 I2 H2 ⟨m', hm, w2⟩ er2 rp2 s2
        exact ⟨m', hm, E2, M2, I2, w2, er2, rp2, (s'.trans s1).trans s2⟩
    | false =>
      rw [if_neg Bool.false_ne_true]
      exact eo.nx E' M1 σ' I1 H1 q (er'.mono s1) rp1 (s'.trans s1)⟩
theorem frzE_len (p : Addr) (d : D) : ∀ E : DEnv, (frzE p d E).length = E.length
  | [] => rfl
  | o :: r => by
    have ih := frzE_len p d r
    unfold frzE
    split
    · rename_i h; cases h
    · rename_i h; cases h; simp [ih]
    · rename_i h; cases h; simp [ih]
theorem nth_frzE (p : Addr) (d : D) : ∀ (E : DEnv) (i : Nat) (x : D), nth (frzE p d E) i = some x → nth E i = some x ∨ (nth E i = some (.ref p) ∧ x = d)
  | [], i, x, h => by cases i <;> cases h
  | o :: r, i, x, h => by
    cases i with
    | succ i =>
      have ih := nth_frzE p d r i x
      unfold frzE at h
      split at h
      · rename_i e; cases e
      · rename_i e; cases e; exact ih h
      · rename_i e; cases e; exact ih h
    | zero =>
      unfold frzE at h
      split at h
      · rename_i e; cases e
      · rename_i q r' e
        cases e
        by_cases hq : q = p
        · simp only [nth, if_pos hq] at h ⊢
          right; subst hq
          exact ⟨rfl, (Option.some.inj h).symm⟩
        · simp only [nth, if_neg hq] at h ⊢
          exact .inl h
      · rename_i e; cases e; exact .inl h
theorem ER.frz {I : Hp} {σ : L2.St} {E : DEnv} {p : Addr} {d : D} (er : ER K I σ E) (r : DR K I (.ref p) d) : ER K I σ (frzE p d E) := by
  refine ⟨by rw [frzE_len]; exact er.len, fun i x h => ?_⟩
  rcases nth_frzE p d E i x h with h' | ⟨h', hx⟩
  · exact er.at_ i x h'
  · obtain ⟨v, h1, h2⟩ := er.at_ i _ h'
    have hv := h2.ref_inv
    subst hv
    subst hx
    exact ⟨_, h1, r⟩
/-- from here on what slot i holds is still -/
theorem qs_frz {sts : List Stmt} (i : Nat) (h : QSs X sts t d) : QSs X sts t (dFrz i d) := ⟨h.pss, fun De E M σ I F H Dv hd er rp eo => by
  unfold dFrz at hd
  split at hd
  · rename_i p hp
    split at hd
    · rename_i ds hm
      obtain ⟨I', rp', s', r'⟩ := rp.frzL hm
      exact h.sim De _ _ σ I' F H Dv hd ((er.mono s').frz r') rp' (eo.mono s')
    · rename_i C fs hm
      obtain ⟨I', rp', s', r'⟩ := rp.frzO hm
      exact h.sim De _ _ σ I' F H Dv hd ((er.mono s').frz r') rp' (eo.mono s')
    · exact hd.elim
  · exact hd.elim⟩
end

/-! ### what is walked -/
structure ItR (K : PySem.W.Frag) (I F : Hp) (J : It) (ds : List D) : Prop where
  ex : ∃ (G : Hp → Prop) (Y : Nat → Hp → V → Hp → Prop), Walk J ds.length G Y ∧ (∀ I' M' H', Same I I' → (∃ F', Rep K I' F' M' H') → G H') ∧
    ∀ (i : Nat) (H : Hp) (x : V) (H' I' F' : Hp) (M' : Mem), i < ds.length → Y i H x H' → Same I I' → Rep K I' F' M' H → ∃ I'', Rep K I'' F' M' H' ∧ Same I' I'' ∧ ∃ d, ds[i]? = some d ∧ DR K I'' x d
abbrev DI := DEnv → Mem → (List D → Mem → Prop) → Prop
def SI (K : PySem.W.Frag) (wi : TI) (di : DI) : Prop := ∀ (E : DEnv) (M : Mem) (k : List D → Mem → Prop) (σ : L2.St) (I F H : Hp) (R : It → Hp → Prop), di E M k → ER K I σ E → Rep K I F M H →
  (∀ ds M' J I' H', k ds M' → ds.length ≤ sizeLine → Rep K I' F M' H' → Same I I' → ItR K I' F J ds → R J H') → wi σ H R
structure QI (X : Cx) (tg iter : Expr) (wi : TI) (di : DI) : Prop where
  pi : PI X tg iter wi
  sim : SI X.K wi di
def dFor (di : DI) (g : DG) (b : DS) : DS := fun D E M => di E M fun ds M1 => ∃ Inv : Nat → DEnv → Mem → Prop, Inv 0 E M1 ∧
  (∀ i d E' M', ds[i]? = some d → Inv i E' M' → g d E' M' fun E2 M2 => b { D with nx := Inv (i + 1), ct := Inv (i + 1), bk := D.nx } E2 M2) ∧ ∀ E' M', Inv ds.length E' M' → D.nx E' M'
def dLc (di : DI) (g : DG) (tt : DT) (te : DE) (vs : List Nat) : DE := fun E M k => di E M fun ds M1 => ∃ Inv : Nat → List D → Mem → Prop, Inv 0 [] M1 ∧
  (∀ i d acc M', ds[i]? = some d → Inv i acc M' → g d (ewipe E vs) M' fun E2 M2 => tt E2 M2 fun b M3 => match b with
    | true => te E2 M3 fun y M4 => Inv (i + 1) (acc ++ [y]) M4
    | false => Inv (i + 1) acc M3) ∧ ∀ acc M', Inv ds.length acc M' → k (.lst acc) M'
def dYes : DT := fun _ M k => k true M
section
variable {X : Cx} {e a b c : Expr} {es : List Expr} {te ta tb tc : TE} {de da db dc : DE} {pos : Pos} {tt tu : TT} {dt du : DT} {tA : TA} {dA : DA} {t u : TS} {d f : DS} {tg iter : Expr} {wi : TI} {di : DI} {g : TG} {dg : DG}
variable {K : PySem.W.Frag}
theorem qs_for {body : List Stmt} (hp : PassesOwn (model X.prog X.w) X.A X.env X.xe) (hc : X.calm = true) (hi : QI X tg iter wi di) (hg : QG X tg g dg) (hb : QSs X body t d)
    (hs : ∀ x, foldedSetIterable iter X.env x = pure x := by intro _; rfl) : QS X (.For tg iter body [] pos) (tFor wi g t) (dFor di dg d) :=
  ⟨ps_for hp hc hi.pi hg.pg hb.pss hs, fun De E M σ I F H Dv hd er rp eo => hi.sim E M _ σ I F H _ hd er rp fun ds M1 J I1 H1 q hz rp1 s1 it => by
    obtain ⟨G, Y, wk, hG, hY⟩ := it.ex
    obtain ⟨Inv, h0, hs, hd⟩ := q
    refine for_it wk (fun i σ' H' => ∃ E' M' I', Inv i E' M' ∧ ER X.K I' σ' E' ∧ Rep X.K I' F M' H' ∧ Same I1 I') ⟨E, M1, I1, h0, er.mono s1, rp1, Same.refl I1⟩ ?_ ?_ ?_
    · rintro i σ' H' _ ⟨E', M', I', _, _, rp', s'⟩
      exact hG I' M' H' s' ⟨F, rp'⟩
    · rintro i x σ' H' H'' hi ⟨E', M', I', h', er', rp', s'⟩ hy
      obtain ⟨I'', rp'', s'', dd, hdd, r⟩ := hY i H' x H'' I' F M' hi hy s' rp'
      refine hg.sim dd E' M' _ x σ' I'' F H'' _ (hs i dd E' M' hdd h') r (er'.mono s'') rp'' fun E2 M2 σ2 I2 H2 q2 er2 rp2 s2 => ?_
      have st : Same I1 I2 := (s'.trans s'').trans s2
      refine hb.sim _ E2 M2 σ2 I2 F H2 _ q2 er2 rp2 ⟨?_, ?_, ?_, ?_⟩
      · exact fun E3 M3 σ3 I3 H3 a b c s => ⟨E3, M3, I3, a, b, c, st.trans s⟩
      · exact fun d M' v I' H' a b c e => eo.rt d M' v I' H' a b ((s1.trans st).trans c) e
      · exact fun E3 M3 σ3 I3 H3 a b c s => eo.nx E3 M3 σ3 I3 H3 a b c ((s1.trans st).trans s)
      · exact fun E3 M3 σ3 I3 H3 a b c s => ⟨E3, M3, I3, a, b, c, st.trans s⟩
    · rintro σ' H' ⟨E', M', I', h', er', rp', s'⟩
      exact eo.nx E' M' σ' I' H' (hd E' M' h') er' rp' (s1.trans s')⟩
theorem se_lc {vs : List Nat} (hi : SI K wi di) (hg : SG K g dg) (gw : GW g vs) (mono : ∀ v σ H (Q Q' : L2.St → Hp → Prop), (∀ σ' H', Q σ' H' → Q' σ' H') → g v σ H Q → g v σ H Q') (ht : ST K tt dt) (he : SE K te de) : SE K (tLc wi g tt te vs) (dLc di dg dt de vs) :=
  fun E M k σ I F H Q hd er rp kk => hi E M _ σ I F H _ hd er rp fun ds M1 J I1 H1 q hz rp1 s1 it => by
    obtain ⟨G, Y, wk, hG, hY⟩ := it.ex
    obtain ⟨Inv, h0, hs, hdn⟩ := q
    intro Dl hDl
    have hF : F Dl = none := rp1.freeF hDl
    refine lc_it wk (fun i H' => ∃ acc xs M' I', Inv i acc M' ∧ acc.length ≤ i ∧ DRs K I' xs acc ∧ Rep K I' (upd F Dl (.lst xs)) M' H' ∧ Same I1 I') ⟨[], [], M1, I1, h0, Nat.le_refl _, DRs.nil, rp1.hide hDl _, Same.refl I1⟩ ?_ ?_ ?_
    · rintro i H' _ ⟨acc, xs, M', I', _, _, _, rp', s'⟩
      exact hG I' M' H' s' ⟨_, rp'⟩
    · rintro i x H' H'' hi' ⟨acc, xs, M', I', h', hl, dr', rp', s'⟩ hy
      obtain ⟨I'', rp'', s'', dd, hdd, r⟩ := hY i H' x H'' I' _ M' hi' hy s' rp'
      refine mono _ _ _ _ _ (fun σ2 H2 z => ⟨?_, z.2⟩) (gw x (wipe σ vs) H'' _ (hg dd (ewipe E vs) M' _ x (wipe σ vs) I'' _ H'' _ (hs i dd acc M' hdd h') r ((((er.mono s1).mono s').mono s'').wipe vs) rp'' fun E2 M2 σ2 I2 H2 q2 er2 rp2 s2 => ?_))
      · exact z.1.trans wipe_wipe
      · refine ht E2 M2 _ σ2 I2 _ H2 _ q2 er2 rp2 fun b M3 I3 H3 q3 rp3 s3 => ?_
        have st3 : Same I1 I3 := ((s'.trans s'').trans s2).trans s3
        have dr3 : DRs K I3 xs acc := ((dr'.mono s'').mono s2).mono s3
        cases b with
        | true =>
          rw [if_pos rfl]
          refine he E2 M3 _ σ2 I3 _ H3 _ q3 (er2.mono s3) rp3 fun y M4 v I4 H4 q4 rp4 s4 d4 => ?_
          have hx : H4 Dl = some (.lst xs) := rp4.frm Dl _ upd_same
          refine ⟨xs, hx, ?_, acc ++ [y], xs ++ [v], M4, I4, q4, ?_, (dr3.mono s4).append (.cons d4 .nil), rp4.rehide, st3.trans s4⟩
          · rw [dr'.len]; exact Nat.lt_of_le_of_lt hl (Nat.lt_of_lt_of_le hi' hz)
          · rw [List.length_append, List.length_singleton]; omega
        | false =>
          rw [if_neg Bool.false_ne_true]
          exact ⟨acc, xs, M3, I3, q3, by omega, dr3, rp3, st3⟩
    · rintro H' ⟨acc, xs, M', I', h', hl, dr', rp', s'⟩
      obtain ⟨rp2, s2⟩ := rp'.unhide hF
      have hz2 : xs.length ≤ sizeLine := by rw [dr'.len]; exact Nat.le_trans hl hz
      refine kk (.lst acc) M' (.ref Dl) _ H' (hdn acc M' h') rp2 ((s1.trans s').trans s2) ?_
      exact .lst upd_same hz2 dr'.len fun i x d a b => (dr'.at_ i x d a b).mono s2
structure QTs (X : Cx) (ifs : List Expr) (tt : TT) (dt : DT) : Prop where
  pts : PTs X ifs tt
  sim : ST X.K tt dt
theorem qts_nil : QTs X [] tYes dYes := ⟨pts_nil, fun E M k σ I F H Q hd er rp kk => kk true M I H hd rp (Same.refl I)⟩
theorem qts_one (h : QT X c tt dt) : QTs X [c] tt dt := ⟨pts_one h.pt, h.sim⟩
theorem gtup_mono {n : Nat} {gs : TGs} (h : ∀ v σ H (Q Q' : L2.St → Hp → Prop), (∀ σ' H', Q σ' H' → Q' σ' H') → gs v σ H Q → gs v σ H Q') : ∀ v σ H (Q Q' : L2.St → Hp → Prop), (∀ σ' H', Q σ' H' → Q' σ' H') → gTup K n gs v σ H Q → gTup K n gs v σ H Q' := by
  rintro v σ H Q Q' m ⟨a, xs, h1, h2, h3, q⟩
  exact ⟨a, xs, h1, h2, h3, h xs σ H Q Q' m q⟩
theorem gcons_mono {g : TG} {gs : TGs} (h1 : ∀ v σ H (Q Q' : L2.St → Hp → Prop), (∀ σ' H', Q σ' H' → Q' σ' H') → g v σ H Q → g v σ H Q') (h2 : ∀ v σ H (Q Q' : L2.St → Hp → Prop), (∀ σ' H', Q σ' H' → Q' σ' H') → gs v σ H Q → gs v σ H Q') :
    ∀ v σ H (Q Q' : L2.St → Hp → Prop), (∀ σ' H', Q σ' H' → Q' σ' H') → gCons g gs v σ H Q → gCons g gs v σ H Q' := by
  rintro v σ H Q Q' m ⟨a, r, e, q⟩
  exact ⟨a, r, e, h1 _ _ _ _ _ (fun σ' H' z => h2 _ _ _ _ _ m z) q⟩
theorem gnil_mono : ∀ v σ H (Q Q' : L2.St → Hp → Prop), (∀ σ' H', Q σ' H' → Q' σ' H') → gNil v σ H Q → gNil v σ H Q' := fun v σ H Q Q' m q => ⟨q.1, m _ _ q.2⟩
/-- a target within a comprehension: one name | two | three -/
structure QGw (g : TG) (vs : List Nat) : Prop where
  gw : GW g vs
  mono : ∀ v σ H (Q Q' : L2.St → Hp → Prop), (∀ σ' H', Q σ' H' → Q' σ' H') → g v σ H Q → g v σ H Q'
theorem gwm1 {i : Nat} {vs : List Nat} (h : i ∈ vs := by decide) : QGw (gName i) vs := ⟨gw_name h, gname_mono⟩
theorem gwm2 {i j : Nat} {vs : List Nat} (h : i ∈ vs := by decide) (h2 : j ∈ vs := by decide) : QGw (gTup K 2 (gCons (gName i) (gCons (gName j) gNil))) vs := ⟨gw_tup2 h h2, gtup_mono (gcons_mono gname_mono (gcons_mono gname_mono gnil_mono))⟩
theorem gwm3 {i j l : Nat} {vs : List Nat} (h : i ∈ vs := by decide) (h2 : j ∈ vs := by decide) (h3 : l ∈ vs := by decide) : QGw (gTup K 3 (gCons (gName i) (gCons (gName j) (gCons (gName l) gNil)))) vs := ⟨gw_tup3 h h2 h3, gtup_mono (gcons_mono gname_mono (gcons_mono gname_mono (gcons_mono gname_mono gnil_mono)))⟩
variable {elt : Expr} {ifs : List Expr} {scope : Scope} {own : List (Str × Nat)}
theorem pe_weak {t t' : TE} (h : PE X e t) (f : ∀ σ H Q, t' σ H Q → t σ H Q) : PE X e t' := ⟨fun pins s σ H Q I z => h.run pins s σ H Q I (f _ _ _ z)⟩
theorem pts_weak {t t' : TT} (h : PTs X ifs t) (f : ∀ σ H Q, t' σ H Q → t σ H Q) : PTs X ifs t' := ⟨fun pins s σ H Q I z => h.run pins s σ H Q I (f _ _ _ z)⟩
theorem pg_weak {t t' : TG} (h : PG X tg t) (f : ∀ v σ H Q, t' v σ H Q → t v σ H Q) : PG X tg t' := ⟨fun pins s σ H v u Q I r z => h.run pins s σ H v u Q I r (f _ _ _ _ z)⟩
/-- what holds within any block -/
abbrev Fam (α : Type) := Shared → Hp → Addr → List (Str × Addr) → List Addr → α
def allE (te : Fam TE) : TE := fun σ H Q => ∀ s h C cl fp, te s h C cl fp σ H Q
def allT (te : Fam TT) : TT := fun σ H Q => ∀ s h C cl fp, te s h C cl fp σ H Q
def allG (te : Fam TG) : TG := fun v σ H Q => ∀ s h C cl fp, te s h C cl fp v σ H Q
theorem allG_gw {g : Fam TG} {vs : List Nat} (h : ∀ s H C cl fp, QGw (g s H C cl fp) vs) : QGw (allG g) vs :=
  ⟨fun v σ H Q z s h' C cl fp => (h s h' C cl fp).gw v σ H Q (z s h' C cl fp), fun v σ H Q Q' m z s h' C cl fp => (h s h' C cl fp).mono v σ H Q Q' m (z s h' C cl fp)⟩
variable {fe : Fam TE} {ft : Fam TT} {fg : Fam TG}
theorem qe_lc (hc : X.calm = true) (hN : X.N.Nodup) (hi : QI X tg iter wi di) (ok : BlkOk X.N X.env.scope scope own)
    (hg : ∀ (s : Shared) (H : Hp) (C : Addr) (cl : List (Str × Addr)) (fp : List Addr), QG (X.blk s H scope (compEnvC scope cl C X.env) fp) tg (fg s H C cl fp) dg) (hw : ∀ s H C cl fp, QGw (fg s H C cl fp) (own.map (·.2)))
    (ht : ∀ (s : Shared) (H : Hp) (C : Addr) (cl : List (Str × Addr)) (fp : List Addr), QTs (X.blk s H scope (compEnvC scope cl C X.env) fp) ifs (ft s H C cl fp) dt)
    (he : ∀ (s : Shared) (H : Hp) (C : Addr) (cl : List (Str × Addr)) (fp : List Addr), QE (X.blk s H scope (compEnvC scope cl C X.env) fp) elt (fe s H C cl fp) de) (hs : ∀ x, foldedSetIterable iter X.env x = pure x := by intro _; rfl) :
    QE X (.ListComp elt [⟨tg, iter, ifs, 0⟩] scope pos) (tLc wi (allG fg) (allT ft) (allE fe) (own.map (·.2))) (dLc di dg dt de (own.map (·.2))) :=
  ⟨pe_lc hc hN hi.pi ok (fun s H C cl fp => pg_weak (hg s H C cl fp).pg fun v σ h Q z => z s H C cl fp) (fun s H C cl fp => pts_weak (ht s H C cl fp).pts fun σ h Q z => z s H C cl fp) (fun s H C cl fp => pe_weak (he s H C cl fp).pe fun σ h Q z => z s H C cl fp) hs,
    se_lc hi.sim (fun d E M k v σ I F H Q a b c e f s h C cl fp => (hg s h C cl fp).sim d E M k v σ I F H Q a b c e f) (allG_gw hw).gw (allG_gw hw).mono (fun E M k σ I F H Q a b c e s h C cl fp => (ht s h C cl fp).sim E M k σ I F H Q a b c e) (fun E M k σ I F H Q a b c e s h C cl fp => (he s h C cl fp).sim E M k σ I F H Q a b c e)⟩
theorem qs_setLc {i : Nat} {y : Str} {py spos : Pos} (hc : X.calm = true) (hN : X.N.Nodup) (hy : X.N[i]? = some y) (hyl : X.env.scope.names.lookup y = some .local)
    (hsw : swapsWith (.ListComp elt [⟨tg, iter, ifs, 0⟩] scope pos) (some (.Name y py)) spos.line X.env = pure true) (hi : QI X tg iter wi di) (ok : BlkOk X.N X.env.scope scope own)
    (hg : ∀ (s : Shared) (H : Hp) (C : Addr) (cl : List (Str × Addr)) (fp : List Addr), QG (X.blk s H scope (compEnvC scope cl C X.env) fp) tg (fg s H C cl fp) dg) (hw : ∀ s H C cl fp, QGw (fg s H C cl fp) (own.map (·.2)))
    (ht : ∀ (s : Shared) (H : Hp) (C : Addr) (cl : List (Str × Addr)) (fp : List Addr), QTs (X.blk s H scope (compEnvC scope cl C X.env) fp) ifs (ft s H C cl fp) dt)
    (he : ∀ (s : Shared) (H : Hp) (C : Addr) (cl : List (Str × Addr)) (fp : List Addr), QE (X.blk s H scope (compEnvC scope cl C X.env) fp) elt (fe s H C cl fp) de) (hs : ∀ x, foldedSetIterable iter X.env x = pure x := by intro _; rfl) :
    QS X (.Assign [.Name y py] (.ListComp elt [⟨tg, iter, ifs, 0⟩] scope pos) spos) (tAsg (tLc wi (allG fg) (allT ft) (allE fe) (own.map (·.2))) (gName i)) (dAsg (dLc di dg dt de (own.map (·.2))) (dgName i)) :=
  ⟨ps_setLc hc hN hy hyl hsw hi.pi ok (fun s H C cl fp => pg_weak (hg s H C cl fp).pg fun v σ h Q z => z s H C cl fp) (fun s H C cl fp => pts_weak (ht s H C cl fp).pts fun σ h Q z => z s H C cl fp) (fun s H C cl fp => pe_weak (he s H C cl fp).pe fun σ h Q z => z s H C cl fp) hs,
    ss_asg (se_lc hi.sim (fun d E M k v σ I F H Q a b c e f s h C cl fp => (hg s h C cl fp).sim d E M k v σ I F H Q a b c e f) (allG_gw hw).gw (allG_gw hw).mono (fun E M k σ I F H Q a b c e s h C cl fp => (ht s h C cl fp).sim E M k σ I F H Q a b c e) (fun E M k σ I F H Q a b c e s h C cl fp => (he s h C cl fp).sim E M k σ I F H Q a b c e)) sg_name⟩
end
end Qd
namespace Qd
open PySem PySem.Spec PyProof.Rows L2

/-! ### powers of great numbers -/
def CPowB (i j : Int) : Prop := 0 ≤ j ∧ j ≤ 1000 ∧ i.natAbs.log2 < 60000
theorem bits_le (x : Int) : Builtin.Int.intBits x ≤ x.natAbs.log2 + 1 := by
  unfold Builtin.Int.intBits
  split <;> omega
section
variable {X : Cx}
theorem op_powB : OpR X (binaryOp .Pow) (rI CPowB fun i j => .int (i ^ j.toNat)) := opI fun i j t u Q s g hc q => by
  obtain ⟨h0, h1, h2⟩ := hc
  by_cases hj : j = 0
  · subst hj
    refine AutoIntOps.pow_0 (by omega) (by decide) ?_
    have e : i ^ (0 : Int).toNat = 1 := by simp
    rw [e] at q
    exact q
  · by_cases hi : i = 0 ∨ i = 1
    · have e : i ^ j.toNat = i := by
        rcases hi with rfl | rfl
        · rw [Int.zero_pow (by omega)]
        · exact Int.one_pow
      rw [e] at q
      refine AutoIntOps.pow_1 h0 (by simpa using hj) ?_ q
      rcases hi with rfl | rfl <;> decide
    · by_cases hm : i = -1
      · subst hm
        refine AutoIntOps.pow_2 h0 (by simpa using hj) (by decide) (by decide) ?_
        have e : ∀ n : Nat, (-1 : Int) ^ n = if n % 2 = 0 then 1 else -1 := by
          intro n
          induction n with
          | zero => rfl
          | succ n ih =>
            rw [Int.pow_succ, ih]
            by_cases hn : n % 2 = 0
            · rw [if_pos hn, if_neg (by omega)]; rfl
            · rw [if_neg hn, if_pos (by omega)]; rfl
        rw [e] at q
        have e2 : (j % 2 == 0) = decide (j.toNat % 2 = 0) := by
          by_cases h : j % 2 = 0
          · rw [beq_iff_eq.mpr h, decide_eq_true (by omega)]
          · rw [beq_eq_false_iff_ne.mpr h, decide_eq_false (by omega)]
        rw [e2]
        have e3 : (if decide (j.toNat % 2 = 0) = true then (1 : Int) else -1) = if j.toNat % 2 = 0 then 1 else -1 := by simp
        rw [e3]
        exact q
      · refine AutoIntOps.pow_4 h0 (by simpa using hj) ?_ ?_ ?_ q
        · simpa using hi
        · simpa using hm
        · have b := bits_le i
          have e : bitsLine = 134217728 := by decide
          unfold Builtin.Int.intTooBig
          rw [decide_eq_true_eq, e]
          have : ((Builtin.Int.intBits i : Nat) : Int) * j ≤ 60000 * 1000 :=
            Int.mul_le_mul (by omega) (by omega) (by omega) (by omega)
          omega

/-! ### walks of pairs -/
theorem turn_pairs {P : Program} {w : World} {K : PySem.W.Frag} {elts : List Expr} {kk : Nat} {tpos : Pos} (e : Addr) (cs : List Addr) (n : Nat) (G : Hp → Prop) (Yp : Nat → List V → Prop) (S : Nat → Heap → Prop)
    (mem : e ∈ cs) (obj : ∀ i h, S i h → ∀ b ∈ cs, ∃ o, h.get? b = some o ∧ ∀ v, o.data ≠ .cell v)
    (keep : ∀ i h h', S i h → (∀ b ∈ cs, ∀ o, h.get? b = some o → h'.get? b = some o) → S i h')
    (W : ∀ (X : Cx), X.prog = P → X.w = w → X.K = K → X.calm = true → ∀ (pins : List (Addr × Obj)) (s : Shared) (σ : L2.St) (H : Hp), Inv X pins σ H s → G H →
      ∃ fp wr Pt St Mid, WalksT P w X.A e fp wr n Pt St Mid ∧ (∀ b ∈ wr, b ∈ cs) ∧ (∀ i, S i s.heap → St i s.heap) ∧ (∀ i h, St i h → S i h) ∧ ∀ i vals, Pt i vals → ∃ vs, Yp i vs ∧ vs.length ≤ 3 ∧ Vals vs vals.toList)
    (self : ∀ (A : Around) (i : Nat) (s : Shared) (Q : Value → Shared → Prop) (E : Value → Shared → Prop), S i s.heap → Q (.ref e) s → wpAny (model P w) A (pyIter (.ref e)) Q E s) :
    Turn P w K (.Tuple elts kk tpos) ⟨fun i H => i < n ∧ G H, fun i H v H' => ∃ T vs, v = .ref T ∧ H T = none ∧ H' = upd H T (.tup vs) ∧ Yp i vs, fun i H => i = n ∧ G H⟩ cs e S where
  mem := mem
  obj := obj
  keep := keep
  item := by
    intro X hP hw hK hc i pins s σ H E I hf st hg
    obtain ⟨hlt, hG⟩ := hg
    obtain ⟨fp, wr, Pt, St, Mid, WT, hwr, h1, h2, h3⟩ := W X hP hw hK hc pins s σ H I hG
    refine WT.item i s _ _ hlt (h1 i st) fun T vals h' tk hPt hT hIs hm hk => ⟨.ref T, rfl, WT.go elts kk tpos i T _ _ _ hm fun h'' st'' hk2 => ?_⟩
    obtain ⟨vs, hY, hl, hv⟩ := h3 i vals hPt
    have hTw : T ∉ wr := WT.apart i T h' hm
    have hIs2 : h''.IsTuple T vals := hIs.at fun o q => hk2 T o hTw q
    have kall : ∀ b o, b ∉ wr → s.heap.get? b = some o → h''.get? b = some o := fun b o hb q => hk2 b o hb (hk b o hb q)
    have new : ObjOk X.prog X.w (upd H T (.tup vs)) h'' T (.tup vs) := by
      refine ⟨Nat.le_trans hl (by decide), vals.toList, hv, ?_⟩
      obtain ⟨o, q1, q2, q3⟩ := hIs2
      exact ⟨o, q1, q2, by simpa using q3⟩
    have I1 : Inv X pins σ (upd H T (.tup vs)) { s with heap := h'', toks := tk } := I.turnedNew (ch := wr) kall (fun b hb => hf b (hwr b hb)) hT new
    refine ⟨.ref T, _, I1, rfl, ⟨T, vs, rfl, I.hok.fresh hT, rfl, hY⟩, h2 _ _ st'', fun b hb => ?_⟩
    have hbl : b < s.heap.objs.size := by
      obtain ⟨o, q, _⟩ := obj i s.heap st b hb
      exact Heap.lt_size q
    rw [upd_ne (Nat.ne_of_lt (Nat.lt_of_lt_of_le hbl hT))]
    exact (hf b hb).1
  done := by
    intro X hP hw hK hc i pins s σ H E I hf st hg
    obtain ⟨rfl, hG⟩ := hg
    obtain ⟨fp, wr, Pt, St, Mid, WT, hwr, h1, h2, h3⟩ := W X hP hw hK hc pins s σ H I hG
    refine WT.done s _ _ (h1 _ st) fun h' tk hk => ⟨rfl, I.turnedL (t' := tk) (ch := wr) hk fun b hb => hf b (hwr b hb)⟩
  self := self

/-- one thing that is walked within another walk: its iterator's cell it, what stood below N -/
structure Src (P : Program) (w : World) (K : PySem.W.Frag) (N it : Addr) (xs : List V) (G : Hp → Prop) (S : Nat → Heap → Prop) : Prop where
  obj : ∀ i h, S i h → ∃ o, h.get? it = some o ∧ ∀ v, o.data ≠ .cell v
  keep : ∀ i h h', S i h → (∀ o, h.get? it = some o → h'.get? it = some o) → S i h'
  dr : ∀ (X : Cx), X.prog = P → X.w = w → X.K = K → X.calm = true → ∀ (pins : List (Addr × Obj)) (s : Shared) (σ : L2.St) (H : Hp), Inv X pins σ H s → G H →
    ∃ fp Pd St, Draws P w X.A.in1 it (it :: fp) xs.length Pd St ∧ (∀ b ∈ fp, b < N) ∧ (∀ i, S i s.heap → St i s.heap) ∧ (∀ i h, St i h → S i h) ∧ ∀ i v, Pd i v → ∃ x, xs[i]? = some x ∧ RelV x v
theorem src_tup {P : Program} {w : World} {K : PySem.W.Frag} {N it t : Addr} {xs : List V} (ht : t < N) (hi : N ≤ it) : Src P w K N it xs (fun H => SqT K H t xs) (fun i h => h.IsTupleIter it t i) where
  obj := fun i h st => by obtain ⟨o, e, _, d⟩ := st; exact ⟨o, e, fun v q => by rw [d] at q; cases q⟩
  keep := fun i h h' st k => st.at k
  dr := by
    intro X hP hw hK hc pins s σ H I hG
    subst hP hw hK
    obtain ⟨its, rv, p, hz⟩ := I.tuple hG
    have hne : t ≠ it := Nat.ne_of_lt (Nat.lt_of_lt_of_le ht hi)
    have D := Draws.tuple (prog := X.prog) (w := X.w) (A := X.A.in1) (I.ok.hd hc) it t hne its.toArray
    have hl : its.toArray.size = xs.length := by rw [List.size_toArray]; exact rv.length.symm
    rw [hl] at D
    refine ⟨[t], _, _, D, fun b hb => by rw [List.mem_singleton.mp hb]; exact ht, fun i st => ⟨st, p⟩, fun i h st => st.1, fun i v hv => ?_⟩
    have hv' : its[i]? = some v := by simpa using hv
    have hi' : i < xs.length := by rw [rv.length]; exact (List.getElem?_eq_some_iff.mp hv').1
    obtain ⟨u, hu, ru⟩ := rv.get (List.getElem?_eq_getElem hi')
    rw [hv'] at hu
    cases hu
    exact ⟨_, List.getElem?_eq_getElem hi', ru⟩
theorem src_lst {P : Program} {w : World} {K : PySem.W.Frag} {N it t : Addr} {xs : List V} (ht : t < N) (hi : N ≤ it) : Src P w K N it xs (fun H => SqL K H t xs) (fun i h => h.IsListIter it t i) where
  obj := fun i h st => by obtain ⟨o, e, _, d⟩ := st; exact ⟨o, e, fun v q => by rw [d] at q; cases q⟩
  keep := fun i h h' st k => st.at k
  dr := by
    intro X hP hw hK hc pins s σ H I hG
    subst hP hw hK
    obtain ⟨its, rv, p, hz⟩ := I.list hG
    have hne : t ≠ it := Nat.ne_of_lt (Nat.lt_of_lt_of_le ht hi)
    have D := Draws.list (prog := X.prog) (w := X.w) (A := X.A.in1) (I.ok.hd hc) it t hne its.toArray
    have hl : its.toArray.size = xs.length := by rw [List.size_toArray]; exact rv.length.symm
    rw [hl] at D
    refine ⟨[t], _, _, D, fun b hb => by rw [List.mem_singleton.mp hb]; exact ht, fun i st => ⟨st, p.isList⟩, fun i h st => st.1, fun i v hv => ?_⟩
    have hv' : its[i]? = some v := by simpa using hv
    have hi' : i < xs.length := by rw [rv.length]; exact (List.getElem?_eq_some_iff.mp hv').1
    obtain ⟨u, hu, ru⟩ := rv.get (List.getElem?_eq_getElem hi')
    rw [hv'] at hu
    cases hu
    exact ⟨_, List.getElem?_eq_getElem hi', ru⟩
theorem strIter_fields {h : Heap} {it : Addr} {ty : String} {x : Str} {t : Tok} {i : Nat} (st : h.IsStrIter it ty x t i) : ∃ o, h.get? it = some o ∧ ∀ v, o.data ≠ .cell v := by
  obtain ⟨o, e, _, d⟩ := st
  exact ⟨o, e, fun v q => by rw [d] at q; cases q⟩
def signsV (x : Str) : List V := x.cps.toList.map fun c => .str ⟨#[c]⟩
theorem src_str {P : Program} {w : World} {K : PySem.W.Frag} {N it : Addr} {x : Str} {t : Tok} : Src P w K N it (signsV x) (fun _ => True) (fun i h => h.IsStrIter it (strIterType x) x t i) where
  obj := fun i h st => strIter_fields st
  keep := fun i h h' st k => by obtain ⟨o, e, r⟩ := st; exact ⟨o, k o e, r⟩
  dr := by
    intro X hP hw hK hc pins s σ H I hG
    subst hP hw hK
    have D := Draws.text (prog := X.prog) (w := X.w) (A := X.A.in1) (I.ok.hd hc) it x t
    have hl : x.cps.size = (signsV x).length := by unfold signsV; simp
    rw [hl] at D
    refine ⟨[], _, _, D, fun b hb => absurd hb (by simp), fun i st => st, fun i h st => st, fun i v hv => ?_⟩
    obtain ⟨c, u, h1, rfl⟩ := hv
    refine ⟨.str ⟨#[c]⟩, ?_, ⟨u, rfl⟩⟩
    unfold signsV
    rw [List.getElem?_map]
    have : x.cps.toList[i]? = some c := by simpa using h1
    rw [this]; rfl
/-- a walk of pairs: i and the i-th | the i-th of both -/
def ItPairs (n : Nat) (G : Hp → Prop) (Yp : Nat → List V → Prop) : It := ⟨fun i H => i < n ∧ G H, fun i H v H' => ∃ T vs, v = .ref T ∧ H T = none ∧ H' = upd H T (.tup vs) ∧ Yp i vs, fun i H => i = n ∧ G H⟩
theorem walk_pairs {n : Nat} {G : Hp → Prop} {Yp : Nat → List V → Prop} : Walk (ItPairs n G Yp) n G (fun i H v H' => ∃ T vs, v = .ref T ∧ H T = none ∧ H' = upd H T (.tup vs) ∧ Yp i vs) :=
  ⟨fun _ _ h g => ⟨h, g⟩, fun _ g => ⟨rfl, g⟩, fun _ _ _ _ _ _ y => y⟩
theorem turn_enumS {P : Program} {w : World} {K : PySem.W.Frag} {elts : List Expr} {kk : Nat} {tpos : Pos} {N e it : Addr} {xs : List V} {G : Hp → Prop} {S : Nat → Heap → Prop} (R : Src P w K N it xs G S) (he : N ≤ e) (hei : e ≠ it) :
    Turn P w K (.Tuple elts kk tpos) (ItPairs xs.length G fun i vs => ∃ x, xs[i]? = some x ∧ vs = [.int (i : Nat), x]) [e, it] e (fun i h => (∃ old, IsEnum h e it ((i : Nat) : Int) old) ∧ S i h) := by
  refine turn_pairs e [e, it] xs.length G _ _ (by simp) (fun i h st b hb => ?_) (fun i h h' st k => ?_) ?_ (fun A i s Q E st h => let ⟨⟨_, q⟩, _⟩ := st; wpAny_pyIter_enum q h)
  · obtain ⟨⟨old, q⟩, st⟩ := st
    have e' : b = e ∨ b = it := by simpa using hb
    rcases e' with z | z
    · rw [z]; exact ⟨_, q, fun v q => nomatch q⟩
    · rw [z]; exact R.obj i h st
  · obtain ⟨⟨old, q⟩, st⟩ := st
    exact ⟨⟨old, k e (by simp) _ q⟩, R.keep i h h' st fun o q => k it (by simp) o q⟩
  · intro X hP hw hK hc pins s σ H I hG
    obtain ⟨fp, Pd, St, D, hfp, h1, h2, h3⟩ := R.dr X hP hw hK hc pins s σ H I hG
    have hef : e ∉ it :: fp := fun hm => by
      rcases List.mem_cons.mp hm with z | z
      · exact hei z
      · exact absurd (Nat.lt_of_lt_of_le (hfp e z) he) (Nat.lt_irrefl _)
    refine ⟨_, _, _, _, _, WalksT.enumerateD D e hei hef (by simp), fun b hb => hb, fun i st => ⟨st.1, h1 i st.2⟩, fun i h st => ⟨st.1, h2 i h st.2⟩, ?_⟩
    rintro i vals ⟨t, x, hx, rfl⟩
    obtain ⟨v, hv, rv⟩ := h3 i x hx
    exact ⟨[.int (i : Nat), v], ⟨v, hv, rfl⟩, by show 2 ≤ 3; omega, .cons ⟨t, rfl⟩ (.cons rv .nil)⟩
theorem turn_zipS {P : Program} {w : World} {K : PySem.W.Frag} {elts : List Expr} {kk : Nat} {tpos : Pos} {N : Addr} {xs ys : List V} {G1 G2 : Hp → Prop} {S1 S2 : Nat → Heap → Prop} (R1 : Src P w K N N xs G1 S1) (R2 : Src P w K N (N + 1) ys G2 S2) :
    Turn P w K (.Tuple elts kk tpos) (ItPairs (min xs.length ys.length) (fun H => G1 H ∧ G2 H) fun i vs => ∃ x y, xs[i]? = some x ∧ ys[i]? = some y ∧ vs = [x, y]) [N + 4, N + 2, N + 3, N, N + 1] (N + 4)
      (fun i h => IsZip h (N + 4) (N + 2) (N + 3) .none ∧ IsTupOf2 h (N + 2) (.ref N) (.ref (N + 1)) ∧ (∃ a1 a2, IsTupOf2 h (N + 3) a1 a2) ∧ S1 i h ∧ S2 i h) := by
  refine turn_pairs (N + 4) [N + 4, N + 2, N + 3, N, N + 1] _ _ _ _ (by simp) (fun i h st b hb => ?_) (fun i h h' st k => ?_) ?_ (fun A i s Q E st h => wpAny_pyIter_zip st.1 h)
  · obtain ⟨hz, hT, ⟨a1, a2, hO⟩, st1, st2⟩ := st
    have e' : b = N + 4 ∨ b = N + 2 ∨ b = N + 3 ∨ b = N ∨ b = N + 1 := by simpa using hb
    rcases e' with z | z | z | z | z
    · rw [z]; exact ⟨_, hz, fun v q => nomatch q⟩
    · rw [z]; exact ⟨_, hT, fun v q => nomatch q⟩
    · rw [z]; exact ⟨_, hO, fun v q => nomatch q⟩
    · rw [z]; exact R1.obj i h st1
    · rw [z]; exact R2.obj i h st2
  · obtain ⟨hz, hT, ⟨a1, a2, hO⟩, st1, st2⟩ := st
    exact ⟨k (N + 4) (by simp) _ hz, k (N + 2) (by simp) _ hT, ⟨a1, a2, k (N + 3) (by simp) _ hO⟩, R1.keep i h h' st1 fun o q => k N (by simp) o q, R2.keep i h h' st2 fun o q => k (N + 1) (by simp) o q⟩
  · intro X hP hw hK hc pins s σ H I hG
    obtain ⟨fp1, P1, St1, D1, hf1, a1, b1, c1⟩ := R1.dr X hP hw hK hc pins s σ H I hG.1
    obtain ⟨fp2, P2, St2, D2, hf2, a2, b2, c2⟩ := R2.dr X hP hw hK hc pins s σ H I hG.2
    have W := WalksT.zipD2 (zip_sep2 hf1 hf2) D1 D2
    refine ⟨_, _, _, _, _, W, fun b hb => ?_, fun i st => ⟨st.1, st.2.1, st.2.2.1, a1 i st.2.2.2.1, a2 i st.2.2.2.2⟩, fun i h st => ⟨st.1, st.2.1, st.2.2.1, b1 i h st.2.2.2.1, b2 i h st.2.2.2.2⟩, ?_⟩
    · have e' : b = N + 4 ∨ b = N + 3 ∨ b = N ∨ b = N + 1 := by simpa using hb
      rcases e' with z | z | z | z <;> rw [z] <;> simp
    · rintro i vals ⟨x, y, hx, hy, rfl⟩
      obtain ⟨v, hv, rv⟩ := c1 i x hx
      obtain ⟨u, hu, ru⟩ := c2 i y hy
      exact ⟨[v, u], ⟨v, u, hv, hu, rfl⟩, by show 2 ≤ 3; omega, .cons rv (.cons ru .nil)⟩
end

/-! ### enumerate(v) of a tuple, a list, a text; zip of two of them -/
set_option maxHeartbeats 4000000 in
theorem meets_enum1 {v : Value} {o : Obj} {H : Heap → Prop} (B : Begins v o H) :
    Meets (Builtin.«enumerate.__new__» ⟨[.type "enumerate", v], []⟩) (fun _ R s => H s.heap ∧
      R (.ok (.ret (.ref (s.heap.push o).objs.size))) { s with heap := (s.heap.push o).push { cls := .type "enumerate", data := .fields #[.none, .bool false, .ref s.heap.objs.size, rawInt 0, .none, .none] } }) :=
  .of_wp fun prog w A R s h => by
    obtain ⟨hp, g, d, tk, os⟩ := s
    obtain ⟨h1, h⟩ := h
    have hsub := sub_enumerate
    have q1 : ∀ {A' : Around} {E : Value → Shared → Prop} {Q : Value → Shared → Prop}, Q (.ref hp.objs.size) ⟨hp.push o, g, d, tk, os⟩ → wpAny (model prog w) A' (pyIter v) Q E ⟨hp, g, d, tk, os⟩ :=
      fun q => B.iter prog w _ _ ⟨hp, g, d, tk, os⟩ _ h1 q
    wp_walk using q1
    refine wpAny_stack_any fun st => wpAny_pure ?_
    split
    · rename_i c _ _ _ _ _
      cases (c == Value.type "enumerate")
      · wp_walk using q1
        exact ⟨_, rfl, h⟩
      · wp_walk using q1
        exact ⟨_, rfl, h⟩
    · wp_walk using q1
      exact ⟨_, rfl, h⟩
theorem enum_new1 {prog : Program} {w : World} {A : Around} {E : Value → Shared → Prop} {s : Shared} {v : Value} {o : Obj} {H : Heap → Prop} {Q : Value → Shared → Prop} (B : Begins v o H) (h1 : H s.heap)
    (h : ∀ h', IsEnum h' (s.heap.objs.size + 1) s.heap.objs.size 0 .none → h'.get? s.heap.objs.size = some o → h'.objs.size = s.heap.objs.size + 2 →
      (∀ b o, s.heap.get? b = some o → h'.get? b = some o) → Q (.ref (s.heap.objs.size + 1)) { s with heap := h' }) :
    wpAny (model prog w) A (call (.type "enumerate") [v]) Q E s := by
  refine callType_new F.called_enumerate (by decide) (F.typeCall_enumerate_1 _) (F.newCall_enumerate_1 _) (fun obj => F.args_object_init_2 obj _) F.entry_enumerate_new (meets_enum1 B) ⟨h1, ?_⟩
  have hz : (s.heap.push o).objs.size = s.heap.objs.size + 1 := Heap.size_push ..
  show _ ∧ _
  rw [hz]
  have he : IsEnum ((s.heap.push o).push { cls := .type "enumerate", data := .fields #[.none, .bool false, .ref s.heap.objs.size, rawInt 0, .none, .none] }) (s.heap.objs.size + 1) s.heap.objs.size 0 .none := by
    have := Heap.get?_push_size (s.heap.push o) (o := { cls := .type "enumerate", data := .fields #[.none, .bool false, .ref s.heap.objs.size, rawInt 0, .none, .none] }) rfl
    rw [hz] at this; exact this
  refine ⟨⟨_, he, rfl⟩, h _ he (Heap.get?_push_of_some _ (Heap.get?_push_size _ B.free)) (by rw [Heap.size_push, hz]) fun b o x => Heap.get?_push_of_some _ (Heap.get?_push_of_some _ x)⟩
end Qd
namespace Qd
open PySem PySem.Spec PyProof.Rows L2

/-! ### what is walked, over data -/
def seqI : D → Option (List D)
  | .lst ds => some ds
  | .tup ds => some ds
  | .str z => some (z.cps.toList.map fun c => .str ⟨#[c]⟩)
  | _ => none
def enumD : Nat → List D → List D
  | _, [] => []
  | i, x :: r => .tup [.int (i : Nat), x] :: enumD (i + 1) r
theorem enumD_get : ∀ (xs : List D) (j i : Nat), (enumD j xs)[i]? = xs[i]?.map fun x => .tup [.int ((j + i : Nat) : Int), x]
  | [], j, i => by simp [enumD]
  | x :: r, j, 0 => by simp [enumD]
  | x :: r, j, i + 1 => by
    have ih := enumD_get r (j + 1) i
    show (enumD (j + 1) r)[i]? = r[i]?.map _
    rw [ih]
    have e : j + 1 + i = j + (i + 1) := by omega
    rw [e]
theorem enumD_length : ∀ (xs : List D) (j : Nat), (enumD j xs).length = xs.length
  | [], _ => rfl
  | x :: r, j => by show (enumD (j + 1) r).length + 1 = r.length + 1; rw [enumD_length r (j + 1)]
def zipD (xs ys : List D) : List D := List.zipWith (fun x y => .tup [x, y]) xs ys
def diSeq (de : DE) : DI := fun E M k => de E M fun d M1 => match d with
  | .lst ds => k ds M1
  | .tup ds => k ds M1
  | .str z => k (z.cps.toList.map fun c => .str ⟨#[c]⟩) M1
  | .scr ns => k (ns.map .int) M1
  | _ => False
def diRange1 (da : DA) : DI := fun E M k => da E M fun ds M1 => match ds with
  | [.int n] => n ≤ 1000000 ∧ -1000000 ≤ n ∧ k ((List.range n.toNat).map fun i => .int (i : Nat)) M1
  | _ => False
def diRange2 (da : DA) : DI := fun E M k => da E M fun ds M1 => match ds with
  | [.int a, .int b] => (-1000000 ≤ a ∧ a ≤ 1000000 ∧ -1000000 ≤ b ∧ b ≤ 1000000) ∧ k ((List.range (b - a).toNat).map fun i => .int (a + (i : Nat))) M1
  | _ => False
def diEnum (da : DA) : DI := fun E M k => da E M fun ds M1 => match ds with
  | [.lst ds] => k (enumD 0 ds) M1
  | [.tup ds] => k (enumD 0 ds) M1
  | [.str z] => k (enumD 0 (z.cps.toList.map fun c => .str ⟨#[c]⟩)) M1
  | _ => False
def lstI : D → Option (List D)
  | .lst ds => some ds
  | .tup ds => some ds
  | _ => none
def diZip (da : DA) : DI := fun E M k => da E M fun ds M1 => match ds with
  | [.lst a, .lst b] => k (zipD a b) M1
  | [.lst a, .tup b] => k (zipD a b) M1
  | [.tup a, .lst b] => k (zipD a b) M1
  | [.tup a, .tup b] => k (zipD a b) M1
  | _ => False

section
variable {X : Cx} {tg e e2 : Expr} {te : TE} {de : DE} {tA : TA} {dA : DA} {pos p : Pos} {K : PySem.W.Frag}
def iSeqA (K : PySem.W.Frag) (te : TE) : TI := fun σ H R => te σ H fun x H1 => (∃ a xs, x = .ref a ∧ SqL K H1 a xs ∧ R (Itl K a) H1) ∨ (∃ a xs, x = .ref a ∧ SqT K H1 a xs ∧ R (Itt K a) H1) ∨ ∃ z, x = .str z ∧ R (Its z) H1
theorem pi_seqA (h : PE X e te) : PI X tg e (iSeqA X.K te) := by
  refine ⟨fun pins s σ H R I hw => ?_⟩
  refine thn (h.run pins s σ H _ I hw) fun v s1 ⟨x, H1, I1, r1, q1⟩ => ?_
  rcases q1 with ⟨a, xs, rfl, hq, q⟩ | ⟨a, xs, rfl, hq, q⟩ | ⟨z, rfl, q⟩
  · cases r1
    obtain ⟨its, rv, p, hz⟩ := I1.list hq
    exact wpAny_pyIter_list p.isList (pi_one (tk := s1.toks) I1 _ (turn_list a _) ⟨_, Heap.get?_push_size _ rfl, rfl, rfl⟩ q)
  · cases r1
    obtain ⟨its, rv, p, hz⟩ := I1.tuple hq
    exact wpAny_pyIter_tuple (show s1.heap.IsTuple a its.toArray from p) (pi_one (tk := s1.toks) I1 _ (turn_tuple a _) ⟨_, Heap.get?_push_size _ rfl, rfl, rfl⟩ q)
  · obtain ⟨t, rfl⟩ := r1
    cases ha : z.cps.all (· < 128)
    · exact wpAny_pyIter_wide ha (pi_one (tk := s1.toks) I1 _ (turn_str _ z t "str_iterator" (.inr rfl)) ⟨_, Heap.get?_push_size _ rfl, rfl, rfl⟩ q)
    · exact wpAny_pyIter_ascii ha (pi_one (tk := s1.toks) I1 _ (turn_str _ z t "str_ascii_iterator" (.inl rfl)) ⟨_, Heap.get?_push_size _ rfl, rfl, rfl⟩ q)
theorem itr_list {I F : Hp} {a : Addr} {xs : List V} {ds : List D} (h : SqL K I a xs) (hd : DRs K I xs ds) : ItR K I F (Itl K a) ds := by
  refine ⟨fun H => SqL K H a xs, YAt xs, by rw [← hd.len]; exact walk_list, fun I' M' H' s ⟨F', r⟩ => r.sub.seq (s.seq h), fun i H x H' I' F' M' hin hy s r => ?_⟩
  obtain ⟨rfl, hx⟩ := hy
  obtain ⟨d, e, rd⟩ := hd.getV hx
  exact ⟨I', r, Same.refl I', d, e, rd.mono s⟩
theorem itr_tup {I F : Hp} {a : Addr} {xs : List V} {ds : List D} (h : SqT K I a xs) (hd : DRs K I xs ds) : ItR K I F (Itt K a) ds := by
  refine ⟨fun H => SqT K H a xs, YAt xs, by rw [← hd.len]; exact walk_tup, fun I' M' H' s ⟨F', r⟩ => Same.sqt r.sub (Same.sqt s h), fun i H x H' I' F' M' hin hy s r => ?_⟩
  obtain ⟨rfl, hx⟩ := hy
  obtain ⟨d, e, rd⟩ := hd.getV hx
  exact ⟨I', r, Same.refl I', d, e, rd.mono s⟩
theorem sign_len (c : Nat) : (⟨#[c]⟩ : Str).length ≤ sizeLine := by show 1 ≤ sizeLine; decide
theorem signs_dr {I : Hp} (z : Str) : DRs K I (signsV z) (z.cps.toList.map fun c => .str ⟨#[c]⟩) := DRs.ofMap fun c _ => .str _ (sign_len c)
theorem itr_str {I F : Hp} {z : Str} : ItR K I F (Its z) (z.cps.toList.map fun c => .str ⟨#[c]⟩) := by
  refine ⟨fun H => True, _, by rw [List.length_map, Array.length_toList]; exact walk_str, fun I' M' H' s r => trivial, fun i H x H' I' F' M' hin hy s r => ?_⟩
  obtain ⟨rfl, c, hc, rfl⟩ := hy
  refine ⟨I', r, Same.refl I', .str ⟨#[c]⟩, ?_, .str _ (sign_len c)⟩
  rw [List.getElem?_map]
  have : z.cps.toList[i]? = some c := by simpa using hc
  rw [this]; rfl
theorem qi_seq (h : QE X e te de) : QI X tg e (iSeqA X.K te) (diSeq de) := ⟨pi_seqA h.pe, fun E M k σ I F H R hd er rp kk =>
  h.sim E M _ σ I F H _ hd er rp fun d M1 v I1 H1 q rp1 s1 d1 => by
    cases d with
    | lst ds =>
      obtain ⟨a, xs, rfl, h1, h2, h3⟩ := d1.lst_inv
      exact .inl ⟨a, xs, rfl, rp1.sub.seq (.inl (.inl h1)), kk ds M1 _ I1 H1 q (by rw [← h3.len]; exact h2) rp1 s1 (itr_list (.inl (.inl h1)) h3)⟩
    | tup ds =>
      obtain ⟨a, xs, rfl, h1, h2, h3⟩ := d1.tup_inv
      exact .inr (.inl ⟨a, xs, rfl, Same.sqt rp1.sub h1, kk ds M1 _ I1 H1 q (by rw [← h3.len]; exact h2) rp1 s1 (itr_tup h1 h3)⟩)
    | str z =>
      obtain ⟨rfl, hz⟩ := d1.str_inv
      exact .inr (.inr ⟨z, rfl, kk _ M1 _ I1 H1 q (by rw [List.length_map, Array.length_toList]; exact hz) rp1 s1 itr_str⟩)
    | scr ns =>
      cases d1 with
      | scr h1 h2 =>
        exact .inl ⟨_, _, rfl, rp1.sub.seq h1, kk _ M1 _ I1 H1 q (by rw [List.length_map]; exact Nat.le_trans h2 (by decide)) rp1 s1 (itr_list h1 (DRs.ofMap fun i _ => .int i))⟩
    | _ => exact q.elim⟩
theorem itr_range {I F : Hp} {lo : Int} {n : Nat} : ItR K I F (Itr lo n) ((List.range n).map fun i => .int (lo + (i : Nat))) := by
  refine ⟨fun H => True, _, by rw [List.length_map, List.length_range]; exact walk_range, fun I' M' H' s r => trivial, fun i H x H' I' F' M' hin hy s r => ?_⟩
  obtain ⟨rfl, rfl⟩ := hy
  rw [List.length_map, List.length_range] at hin
  refine ⟨I', r, Same.refl I', .int (lo + (i : Nat)), ?_, .int _⟩
  rw [List.getElem?_map, List.getElem?_range hin]; rfl
theorem qi_range1 (hg : Gl X "range") (hm : X.mg "range" = none) (ha : QA X [e] tA dA) (hs : starEach [e] X.env = [(false, eval e X.env)] := by rfl) : QI X tg (.Call (.Name "range" p) [e] [] pos) (iRng1 tA) (diRange1 dA) := ⟨pi_range1 hg hm ha.pa hs, fun E M k σ I F H R hd er rp kk =>
  ha.sim E M _ σ I F H _ hd er rp fun ds M1 vs I1 H1 hl q rp1 s1 d1 => by
    match ds, q, d1 with
    | [.int n], q, d1 =>
      have hv : vs = [.int n] := by
        match vs, d1 with
        | [v], d1 => rw [d1.head.int_inv]
        | [], d1 => have := d1.len; simp at this
        | _ :: _ :: _, d1 => have := d1.len; simp at this
      subst hv
      obtain ⟨h1, h2, q⟩ := q
      refine ⟨n, rfl, by omega, by omega, kk _ M1 _ I1 H1 q ?_ rp1 s1 ?_⟩
      · rw [List.length_map, List.length_range]; exact Nat.le_trans (show n.toNat ≤ 1000000 by omega) (by decide)
      · have h := itr_range (K := X.K) (I := I1) (F := F) (lo := 0) (n := n.toNat)
        have e0 : (fun i : Nat => D.int (0 + (i : Int))) = fun i : Nat => D.int (i : Int) := by funext i; rw [Int.zero_add]
        rw [e0] at h
        exact h⟩
theorem qi_range2 (hg : Gl X "range") (hm : X.mg "range" = none) (ha : QA X [e, e2] tA dA) (hs : starEach [e, e2] X.env = [(false, eval e X.env), (false, eval e2 X.env)] := by rfl) (hs2 : starEach [e2] X.env = [(false, eval e2 X.env)] := by rfl) : QI X tg (.Call (.Name "range" p) [e, e2] [] pos) (iRng2 tA) (diRange2 dA) := ⟨pi_range2 hg hm ha.pa hs hs2, fun E M k σ I F H R hd er rp kk =>
  ha.sim E M _ σ I F H _ hd er rp fun ds M1 vs I1 H1 hl q rp1 s1 d1 => by
    match ds, q, d1 with
    | [.int a, .int b], q, d1 =>
      have hv : vs = [.int a, .int b] := by
        match vs, d1 with
        | [v, u], d1 => rw [d1.head.int_inv, d1.tail.head.int_inv]
        | [], d1 => have := d1.len; simp at this
        | [_], d1 => have := d1.len; simp at this
        | _ :: _ :: _ :: _, d1 => have := d1.len; simp at this
      subst hv
      obtain ⟨⟨h1, h2, h3, h4⟩, q⟩ := q
      refine ⟨a, b, rfl, ⟨by omega, by omega, by omega, by omega⟩, kk _ M1 _ I1 H1 q ?_ rp1 s1 itr_range⟩
      rw [List.length_map, List.length_range]; exact Nat.le_trans (show (b - a).toNat ≤ 2000000 by omega) (by decide)⟩

/-! ### enumerate, zip -/
def YEn (xs : List V) : Nat → List V → Prop := fun i vs => ∃ x, xs[i]? = some x ∧ vs = [.int (i : Nat), x]
def YZp (xs ys : List V) : Nat → List V → Prop := fun i vs => ∃ x y, xs[i]? = some x ∧ ys[i]? = some y ∧ vs = [x, y]
def iEnumA (K : PySem.W.Frag) (ta : TA) : TI := fun σ H R => ta σ H fun vs H1 => (∃ a xs, vs = [.ref a] ∧ SqL K H1 a xs ∧ R (ItPairs xs.length (fun H => SqL K H a xs) (YEn xs)) H1) ∨
  (∃ a xs, vs = [.ref a] ∧ SqT K H1 a xs ∧ R (ItPairs xs.length (fun H => SqT K H a xs) (YEn xs)) H1) ∨ ∃ z, vs = [.str z] ∧ R (ItPairs (signsV z).length (fun _ => True) (YEn (signsV z))) H1
theorem pi_enumA {tpos : Pos} {elts : List Expr} {kk : Nat} (hg : Gl X "enumerate") (hm : X.mg "enumerate" = none) (ha : PA X [e] tA) (hs : starEach [e] X.env = [(false, eval e X.env)] := by rfl) :
    PI X (.Tuple elts kk tpos) (.Call (.Name "enumerate" p) [e] [] pos) (iEnumA X.K tA) := by
  refine ⟨fun pins s σ H R I h => ?_⟩
  refine Call_ (ld_blt I hg hm boot_enumerate (PyProof.Rows.callWith_type1 (thn (ha.run pos pins s σ H _ I h) fun us s1 ⟨vs, H1, I1, r1, q1⟩ => ?_) hs rfl))
  have cells : ∀ b ∈ [s1.heap.objs.size + 1, s1.heap.objs.size], FpOk X pins H1 b := fun b hb => by
    have e' : b = s1.heap.objs.size + 1 ∨ b = s1.heap.objs.size := by simpa using hb
    have hle : s1.heap.objs.size ≤ b := by
      rcases e' with z | z
      · rw [z]; exact Nat.le_add_right _ _
      · rw [z]; exact Nat.le_refl _
    exact I1.fpOk hle (I1.hok.fresh hle)
  rcases q1 with ⟨a, xs, rfl, hq, q⟩ | ⟨a, xs, rfl, hq, q⟩ | ⟨z, rfl, q⟩
  · cases r1 with
    | cons r rr =>
      cases rr
      cases r
      obtain ⟨its, rv, p', hz⟩ := I1.list hq
      refine enum_new1 (begins_list a its.toArray) p'.isList fun h' he ho hsz hk => wpAny_pyIter_enum he ?_
      exact ⟨s1.heap.objs.size + 1, [s1.heap.objs.size + 1, s1.heap.objs.size], _, _, H1, rfl, I1.kept (t' := s1.toks) hk, turn_enumS (src_lst (N := s1.heap.objs.size) p'.lt (Nat.le_refl _)) (Nat.le_succ _) (Nat.succ_ne_self _), ⟨⟨.none, he⟩, ⟨_, ho, rfl, rfl⟩⟩, cells, q⟩
  · cases r1 with
    | cons r rr =>
      cases rr
      cases r
      obtain ⟨its, rv, p', hz⟩ := I1.tuple hq
      have hlt : a < s1.heap.objs.size := by obtain ⟨o, ho, _⟩ := id p'; exact Heap.lt_size ho
      refine enum_new1 (begins_tuple a its.toArray) (show s1.heap.IsTuple a its.toArray from p') fun h' he ho hsz hk => wpAny_pyIter_enum he ?_
      exact ⟨s1.heap.objs.size + 1, [s1.heap.objs.size + 1, s1.heap.objs.size], _, _, H1, rfl, I1.kept (t' := s1.toks) hk, turn_enumS (src_tup (N := s1.heap.objs.size) hlt (Nat.le_refl _)) (Nat.le_succ _) (Nat.succ_ne_self _), ⟨⟨.none, he⟩, ⟨_, ho, rfl, rfl⟩⟩, cells, q⟩
  · cases r1 with
    | cons r rr =>
      cases rr
      obtain ⟨t, rfl⟩ := r
      refine enum_new1 (begins_text z t) trivial fun h' he ho hsz hk => wpAny_pyIter_enum he ?_
      exact ⟨s1.heap.objs.size + 1, [s1.heap.objs.size + 1, s1.heap.objs.size], _, _, H1, rfl, I1.kept (t' := s1.toks) hk, turn_enumS (src_str (N := s1.heap.objs.size) (t := t)) (Nat.le_succ _) (Nat.succ_ne_self _), ⟨⟨.none, he⟩, ⟨_, ho, rfl, rfl⟩⟩, cells, q⟩
def SqA (K : PySem.W.Frag) (H : Hp) (a : Addr) (xs : List V) : Prop := SqL K H a xs ∨ SqT K H a xs
theorem SqA.same {H H' : Hp} {a : Addr} {xs : List V} (s : Same H H') (h : SqA K H a xs) : SqA K H' a xs := h.elim (fun h => .inl (s.seq h)) fun h => .inr (Same.sqt s h)
def zR (a b : Addr) (xs ys : List V) (G1 G2 : Hp → Prop) (R : It → Hp → Prop) (H1 : Hp) : Prop := G1 H1 ∧ G2 H1 ∧ R (ItPairs (min xs.length ys.length) (fun H => G1 H ∧ G2 H) (YZp xs ys)) H1
def iZipS (K : PySem.W.Frag) (ta : TA) : TI := fun σ H R => ta σ H fun vs H1 => ∃ a b xs ys, vs = [.ref a, .ref b] ∧ (zR a b xs ys (fun H => SqL K H a xs) (fun H => SqL K H b ys) R H1 ∨ zR a b xs ys (fun H => SqL K H a xs) (fun H => SqT K H b ys) R H1 ∨
  zR a b xs ys (fun H => SqT K H a xs) (fun H => SqL K H b ys) R H1 ∨ zR a b xs ys (fun H => SqT K H a xs) (fun H => SqT K H b ys) R H1)
theorem pi_zipS {tpos : Pos} {elts : List Expr} {kk : Nat} (hg : Gl X "zip") (hm : X.mg "zip" = none) (ha : PA X [e, e2] tA) (hs : starEach [e, e2] X.env = (false, eval e X.env) :: starEach [e2] X.env := by rfl) (hpl : (backTo pos (starEach [e2] X.env)).any (·.1) = false := by rfl) :
    PI X (.Tuple elts kk tpos) (.Call (.Name "zip" p) [e, e2] [] pos) (iZipS X.K tA) := by
  refine ⟨fun pins s σ H R I h => ?_⟩
  refine Call_ (ld_blt I hg hm PyProof.Rows.boot_zip (PyProof.Rows.callWith_type1 (thn (ha.run pos pins s σ H _ I h) fun us s1 ⟨vs, H1, I1, r1, q1⟩ => ?_) hs hpl))
  obtain ⟨a, b, xs, ys, rfl, q1⟩ := q1
  cases r1 with
  | cons r rr =>
    cases rr with
    | cons r' rr =>
      cases rr
      cases r
      cases r'
      have cells : ∀ c, c ∈ [s1.heap.objs.size + 4, s1.heap.objs.size + 2, s1.heap.objs.size + 3, s1.heap.objs.size, s1.heap.objs.size + 1] → FpOk X pins H1 c := fun c hcm => by
        have e' : c = s1.heap.objs.size + 4 ∨ c = s1.heap.objs.size + 2 ∨ c = s1.heap.objs.size + 3 ∨ c = s1.heap.objs.size ∨ c = s1.heap.objs.size + 1 := by simpa using hcm
        have hle : s1.heap.objs.size ≤ c := by
          rcases e' with z | z | z | z | z <;> rw [z] <;> first | exact Nat.le_add_right _ _ | exact Nat.le_refl _
        exact I1.fpOk hle (I1.hok.fresh hle)
      have go : ∀ (o1 o2 : Obj) (Ha Hb : Heap → Prop) (G1 G2 : Hp → Prop) (S1 S2 : Nat → Heap → Prop), Begins (.ref a) o1 Ha → Begins (.ref b) o2 Hb → Ha s1.heap → Hb s1.heap → Src X.prog X.w X.K s1.heap.objs.size s1.heap.objs.size xs G1 S1 → Src X.prog X.w X.K s1.heap.objs.size (s1.heap.objs.size + 1) ys G2 S2 →
          (∀ h, h.get? s1.heap.objs.size = some o1 → S1 0 h) → (∀ h, h.get? (s1.heap.objs.size + 1) = some o2 → S2 0 h) → R (ItPairs (min xs.length ys.length) (fun H => G1 H ∧ G2 H) (YZp xs ys)) H1 →
          wpAny (model X.prog X.w) X.A (call (.type "zip") [.ref a, .ref b]) (fun v s1 => wpAny (model X.prog X.w) X.A (pyIter v) (PIE X pins σ (.Tuple elts kk tpos) R) X.xe s1) X.xe s1 := by
        intro o1 o2 Ha Hb G1 G2 S1 S2 B1 B2 h1 h2 R1 R2 f1 f2 q
        refine zip_begins2 B1 B2 h1 h2 fun h' hz hTI hTO g1 g2 hsz hk => wpAny_pyIter_zip hz ?_
        exact ⟨s1.heap.objs.size + 4, [s1.heap.objs.size + 4, s1.heap.objs.size + 2, s1.heap.objs.size + 3, s1.heap.objs.size, s1.heap.objs.size + 1], _, _, H1, rfl, I1.kept (t' := s1.toks) hk, turn_zipS R1 R2, ⟨hz, hTI, ⟨_, _, hTO⟩, f1 h' g1, f2 h' g2⟩, cells, q⟩
      have lt2 : ∀ {c : Addr} {zs : List V} {its : List Value}, IsTup s1.heap c its.toArray → c < s1.heap.objs.size := fun h => by obtain ⟨o, ho, _⟩ := h; exact Heap.lt_size ho
      rcases q1 with ⟨hqx, hqy, q⟩ | ⟨hqx, hqy, q⟩ | ⟨hqx, hqy, q⟩ | ⟨hqx, hqy, q⟩
      · obtain ⟨its, rv, p1, _⟩ := I1.list hqx
        obtain ⟨its2, rv2, p2, _⟩ := I1.list hqy
        exact go _ _ _ _ _ _ _ _ (begins_list a its.toArray) (begins_list b its2.toArray) p1.isList p2.isList (src_lst p1.lt (Nat.le_refl _)) (src_lst p2.lt (Nat.le_succ _)) (fun h g => ⟨_, g, rfl, rfl⟩) (fun h g => ⟨_, g, rfl, rfl⟩) q
      · obtain ⟨its, rv, p1, _⟩ := I1.list hqx
        obtain ⟨its2, rv2, p2, _⟩ := I1.tuple hqy
        exact go _ _ _ _ _ _ _ _ (begins_list a its.toArray) (begins_tuple b its2.toArray) p1.isList (show s1.heap.IsTuple b its2.toArray from p2) (src_lst p1.lt (Nat.le_refl _)) (src_tup (lt2 (zs := []) p2) (Nat.le_succ _)) (fun h g => ⟨_, g, rfl, rfl⟩) (fun h g => ⟨_, g, rfl, rfl⟩) q
      · obtain ⟨its, rv, p1, _⟩ := I1.tuple hqx
        obtain ⟨its2, rv2, p2, _⟩ := I1.list hqy
        exact go _ _ _ _ _ _ _ _ (begins_tuple a its.toArray) (begins_list b its2.toArray) (show s1.heap.IsTuple a its.toArray from p1) p2.isList (src_tup (lt2 (zs := []) p1) (Nat.le_refl _)) (src_lst p2.lt (Nat.le_succ _)) (fun h g => ⟨_, g, rfl, rfl⟩) (fun h g => ⟨_, g, rfl, rfl⟩) q
      · obtain ⟨its, rv, p1, _⟩ := I1.tuple hqx
        obtain ⟨its2, rv2, p2, _⟩ := I1.tuple hqy
        exact go _ _ _ _ _ _ _ _ (begins_tuple a its.toArray) (begins_tuple b its2.toArray) (show s1.heap.IsTuple a its.toArray from p1) (show s1.heap.IsTuple b its2.toArray from p2) (src_tup (lt2 (zs := []) p1) (Nat.le_refl _)) (src_tup (lt2 (zs := []) p2) (Nat.le_succ _)) (fun h g => ⟨_, g, rfl, rfl⟩) (fun h g => ⟨_, g, rfl, rfl⟩) q
/-- a walk whose turns hand out new tuples -/
theorem itr_pairs {I F : Hp} {n : Nat} {G : Hp → Prop} {Yp : Nat → List V → Prop} {ds : List D} (hn : ds.length = n) (hG : ∀ I' M' H', Same I I' → (∃ F', Rep K I' F' M' H') → G H')
    (hY : ∀ i vs, i < n → Yp i vs → ∃ es, ds[i]? = some (.tup es) ∧ DRs K I vs es ∧ vs.length ≤ 3) : ItR K I F (ItPairs n G Yp) ds := by
  subst hn
  refine ⟨G, _, walk_pairs, hG, fun i H x H' I' F' M' hin hy s r => ?_⟩
  obtain ⟨T, vs, rfl, hT, rfl, hYp⟩ := hy
  obtain ⟨es, he, hd, hl⟩ := hY i vs hin hYp
  exact ⟨_, r.still hT _, same_new (r.freeI hT), .tup es, he, .newT (r.freeI hT) (Nat.le_trans hl (by decide)) (hd.mono s)⟩
theorem itr_enum {I F : Hp} {G : Hp → Prop} {xs : List V} {ds : List D} (hd : DRs K I xs ds) (hG : ∀ I' M' H', Same I I' → (∃ F', Rep K I' F' M' H') → G H') : ItR K I F (ItPairs xs.length G (YEn xs)) (enumD 0 ds) := by
  refine itr_pairs (by rw [enumD_length, hd.len]) hG fun i vs hi hy => ?_
  obtain ⟨x, hx, rfl⟩ := hy
  obtain ⟨d, hdd, rd⟩ := hd.getV hx
  refine ⟨[.int (i : Nat), d], ?_, .cons (.int _) (.cons rd .nil), by show 2 ≤ 3; omega⟩
  rw [enumD_get, hdd, Nat.zero_add]
  rfl
theorem itr_zip {I F : Hp} {G : Hp → Prop} {xs ys : List V} {as bs : List D} (h1 : DRs K I xs as) (h2 : DRs K I ys bs) (hG : ∀ I' M' H', Same I I' → (∃ F', Rep K I' F' M' H') → G H') : ItR K I F (ItPairs (min xs.length ys.length) G (YZp xs ys)) (zipD as bs) := by
  refine itr_pairs (by unfold zipD; rw [List.length_zipWith, h1.len, h2.len]) hG fun i vs hi hy => ?_
  obtain ⟨x, y, hx, hy, rfl⟩ := hy
  obtain ⟨d, hdd, rd⟩ := h1.getV hx
  obtain ⟨e, hee, re⟩ := h2.getV hy
  refine ⟨[d, e], ?_, .cons rd (.cons re .nil), by show 2 ≤ 3; omega⟩
  unfold zipD
  rw [List.getElem?_zipWith, hdd, hee]
theorem drs1 {I : Hp} {d : D} {vs : List V} (h : DRs K I vs [d]) : ∃ v, vs = [v] ∧ DR K I v d := by
  match vs, h with
  | [v], h => exact ⟨v, rfl, h.head⟩
  | [], h => have := h.len; simp at this
  | _ :: _ :: _, h => have := h.len; simp at this
theorem drs2 {I : Hp} {d e : D} {vs : List V} (h : DRs K I vs [d, e]) : ∃ v u, vs = [v, u] ∧ DR K I v d ∧ DR K I u e := by
  match vs, h with
  | [v, u], h => exact ⟨v, u, rfl, h.head, h.tail.head⟩
  | [], h => have := h.len; simp at this
  | [_], h => have := h.len; simp at this
  | _ :: _ :: _ :: _, h => have := h.len; simp at this
theorem qi_enum {tpos : Pos} {elts : List Expr} {kn : Nat} (hg : Gl X "enumerate") (hm : X.mg "enumerate" = none) (ha : QA X [e] tA dA) (hs : starEach [e] X.env = [(false, eval e X.env)] := by rfl) :
    QI X (.Tuple elts kn tpos) (.Call (.Name "enumerate" p) [e] [] pos) (iEnumA X.K tA) (diEnum dA) := ⟨pi_enumA hg hm ha.pa hs, fun E M k σ I F H R hd er rp kk =>
  ha.sim E M _ σ I F H _ hd er rp fun ds M1 vs I1 H1 hl q rp1 s1 d1 => by
    match ds, q, d1 with
    | [.lst xs], q, d1 =>
      obtain ⟨v, rfl, d2⟩ := drs1 d1
      obtain ⟨a, ys, rfl, h1, h2, h3⟩ := d2.lst_inv
      have hq : SqL X.K I1 a ys := .inl (.inl h1)
      exact .inl ⟨a, ys, rfl, rp1.sub.seq hq, kk _ M1 _ I1 H1 q (by rw [enumD_length, ← h3.len]; exact h2) rp1 s1 (itr_enum h3 fun I' M' H' s ⟨F', r⟩ => r.sub.seq (s.seq hq))⟩
    | [.tup xs], q, d1 =>
      obtain ⟨v, rfl, d2⟩ := drs1 d1
      obtain ⟨a, ys, rfl, h1, h2, h3⟩ := d2.tup_inv
      exact .inr (.inl ⟨a, ys, rfl, Same.sqt rp1.sub h1, kk _ M1 _ I1 H1 q (by rw [enumD_length, ← h3.len]; exact h2) rp1 s1 (itr_enum h3 fun I' M' H' s ⟨F', r⟩ => Same.sqt r.sub (Same.sqt s h1))⟩)
    | [.str z], q, d1 =>
      obtain ⟨v, rfl, d2⟩ := drs1 d1
      obtain ⟨rfl, hz⟩ := d2.str_inv
      exact .inr (.inr ⟨z, rfl, kk _ M1 _ I1 H1 q (by rw [enumD_length, List.length_map, Array.length_toList]; exact hz) rp1 s1 (itr_enum (signs_dr z) fun I' M' H' s r => trivial)⟩)⟩
theorem qi_zip {tpos : Pos} {elts : List Expr} {kn : Nat} (hg : Gl X "zip") (hm : X.mg "zip" = none) (ha : QA X [e, e2] tA dA) (hs : starEach [e, e2] X.env = (false, eval e X.env) :: starEach [e2] X.env := by rfl) (hpl : (backTo pos (starEach [e2] X.env)).any (·.1) = false := by rfl) :
    QI X (.Tuple elts kn tpos) (.Call (.Name "zip" p) [e, e2] [] pos) (iZipS X.K tA) (diZip dA) := ⟨pi_zipS hg hm ha.pa hs hpl, fun E M k σ I F H R hd er rp kk =>
  ha.sim E M _ σ I F H _ hd er rp fun ds M1 vs I1 H1 hl q rp1 s1 d1 => by
    have fin : ∀ (a b : Addr) (xs ys : List V) (as bs : List D) (G1 G2 : Hp → Prop), G1 I1 → G2 I1 → (∀ H H', Same H H' → G1 H → G1 H') → (∀ H H', Same H H' → G2 H → G2 H') → xs.length ≤ sizeLine → DRs X.K I1 xs as → DRs X.K I1 ys bs → k (zipD as bs) M1 → zR a b xs ys G1 G2 R H1 := by
      intro a b xs ys as bs G1 G2 g1 g2 m1 m2 hz a3 b3 q
      refine ⟨m1 _ _ rp1.sub g1, m2 _ _ rp1.sub g2, kk _ M1 _ I1 H1 q ?_ rp1 s1 (itr_zip a3 b3 fun I' M' H' s ⟨F', r⟩ => ⟨m1 _ _ r.sub (m1 _ _ s g1), m2 _ _ r.sub (m2 _ _ s g2)⟩)⟩
      unfold zipD
      rw [List.length_zipWith, ← a3.len]
      exact Nat.le_trans (Nat.min_le_left _ _) hz
    match ds, q, d1 with
    | [.lst as, .lst bs], q, d1 =>
      obtain ⟨v, u, rfl, r1, r2⟩ := drs2 d1
      obtain ⟨a, xs, rfl, a1, a2, a3⟩ := r1.lst_inv
      obtain ⟨b, ys, rfl, b1, b2, b3⟩ := r2.lst_inv
      exact ⟨a, b, xs, ys, rfl, .inl (fin a b xs ys as bs _ _ (.inl (.inl a1)) (.inl (.inl b1)) (fun _ _ s h => s.seq h) (fun _ _ s h => s.seq h) a2 a3 b3 q)⟩
    | [.lst as, .tup bs], q, d1 =>
      obtain ⟨v, u, rfl, r1, r2⟩ := drs2 d1
      obtain ⟨a, xs, rfl, a1, a2, a3⟩ := r1.lst_inv
      obtain ⟨b, ys, rfl, b1, b2, b3⟩ := r2.tup_inv
      exact ⟨a, b, xs, ys, rfl, .inr (.inl (fin a b xs ys as bs _ _ (.inl (.inl a1)) b1 (fun _ _ s h => s.seq h) (fun _ _ s h => Same.sqt s h) a2 a3 b3 q))⟩
    | [.tup as, .lst bs], q, d1 =>
      obtain ⟨v, u, rfl, r1, r2⟩ := drs2 d1
      obtain ⟨a, xs, rfl, a1, a2, a3⟩ := r1.tup_inv
      obtain ⟨b, ys, rfl, b1, b2, b3⟩ := r2.lst_inv
      exact ⟨a, b, xs, ys, rfl, .inr (.inr (.inl (fin a b xs ys as bs _ _ a1 (.inl (.inl b1)) (fun _ _ s h => Same.sqt s h) (fun _ _ s h => s.seq h) a2 a3 b3 q)))⟩
    | [.tup as, .tup bs], q, d1 =>
      obtain ⟨v, u, rfl, r1, r2⟩ := drs2 d1
      obtain ⟨a, xs, rfl, a1, a2, a3⟩ := r1.tup_inv
      obtain ⟨b, ys, rfl, b1, b2, b3⟩ := r2.tup_inv
      exact ⟨a, b, xs, ys, rfl, .inr (.inr (.inr (fin a b xs ys as bs _ _ a1 b1 (fun _ _ s h => Same.sqt s h) (fun _ _ s h => Same.sqt s h) a2 a3 b3 q)))⟩⟩
end
end Qd
namespace Qd
open PySem PySem.Spec PyProof.Rows L2

/-! ### operators over data -/
def vw (M : Mem) (d : D) : D := match d with
  | .ref p => (match M p with
    | some (.lst ds) => .lst ds
    | _ => .ref p)
  | d => d
theorem vw_eq {M : Mem} {a d : D} (h : vw M a = d) : a = d ∨ ∃ p ds, a = .ref p ∧ M p = some (.lst ds) ∧ d = .lst ds := by
  unfold vw at h
  split at h
  · rename_i p
    split at h
    · rename_i ds e
      exact .inr ⟨p, ds, rfl, e, h.symm⟩
    · exact .inl h
  · exact .inl h
theorem vw_ref {M : Mem} {p : Addr} {ds : List D} (h : M p = some (.lst ds)) : vw M (.ref p) = .lst ds := by
  show (match M p with | some (.lst ds) => D.lst ds | _ => D.ref p) = .lst ds
  rw [h]
theorem vw_int {M : Mem} {a : D} {i : Int} (h : vw M a = .int i) : a = .int i := by
  rcases vw_eq h with h | ⟨_, _, _, _, h⟩
  · exact h
  · cases h
theorem vw_str {M : Mem} {a : D} {i : Str} (h : vw M a = .str i) : a = .str i := by
  rcases vw_eq h with h | ⟨_, _, _, _, h⟩
  · exact h
  · cases h
theorem vw_bl {M : Mem} {a : D} {i : Bool} (h : vw M a = .bl i) : a = .bl i := by
  rcases vw_eq h with h | ⟨_, _, _, _, h⟩
  · exact h
  · cases h
theorem vw_tup {M : Mem} {a : D} {i : List D} (h : vw M a = .tup i) : a = .tup i := by
  rcases vw_eq h with h | ⟨_, _, _, _, h⟩
  · exact h
  · cases h
theorem vw_scr {M : Mem} {a : D} {i : List Int} (h : vw M a = .scr i) : a = .scr i := by
  rcases vw_eq h with h | ⟨_, _, _, _, h⟩
  · exact h
  · cases h
theorem vw_non {M : Mem} {a : D} (h : vw M a = .non) : a = .non := by
  rcases vw_eq h with h | ⟨_, _, _, _, h⟩
  · exact h
  · cases h
theorem lstAt {K : PySem.W.Frag} {I F H : Hp} {M : Mem} {a : D} {x : V} {ds : List D} (rp : Rep K I F M H) (r : DR K I x a) (h : vw M a = .lst ds) : ∃ l xs, x = .ref l ∧ H l = some (.lst xs) ∧ xs.length ≤ sizeLine ∧ DRs K I xs ds := by
  rcases vw_eq h with rfl | ⟨p, es, rfl, hm, e⟩
  · obtain ⟨l, xs, rfl, h1, h2, h3⟩ := r.lst_inv
    exact ⟨l, xs, rfl, rp.sub _ _ h1, h2, h3⟩
  · cases e
    obtain rfl := r.ref_inv
    obtain ⟨_, xs, h1, h2, h3⟩ := rp.mem p _ hm
    exact ⟨p, xs, rfl, h1, h2, h3⟩
def vOr (r r' : R2) : R2 := fun x y H Q => r x y H Q ∨ r' x y H Q
def vAddS : R2 := fun x y H Q => ∃ i j, x = .str i ∧ y = .str j ∧ i.length + j.length ≤ sizeLine ∧ Q (.str (i ++ j)) H
def oAdd (x y : D) (M : Mem) (k : DK) : Prop := match vw M x, vw M y with
  | .int i, .int j => k (.int (i + j)) M
  | .str a, .str b => a.length + b.length ≤ 1000000 ∧ k (.str (a ++ b)) M
  | .lst a, .lst b => a.length + b.length ≤ 1000000 ∧ k (.lst (a ++ b)) M
  | .tup a, .tup b => a.length + b.length ≤ 1000000 ∧ k (.tup (a ++ b)) M
  | _, _ => False
def oSub (x y : D) (M : Mem) (k : DK) : Prop := match x, y with
  | .int i, .int j => k (.int (i - j)) M
  | _, _ => False
/-- ints: one of them small, or both below 2 ^ 400000 -/
def oMul (x y : D) (M : Mem) (k : DK) : Prop := match vw M x, y with
  | .int i, .int j => CMulW i j ∧ k (.int (i * j)) M
  | .lst a, .int j => (j ≤ 1000000 ∧ -1000000 ≤ j ∧ a.length * j.toNat ≤ 1000000) ∧ k (.lst (List.replicate j.toNat a).flatten) M
  | _, _ => False
def oDiv (x y : D) (M : Mem) (k : DK) : Prop := match x, y with
  | .int i, .int j => CDivW i j ∧ k (.int (i / j)) M
  | _, _ => False
def oMod (x y : D) (M : Mem) (k : DK) : Prop := match x, y with
  | .int i, .int j => 0 < j ∧ k (.int (i % j)) M
  | _, _ => False
def oPow (x y : D) (M : Mem) (k : DK) : Prop := match x, y with
  | .int i, .int j => CPowB i j ∧ k (.int (i ^ j.toNat)) M
  | _, _ => False
def oNeg (x : D) (M : Mem) (k : DK) : Prop := match x with
  | .int i => k (.int (-i)) M
  | _ => False
def oCmp (f : Int → Int → Bool) (x y : D) (M : Mem) (k : DK) : Prop := match x, y with
  | .int i, .int j => k (.bl (f i j)) M
  | _, _ => False
abbrev oLt := oCmp fun i j => decide (i < j)
abbrev oLe := oCmp fun i j => decide (i ≤ j)
abbrev oGt := oCmp fun i j => decide (j < i)
abbrev oGe := oCmp fun i j => decide (j ≤ i)
def isNon : D → Bool
  | .non => true
  | _ => false
def oIs (neg : Bool) (x y : D) (M : Mem) (k : DK) : Prop := match y with
  | .non => k (.bl (if neg then !isNon x else isNon x)) M
  | _ => False
mutual
def toP : D → PyData
  | .bl b => .bool b
  | .int i => .int i
  | .str s => .str s
  | .lst ds => .list (toPs ds)
  | .tup ds => .tuple (toPs ds)
  | _ => .none
def toPs : List D → List PyData
  | [] => []
  | d :: ds => toP d :: toPs ds
end
mutual
/-- pure data, with signs that are signs, at most n levels deep -/
def okD : Nat → D → Bool
  | _, .non => true
  | _, .bl _ => true
  | _, .int _ => true
  | _, .str s => PyData.strOk s
  | 0, .lst _ => false
  | 0, .tup _ => false
  | n + 1, .lst ds => okDs n ds
  | n + 1, .tup ds => okDs n ds
  | _, _ => false
def okDs : Nat → List D → Bool
  | _, [] => true
  | n, d :: ds => okD n d && okDs n ds
end
theorem okDs_all {n : Nat} : ∀ {ds : List D}, okDs n ds = true → ∀ (i : Nat) (d : D), ds[i]? = some d → okD n d = true
  | [], _, i, d, e => by simp at e
  | x :: r, h, 0, d, e => by
    simp only [okDs, Bool.and_eq_true] at h
    simp at e; subst e; exact h.1
  | x :: r, h, i + 1, d, e => by
    simp only [okDs, Bool.and_eq_true] at h
    exact okDs_all h.2 i d (by simpa using e)
theorem okDs_of {n : Nat} : ∀ {ds : List D}, (∀ d ∈ ds, okD n d = true) → okDs n ds = true
  | [], _ => rfl
  | x :: r, h => by
    simp only [okDs, Bool.and_eq_true]
    exact ⟨h x List.mem_cons_self, okDs_of fun d hd => h d (List.mem_cons_of_mem _ hd)⟩
theorem toPs_map : ∀ ds : List D, toPs ds = ds.map toP
  | [] => rfl
  | d :: r => by simp only [toPs, List.map_cons]; rw [toPs_map r]
theorem dpAll_of {K : PySem.W.Frag} {H : Hp} : ∀ {xs : List V} {ds : List D}, xs.length = ds.length → (∀ (i : Nat) (x : V) (d : D), xs[i]? = some x → ds[i]? = some d → Dp K H x (toP d)) → DpAll K H xs (toPs ds)
  | [], [], _, _ => by simp only [toPs]; exact .nil
  | x :: xs, d :: ds, h, f => by
    simp only [toPs]
    exact .cons (f 0 x d rfl rfl) (dpAll_of (by simpa using h) fun i y e a b => f (i + 1) y e (by simpa using a) (by simpa using b))
  | [], _ :: _, h, _ => by simp at h
  | _ :: _, [], h, _ => by simp at h
theorem toDp {K : PySem.W.Frag} {I H : Hp} (s : Same I H) {v : V} {d : D} (h : DR K I v d) : ∀ n, okD n d = true → Dp K H v (toP d) := by
  induction h with
  | non => intro n _; simp only [toP]; exact .non
  | bl b => intro n _; simp only [toP]; exact .bl b
  | int i => intro n _; simp only [toP]; exact .int i
  | str x _ => intro n _; simp only [toP]; exact .str x
  | lst h1 h2 h3 h4 ih =>
    intro n hn
    cases n with
    | zero => simp [okD] at hn
    | succ n =>
      simp only [okD] at hn
      simp only [toP]
      exact .lst (.inl (.inl (s _ _ h1))) (dpAll_of h3 fun i x d a b => ih i x d a b n (okDs_all hn i d b))
  | tup h1 h2 h3 h4 ih =>
    intro n hn
    cases n with
    | zero => simp [okD] at hn
    | succ n =>
      simp only [okD] at hn
      simp only [toP]
      exact .tup (Same.sqt s h1) (dpAll_of h3 fun i x d a b => ih i x d a b n (okDs_all hn i d b))
  | ins _ _ _ _ _ _ => intro n hn; cases n <;> simp [okD] at hn
  | ref a => intro n hn; cases n <;> simp [okD] at hn
  | ty a => intro n hn; cases n <;> simp [okD] at hn
  | scr _ _ => intro n hn; cases n <;> simp [okD] at hn
mutual
theorem can_of : ∀ (n : Nat) (d : D), okD n d = true → (toP d).canLay0 = true ∧ (toP d).depth ≤ n
  | n, .non, _ => by simp [toP, PyData.canLay0, PyData.depth]
  | n, .bl _, _ => by simp [toP, PyData.canLay0, PyData.depth]
  | n, .int _, _ => by simp [toP, PyData.canLay0, PyData.depth]
  | n, .str s, h => by
    have h' : PyData.strOk s = true := by cases n <;> simpa [okD] using h
    simp [toP, PyData.canLay0, PyData.depth, h']
  | 0, .lst _, h => by simp [okD] at h
  | 0, .tup _, h => by simp [okD] at h
  | n + 1, .lst ds, h => by
    have := can_ofs n ds (by simpa [okD] using h)
    simp only [toP, PyData.canLay0, PyData.depth]
    exact ⟨this.1, by omega⟩
  | n + 1, .tup ds, h => by
    have := can_ofs n ds (by simpa [okD] using h)
    simp only [toP, PyData.canLay0, PyData.depth]
    exact ⟨this.1, by omega⟩
  | n, .ins _ _, h => by cases n <;> simp [okD] at h
  | n, .ref _, h => by cases n <;> simp [okD] at h
  | n, .ty _, h => by cases n <;> simp [okD] at h
  | n, .scr _, h => by cases n <;> simp [okD] at h
theorem can_ofs : ∀ (n : Nat) (ds : List D), okDs n ds = true → PyData.canLayAll0 (toPs ds) = true ∧ PyData.depthAll (toPs ds) ≤ n
  | n, [], _ => by simp [toPs, PyData.canLayAll0, PyData.depthAll]
  | n, d :: ds, h => by
    simp only [okDs, Bool.and_eq_true] at h
    have h1 := can_of n d h.1
    have h2 := can_ofs n ds h.2
    simp only [toPs, PyData.canLayAll0, PyData.depthAll, Bool.and_eq_true]
    exact ⟨⟨h1.1, h2.1⟩, by omega⟩
end
theorem shaped_of {n : Nat} {d : D} (h : okD n d = true) (hn : n ≤ 64) : SeqAt.shaped (toP d) = true := by
  have := can_of n d h
  unfold SeqAt.shaped
  rw [this.1, decide_eq_true (by omega)]
  rfl
def eqD (a b : D) : Bool := PyData.eqv (toP a) (toP b)
def oEq (neg : Bool) (x y : D) (M : Mem) (k : DK) : Prop := match vw M x, vw M y with
  | .int i, .int j => k (.bl (if neg then !decide (i = j) else decide (i = j))) M
  | .str i, .str j => k (.bl (if neg then !decide (i = j) else decide (i = j))) M
  | .bl i, .bl j => k (.bl (if neg then !decide (i = j) else decide (i = j))) M
  | a, b => (okD 20 a = true ∧ okD 20 b = true) ∧ k (.bl (if neg then !eqD a b else eqD a b)) M
/-- flat data -/
def flatD : D → Bool
  | .non => true
  | .bl _ => true
  | .int _ => true
  | .str _ => true
  | _ => false
def eqF : D → D → Bool
  | .non, .non => true
  | .bl a, .bl b => a == b
  | .bl a, .int b => (if a then 1 else 0) == b
  | .int a, .bl b => a == (if b then 1 else 0)
  | .int a, .int b => a == b
  | .str a, .str b => a == b
  | _, _ => false
def inD (x : D) (ds : List D) : Bool := ds.any fun y => eqF y x
def inStr (a z : Str) : Bool := !(Builtin.Str.occurrences z a 0 z.length 1).isEmpty
def oIn (neg : Bool) (x y : D) (M : Mem) (k : DK) : Prop := match vw M y with
  | .lst ds => (flatD x = true ∧ ds.all flatD = true) ∧ k (.bl (if neg then !inD x ds else inD x ds)) M
  | .tup ds => (flatD x = true ∧ ds.all flatD = true) ∧ k (.bl (if neg then !inD x ds else inD x ds)) M
  | .str z => (match x with
    | .str a => k (.bl (if neg then !inStr a z else inStr a z)) M
    | _ => False)
  | _ => False
def oIx (x y : D) (M : Mem) (k : DK) : Prop := match y with
  | .int i => (match vw M x with
    | .lst ds => ∃ d, atI ds i = some d ∧ k d M
    | .tup ds => ∃ d, atI ds i = some d ∧ k d M
    | .scr ns => ∃ n, atI ns i = some n ∧ k (.int n) M
    | .str z => ∃ c, atI z.cps.toList i = some c ∧ k (.str ⟨#[c]⟩) M
    | _ => False)
  | _ => False
section
variable {X : Cx} {K : PySem.W.Frag}
theorem line_le {n : Nat} (h : n ≤ 1000000) : n ≤ sizeLine := Nat.le_trans h (by decide)
theorem str_app_len (a b : Str) : (a ++ b).length = a.length + b.length := by
  show (a.cps ++ b.cps).size = a.cps.size + b.cps.size
  exact Array.size_append
theorem qo_add : QO X (binaryOp .Add) (vOr (rI0 fun i j => .int (i + j)) (vOr vAddS (vOr rCat (rCatA X.K)))) oAdd := ⟨op_add.or (op_add_str.or (op_cat.or op_catA)), by
  intro x y a b M k I F H Q h rx ry rp kk
  unfold oAdd at h
  split at h
  · rename_i i j e1 e2
    obtain rfl := vw_int e1; obtain rfl := vw_int e2
    obtain rfl := rx.int_inv; obtain rfl := ry.int_inv
    exact .inl ⟨i, j, rfl, rfl, kk _ M _ I H h rp (Same.refl I) (.int _)⟩
  · rename_i i j e1 e2
    obtain rfl := vw_str e1; obtain rfl := vw_str e2
    obtain ⟨rfl, h1⟩ := rx.str_inv; obtain ⟨rfl, h2⟩ := ry.str_inv
    exact .inr (.inl ⟨i, j, rfl, rfl, line_le h.1, kk _ M _ I H h.2 rp (Same.refl I) (.str _ (by rw [str_app_len]; exact line_le h.1))⟩)
  · rename_i i j e1 e2
    obtain ⟨l, xs, rfl, a1, a2, a3⟩ := lstAt rp rx e1
    obtain ⟨m, ys, rfl, b1, b2, b3⟩ := lstAt rp ry e2
    have hz : (xs ++ ys).length ≤ sizeLine := by rw [List.length_append, a3.len, b3.len]; exact line_le h.1
    exact .inr (.inr (.inl ⟨l, m, xs, ys, rfl, rfl, a1, b1, by rw [a3.len, b3.len]; exact line_le h.1, fun p hp => kk _ M _ _ _ h.2 (rp.still hp _) (same_new (rp.freeI hp)) (.newL (rp.freeI hp) hz (a3.append b3))⟩))
  · rename_i i j e1 e2
    obtain rfl := vw_tup e1; obtain rfl := vw_tup e2
    obtain ⟨l, xs, rfl, a1, a2, a3⟩ := rx.tup_inv
    obtain ⟨m, ys, rfl, b1, b2, b3⟩ := ry.tup_inv
    have hz : (xs ++ ys).length ≤ sizeLine := by rw [List.length_append, a3.len, b3.len]; exact line_le h.1
    refine .inr (.inr (.inr ⟨l, m, xs, ys, rfl, rfl, Same.sqt rp.sub a1, Same.sqt rp.sub b1, by rw [a3.len, b3.len]; exact line_le h.1, fun e => ?_, fun _ e => ?_, fun _ _ p hp => kk _ M _ _ _ h.2 (rp.still hp _) (same_new (rp.freeI hp)) (.newT (rp.freeI hp) hz (a3.append b3))⟩))
    · subst e
      have : i = [] := by have := a3.len; simpa using this.symm
      subst this
      exact kk _ M _ I H h.2 rp (Same.refl I) (by simpa using ry)
    · subst e
      have : j = [] := by have := b3.len; simpa using this.symm
      subst this
      exact kk _ M _ I H h.2 rp (Same.refl I) (by simpa using rx)
  · exact h.elim⟩
theorem r2i {C : Int → Int → Prop} {g : Int → Int → Int} {o : D → D → Mem → DK → Prop} (ho : ∀ x y M k, o x y M k → ∃ i j, x = .int i ∧ y = .int j ∧ C i j ∧ k (.int (g i j)) M) : R2S K (rI C fun i j => .int (g i j)) o := by
  intro x y a b M k I F H Q h rx ry rp kk
  obtain ⟨i, j, rfl, rfl, hc, q⟩ := ho _ _ _ _ h
  obtain rfl := rx.int_inv; obtain rfl := ry.int_inv
  exact ⟨i, j, rfl, rfl, hc, kk _ M _ I H q rp (Same.refl I) (.int _)⟩
theorem qo_sub : QO X (binaryOp .Sub) (rI0 fun i j => .int (i - j)) oSub := ⟨op_sub, by
  intro x y a b M k I F H Q h rx ry rp kk
  cases a <;> cases b <;> first | exact h.elim | skip
  obtain rfl := rx.int_inv; obtain rfl := ry.int_inv
  exact ⟨_, _, rfl, rfl, kk _ M _ I H h rp (Same.refl I) (.int _)⟩⟩
theorem rep_len {α : Type} (n : Nat) (l : List α) : (List.replicate n l).flatten.length = l.length * n := by
  induction n with
  | zero => simp
  | succ n ih => rw [List.replicate_succ, List.flatten_cons, List.length_append, ih, Nat.mul_succ]; omega
theorem qo_mul : QO X (binaryOp .Mult) (vOr (rI CMulW fun i j => .int (i * j)) rRep) oMul := ⟨op_mulW.or op_rep, by
  intro x y a b M k I F H Q h rx ry rp kk
  unfold oMul at h
  split at h
  · rename_i i j e1
    obtain rfl := vw_int e1
    obtain rfl := rx.int_inv; obtain rfl := ry.int_inv
    exact .inl ⟨i, j, rfl, rfl, h.1, kk _ M _ I H h.2 rp (Same.refl I) (.int _)⟩
  · rename_i ds j e1
    obtain ⟨l, xs, rfl, a1, a2, a3⟩ := lstAt rp rx e1
    obtain rfl := ry.int_inv
    have hz : (List.replicate j.toNat xs).flatten.length ≤ sizeLine := by rw [rep_len, a3.len]; exact line_le h.1.2.2
    exact .inr ⟨l, j, xs, rfl, rfl, a1, by have := h.1; omega, by have := h.1; omega, by rw [a3.len]; exact line_le h.1.2.2, fun p hp => kk _ M _ _ _ h.2 (rp.still hp _) (same_new (rp.freeI hp)) (.newL (rp.freeI hp) hz (a3.rep _))⟩
  · exact h.elim⟩
theorem qo_div : QO X (binaryOp .FloorDiv) (rI CDivW fun i j => .int (i / j)) oDiv := ⟨op_fdivW, r2i fun x y M k h => by cases x <;> cases y <;> first | exact h.elim | exact ⟨_, _, rfl, rfl, h.1, h.2⟩⟩
theorem qo_mod : QO X (binaryOp .Mod) (rI (fun _ j => 0 < j) fun i j => .int (i % j)) oMod := ⟨op_mod, r2i fun x y M k h => by cases x <;> cases y <;> first | exact h.elim | exact ⟨_, _, rfl, rfl, h.1, h.2⟩⟩
theorem qo_pow : QO X (binaryOp .Pow) (rI CPowB fun i j => .int (i ^ j.toNat)) oPow := ⟨op_powB, r2i fun x y M k h => by cases x <;> cases y <;> first | exact h.elim | exact ⟨_, _, rfl, rfl, h.1, h.2⟩⟩
theorem qu_neg : QU X (unaryOp .USub) (rU fun i => .int (-i)) oNeg := ⟨un_neg, by
  intro x a M k I F H Q h rx rp kk
  cases a <;> first | exact h.elim | skip
  obtain rfl := rx.int_inv
  exact ⟨_, rfl, kk _ M _ I H h rp (Same.refl I) (.int _)⟩⟩
theorem r2b {f : Int → Int → Bool} : R2S K (rI0 fun i j => .bl (f i j)) (oCmp f) := by
  intro x y a b M k I F H Q h rx ry rp kk
  cases a <;> cases b <;> first | exact h.elim | skip
  obtain rfl := rx.int_inv; obtain rfl := ry.int_inv
  exact ⟨_, _, rfl, rfl, kk _ M _ I H h rp (Same.refl I) (.bl _)⟩
theorem qo_lt : QO X (compareOp .Lt) (rI0 fun i j => .bl (decide (i < j))) oLt := ⟨op_lt, r2b⟩
theorem qo_le : QO X (compareOp .LtE) (rI0 fun i j => .bl (decide (i ≤ j))) oLe := ⟨op_le, r2b⟩
theorem qo_gt : QO X (compareOp .Gt) (rI0 fun i j => .bl (decide (j < i))) oGt := ⟨op_gt, r2b⟩
theorem qo_ge : QO X (compareOp .GtE) (rI0 fun i j => .bl (decide (j ≤ i))) oGe := ⟨op_ge, r2b⟩
theorem isNon_eq {I : Hp} {x : V} {a : D} (r : DR K I x a) : decide (x = .non) = isNon a := by
  cases r <;> first | rfl | exact decide_eq_false (fun h => by cases h)
theorem qo_is : QO X (compareOp .Is) (fun x y H Q => y = .non ∧ Q (.bl (decide (x = .non))) H) (oIs false) := ⟨op_isN, by
  intro x y a b M k I F H Q h rx ry rp kk
  cases b <;> first | exact h.elim | skip
  obtain rfl := ry.non_inv
  exact ⟨rfl, by rw [isNon_eq rx]; exact kk _ M _ I H h rp (Same.refl I) (.bl _)⟩⟩
theorem qo_isnot : QO X (compareOp .IsNot) (fun x y H Q => y = .non ∧ Q (.bl (!decide (x = .non))) H) (oIs true) := ⟨op_notN, by
  intro x y a b M k I F H Q h rx ry rp kk
  cases b <;> first | exact h.elim | skip
  obtain rfl := ry.non_inv
  exact ⟨rfl, by rw [isNon_eq rx]; exact kk _ M _ I H h rp (Same.refl I) (.bl _)⟩⟩
theorem dpAt {I F H : Hp} {M : Mem} {a : D} {x : V} (rp : Rep K I F M H) (r : DR K I x a) (h : okD 20 (vw M a) = true) : Dp K H x (toP (vw M a)) := by
  cases e : vw M a with
  | lst ds =>
    obtain ⟨l, xs, rfl, h1, h2, h3⟩ := lstAt rp r e
    rw [e] at h
    simp only [okD] at h
    simp only [toP]
    exact .lst (.inl (.inl h1)) (dpAll_of h3.len fun i x d a b => toDp rp.sub (h3.at_ i x d a b) 19 (okDs_all h i d b))
  | _ =>
    rcases vw_eq e with z | ⟨_, _, _, _, z⟩
    · rw [e] at h
      rw [z] at r
      exact toDp rp.sub r 20 h
    · cases z
theorem dec_int' {i j : Int} : decide (V.int i = V.int j) = decide (i = j) := by
  by_cases h : i = j
  · subst h; simp
  · rw [decide_eq_false h, decide_eq_false (fun e => h (by injection e))]
theorem dec_str' {i j : Str} : decide (V.str i = V.str j) = decide (i = j) := by
  by_cases h : i = j
  · subst h; simp
  · rw [decide_eq_false h, decide_eq_false (fun e => h (by injection e))]
theorem dec_bl' {i j : Bool} : decide (V.bl i = V.bl j) = decide (i = j) := by
  by_cases h : i = j
  · subst h; simp
  · rw [decide_eq_false h, decide_eq_false (fun e => h (by injection e))]
def vEq (K : PySem.W.Frag) (neg : Bool) : R2 := fun x y H Q => (scal x y = true ∧ Q (.bl (if neg then !decide (x = y) else decide (x = y))) H) ∨ ∃ d e, Dp K H x d ∧ Dp K H y e ∧ SeqAt.shaped d = true ∧ SeqAt.shaped e = true ∧ Q (.bl (if neg then !PyData.eqv d e else PyData.eqv d e)) H
theorem r2eq (neg : Bool) : R2S K (vEq K neg) (oEq neg) := by
  intro x y a b M k I F H Q h rx ry rp kk
  unfold oEq at h
  split at h
  · rename_i i j e1 e2
    obtain rfl := vw_int e1; obtain rfl := vw_int e2
    obtain rfl := rx.int_inv; obtain rfl := ry.int_inv
    exact .inl ⟨rfl, by rw [dec_int']; exact kk _ M _ I H h rp (Same.refl I) (.bl _)⟩
  · rename_i i j e1 e2
    obtain rfl := vw_str e1; obtain rfl := vw_str e2
    obtain ⟨rfl, _⟩ := rx.str_inv; obtain ⟨rfl, _⟩ := ry.str_inv
    exact .inl ⟨rfl, by rw [dec_str']; exact kk _ M _ I H h rp (Same.refl I) (.bl _)⟩
  · rename_i i j e1 e2
    obtain rfl := vw_bl e1; obtain rfl := vw_bl e2
    obtain rfl := rx.bl_inv; obtain rfl := ry.bl_inv
    exact .inl ⟨rfl, by rw [dec_bl']; exact kk _ M _ I H h rp (Same.refl I) (.bl _)⟩
  · exact .inr ⟨_, _, dpAt rp rx h.1.1, dpAt rp ry h.1.2, shaped_of h.1.1 (by decide), shaped_of h.1.2 (by decide), kk _ M _ I H h.2 rp (Same.refl I) (.bl _)⟩
theorem qo_eq (hu : X.A.units + 64 < cLine) : QO X (compareOp .Eq) (vEq X.K false) (oEq false) := ⟨op_eq.or (op_eqD hu), r2eq false⟩
theorem qo_ne (hu : X.A.units + 64 < cLine) : QO X (compareOp .NotEq) (vEq X.K true) (oEq true) := ⟨op_ne.or (op_neD hu), r2eq true⟩
theorem flat_of {I : Hp} {x : V} {a : D} (r : DR K I x a) (h : flatD a = true) : flatV x = true := by
  cases r <;> first | rfl | cases h
theorem flats_of {I : Hp} : ∀ {xs : List V} {ds : List D}, DRs K I xs ds → ds.all flatD = true → xs.all flatV = true := fun {xs ds} r h => by
  rw [List.all_eq_true]
  intro x hx
  obtain ⟨i, hi, e⟩ := List.mem_iff_getElem.mp hx
  have e' : xs[i]? = some x := by rw [List.getElem?_eq_getElem hi, e]
  obtain ⟨d, hd, rd⟩ := r.getV e'
  exact flat_of rd (List.all_eq_true.mp h d (List.mem_of_getElem? hd))
theorem eqF_of {I : Hp} {x y : V} {a b : D} (rx : DR K I x a) (ry : DR K I y b) (h1 : flatD a = true) (h2 : flatD b = true) : eqV x y = eqF a b := by
  cases rx <;> first | cases h1; done | skip
  all_goals (cases ry <;> first | cases h2; done | rfl)
theorem inD_of {I : Hp} {x : V} {a : D} (rx : DR K I x a) (h1 : flatD a = true) : ∀ {xs : List V} {ds : List D}, DRs K I xs ds → ds.all flatD = true → inV x xs = inD a ds
  | [], [], _, _ => rfl
  | y :: xs, d :: ds, r, h => by
    simp only [List.all_cons, Bool.and_eq_true] at h
    have ih := inD_of rx h1 r.tail h.2
    unfold inV inD at ih ⊢
    rw [List.any_cons, List.any_cons, ih, eqF_of r.head rx h.1 h1]
  | [], _ :: _, r, _ => by have := r.len; simp at this
  | _ :: _, [], r, _ => by have := r.len; simp at this
def vIn (K : PySem.W.Frag) (neg : Bool) : R2 := fun x y H Q => rIn K neg x y H Q ∨ ∃ i j, x = .str i ∧ y = .str j ∧ Q (.bl (if neg then !inStr i j else inStr i j)) H
theorem r2in (neg : Bool) : R2S K (vIn K neg) (oIn neg) := by
  intro x y a b M k I F H Q h rx ry rp kk
  unfold oIn at h
  split at h
  · rename_i ds e
    obtain ⟨l, xs, rfl, h1, h2, h3⟩ := lstAt rp ry e
    refine .inl ⟨l, xs, rfl, .inl (.inl (.inl h1)), flat_of rx h.1.1, flats_of h3 h.1.2, ?_⟩
    rw [inD_of rx h.1.1 h3 h.1.2]
    exact kk _ M _ I H h.2 rp (Same.refl I) (.bl _)
  · rename_i ds e
    obtain rfl := vw_tup e
    obtain ⟨l, xs, rfl, h1, h2, h3⟩ := ry.tup_inv
    refine .inl ⟨l, xs, rfl, .inr (Same.sqt rp.sub h1), flat_of rx h.1.1, flats_of h3 h.1.2, ?_⟩
    rw [inD_of rx h.1.1 h3 h.1.2]
    exact kk _ M _ I H h.2 rp (Same.refl I) (.bl _)
  · rename_i z e
    obtain rfl := vw_str e
    obtain ⟨rfl, _⟩ := ry.str_inv
    cases a <;> first | exact h.elim | skip
    obtain ⟨rfl, _⟩ := rx.str_inv
    exact .inr ⟨_, _, rfl, rfl, kk _ M _ I H h rp (Same.refl I) (.bl _)⟩
  · exact h.elim
theorem qo_in : QO X (compareOp .In) (vIn X.K false) (oIn false) := ⟨op_in_seq.or op_in_str, r2in false⟩
theorem qo_notin : QO X (compareOp .NotIn) (vIn X.K true) (oIn true) := ⟨op_notIn_seq.or op_notIn_str, r2in true⟩
theorem atI_drs {I : Hp} {xs : List V} {ds : List D} (r : DRs K I xs ds) {i : Int} {d : D} (h : atI ds i = some d) : ∃ x, atI xs i = some x ∧ DR K I x d := by
  unfold atI at h ⊢
  rw [r.len]
  cases e : ixN ds.length i with
  | none => rw [e] at h; cases h
  | some j =>
    rw [e] at h
    exact r.get (i := j) h
theorem qx_seq : QX X (rIx X.K) oIx := ⟨ix_seq, by
  intro x y a b M k I F H Q h rx ry rp kk
  cases b <;> first | exact h.elim | skip
  rename_i i
  obtain rfl := ry.int_inv
  unfold oIx at h
  dsimp only at h
  split at h
  · rename_i ds e
    obtain ⟨d, hd, q⟩ := h
    obtain ⟨l, xs, rfl, h1, h2, h3⟩ := lstAt rp rx e
    obtain ⟨v, hv, rv⟩ := atI_drs h3 hd
    exact .inl ⟨l, xs, i, v, rfl, rfl, .inl (.inl h1), hv, kk d M v I H q rp (Same.refl I) rv⟩
  · rename_i ds e
    obtain ⟨d, hd, q⟩ := h
    obtain rfl := vw_tup e
    obtain ⟨l, xs, rfl, h1, h2, h3⟩ := rx.tup_inv
    obtain ⟨v, hv, rv⟩ := atI_drs h3 hd
    exact .inr (.inl ⟨l, xs, i, v, rfl, rfl, Same.sqt rp.sub h1, hv, kk d M v I H q rp (Same.refl I) rv⟩)
  · rename_i ns e
    obtain ⟨n, hn, q⟩ := h
    obtain rfl := vw_scr e
    cases rx with
    | scr h1 h2 =>
      refine .inl ⟨_, _, i, .int n, rfl, rfl, rp.sub.seq h1, ?_, kk _ M _ I H q rp (Same.refl I) (.int n)⟩
      unfold atI at hn ⊢
      rw [List.length_map]
      cases e2 : ixN ns.length i with
      | none => rw [e2] at hn; cases hn
      | some j =>
        rw [e2] at hn
        show (ns.map V.int)[j]? = some (V.int n)
        rw [List.getElem?_map]
        have hn' : ns[j]? = some n := hn
        rw [hn']; rfl
  · rename_i z e
    obtain ⟨c, hc, q⟩ := h
    obtain rfl := vw_str e
    obtain ⟨rfl, hz⟩ := rx.str_inv
    exact .inr (.inr ⟨z, i, c, rfl, rfl, hz, hc, kk _ M _ I H q rp (Same.refl I) (.str _ (sign_len c))⟩)
  · exact h.elim⟩
end
end Qd
namespace Qd
open PySem PySem.Spec PyProof.Rows L2

/-! ### calls of built-ins over data -/
def bLen (as : List D) (M : Mem) (k : DK) : Prop := match as with
  | [x] => (match vw M x with
    | .lst ds => k (.int (ds.length : Nat)) M
    | .tup ds => k (.int (ds.length : Nat)) M
    | .scr ns => k (.int (ns.length : Nat)) M
    | .str z => k (.int (z.length : Nat)) M
    | _ => False)
  | _ => False
def bAll (as : List D) (M : Mem) (k : DK) : Prop := match as with
  | [x] => (match vw M x with
    | .lst ds => ∃ bs : List Bool, ds = bs.map D.bl ∧ k (.bl (bs.all id)) M
    | _ => False)
  | _ => False
def bAny (as : List D) (M : Mem) (k : DK) : Prop := match as with
  | [x] => (match vw M x with
    | .lst ds => ∃ bs : List Bool, ds = bs.map D.bl ∧ k (.bl (bs.any id)) M
    | _ => False)
  | _ => False
def bSum (as : List D) (M : Mem) (k : DK) : Prop := match as with
  | [x] => (match vw M x with
    | .lst ds => ∃ ns : List Int, ds = ns.map D.int ∧ k (.int ns.sum) M
    | _ => False)
  | _ => False
def bTup (as : List D) (M : Mem) (k : DK) : Prop := match as with
  | [x] => (match vw M x with
    | .lst ds => k (.tup ds) M
    | .tup ds => k (.tup ds) M
    | _ => False)
  | _ => False
def bLst (as : List D) (M : Mem) (k : DK) : Prop := match as with
  | [x] => (match vw M x with
    | .lst ds => k (.lst ds) M
    | .tup ds => k (.lst ds) M
    | _ => False)
  | _ => False
def bLstM (as : List D) (M : Mem) (k : DK) : Prop := match as with
  | [x] => (match vw M x with
    | .lst ds => ∀ p, M p = none → k (.ref p) (mset M p (.lst ds))
    | .tup ds => ∀ p, M p = none → k (.ref p) (mset M p (.lst ds))
    | _ => False)
  | _ => False
def bMax (as : List D) (M : Mem) (k : DK) : Prop := match as with
  | [.int i, .int j] => k (.int (if j > i then j else i)) M
  | _ => False
def bMin (as : List D) (M : Mem) (k : DK) : Prop := match as with
  | [.int i, .int j] => k (.int (if j < i then j else i)) M
  | _ => False
def bAbs (as : List D) (M : Mem) (k : DK) : Prop := match as with
  | [.int i] => k (.int (if i < 0 then -i else i)) M
  | _ => False
/-- str of a number -/
def bStr (as : List D) (M : Mem) (k : DK) : Prop := match as with
  | [.int i] => i.natAbs.log2 < 1920 ∧ k (.str (toString i)) M
  | [.str s] => k (.str s) M
  | _ => False
/-- int of a number, a truth value, a text -/
def bInt (as : List D) (M : Mem) (k : DK) : Prop := match as with
  | [.int i] => k (.int i) M
  | [.bl b] => k (.int (if b then 1 else 0)) M
  | [.str s] => ∃ n, (PySem.intText? s = some n ∧ s.length ≤ 640) ∧ k (.int n) M
  | _ => False
def tyD : D → String
  | .non => "NoneType"
  | .bl _ => "bool"
  | .int _ => "int"
  | .str _ => "str"
  | .lst _ => "list"
  | .tup _ => "tuple"
  | _ => ""
def isT (a T : String) : Bool := a == T || (a == "bool" && T == "int")
def bIsi (as : List D) (M : Mem) (k : DK) : Prop := match as with
  | [x, .ty T] => (tyD (vw M x) ≠ "" ∧ (T = "int" ∨ T = "bool" ∨ T = "str" ∨ T = "tuple" ∨ T = "list")) ∧ k (.bl (isT (tyD (vw M x)) T)) M
  | _ => False
def bRepr (as : List D) (M : Mem) (k : DK) : Prop := match as with
  | [x] => (okD 20 (vw M x) = true ∧ (toP (vw M x)).showable = true ∧ (toP (vw M x)).shown.length ≤ 1000000) ∧ k (.str (toP (vw M x)).shown) M
  | _ => False
section
variable {X : Cx} {K : PySem.W.Frag}
theorem rns1 {r : List V → Hp → VK → Prop} {r' : List D → Mem → DK → Prop} (h : ∀ (v : V) (d : D) (M : Mem) (k : DK) (I F H : Hp) (Q : VK), r' [d] M k → DR K I v d → Rep K I F M H → (∀ d M' v I' H', k d M' → Rep K I' F M' H' → Same I I' → DR K I' v d → Q v H') → r [v] H Q)
    (h0 : ∀ as M k, r' as M k → ∃ d, as = [d]) : RNS K r r' := by
  intro xs as M k I F H Q hr rs rp kk
  obtain ⟨d, rfl⟩ := h0 as M k hr
  obtain ⟨v, rfl, r1⟩ := drs1 rs
  exact h v d M k I F H Q hr r1 rp kk
theorem rns2 {r : List V → Hp → VK → Prop} {r' : List D → Mem → DK → Prop} (h : ∀ (v u : V) (d e : D) (M : Mem) (k : DK) (I F H : Hp) (Q : VK), r' [d, e] M k → DR K I v d → DR K I u e → Rep K I F M H → (∀ d M' v I' H', k d M' → Rep K I' F M' H' → Same I I' → DR K I' v d → Q v H') → r [v, u] H Q)
    (h0 : ∀ as M k, r' as M k → ∃ d e, as = [d, e]) : RNS K r r' := by
  intro xs as M k I F H Q hr rs rp kk
  obtain ⟨d, e, rfl⟩ := h0 as M k hr
  obtain ⟨v, u, rfl, r1, r2⟩ := drs2 rs
  exact h v u d e M k I F H Q hr r1 r2 rp kk
theorem one_of {α : Sort _} {as : List D} {f : D → Prop} (h : match as with | [x] => f x | _ => False) : ∃ d, as = [d] := by
  match as, h with
  | [d], _ => exact ⟨d, rfl⟩
theorem qc_len : QC X (.builtin "len") (fun xs H Q => ∃ x n, xs = [x] ∧ LenV X.K x H n ∧ Q (.int n) H) bLen := ⟨call_len, rns1 (fun v d M k I F H Q h r rp kk => by
  unfold bLen at h
  dsimp only at h
  split at h
  · rename_i ds e
    obtain ⟨l, xs, rfl, h1, h2, h3⟩ := lstAt rp r e
    exact ⟨_, _, rfl, .inl ⟨xs, .inl (.inl h1), rfl⟩, by rw [h3.len]; exact kk _ M _ I H h rp (Same.refl I) (.int _)⟩
  · rename_i ds e
    obtain rfl := vw_tup e
    obtain ⟨l, xs, rfl, h1, h2, h3⟩ := r.tup_inv
    exact ⟨_, _, rfl, .inr ⟨xs, Same.sqt rp.sub h1, rfl⟩, by rw [h3.len]; exact kk _ M _ I H h rp (Same.refl I) (.int _)⟩
  · rename_i ns e
    obtain rfl := vw_scr e
    cases r with
    | scr h1 h2 => exact ⟨_, _, rfl, .inl ⟨_, rp.sub.seq h1, rfl⟩, by rw [List.length_map]; exact kk _ M _ I H h rp (Same.refl I) (.int _)⟩
  · rename_i z e
    obtain rfl := vw_str e
    obtain ⟨rfl, hz⟩ := r.str_inv
    exact ⟨_, _, rfl, ⟨hz, rfl⟩, kk _ M _ I H h rp (Same.refl I) (.int _)⟩
  · exact h.elim) fun as M k h => one_of (α := Nat) h⟩
theorem map_inv {I : Hp} {α : Type} {f : α → V} {g : α → D} (hf : ∀ v a, DR K I v (g a) → v = f a) : ∀ {xs : List V} {l : List α}, DRs K I xs (l.map g) → xs = l.map f
  | [], [], _ => rfl
  | x :: xs, a :: l, r => by
    rw [List.map_cons] at r
    rw [List.map_cons, hf x a r.head, map_inv hf r.tail]
  | [], _ :: _, r => by have := r.len; simp at this
  | _ :: _, [], r => by have := r.len; simp at this
theorem qc_all (hc : X.calm = true) : QC X (.builtin "all") (rAll X.K) bAll := ⟨cr_all hc, rns1 (fun v d M k I F H Q h r rp kk => by
  unfold bAll at h
  dsimp only at h
  split at h
  · rename_i ds e
    obtain ⟨bs, rfl, h⟩ := h
    obtain ⟨l, xs, rfl, h1, h2, h3⟩ := lstAt rp r e
    obtain rfl := map_inv (fun v a r => r.bl_inv) h3
    exact ⟨l, bs, rfl, .inl (.inl h1), kk _ M _ I H h rp (Same.refl I) (.bl _)⟩
  · exact h.elim) fun as M k h => one_of (α := Nat) h⟩
theorem qc_any (hc : X.calm = true) : QC X (.builtin "any") (rAny X.K) bAny := ⟨cr_any hc, rns1 (fun v d M k I F H Q h r rp kk => by
  unfold bAny at h
  dsimp only at h
  split at h
  · rename_i ds e
    obtain ⟨bs, rfl, h⟩ := h
    obtain ⟨l, xs, rfl, h1, h2, h3⟩ := lstAt rp r e
    obtain rfl := map_inv (fun v a r => r.bl_inv) h3
    exact ⟨l, bs, rfl, .inl (.inl h1), kk _ M _ I H h rp (Same.refl I) (.bl _)⟩
  · exact h.elim) fun as M k h => one_of (α := Nat) h⟩
theorem qc_sum (hc : X.calm = true) : QC X (.builtin "sum") (rSum X.K) bSum := ⟨cr_sum hc, rns1 (fun v d M k I F H Q h r rp kk => by
  unfold bSum at h
  dsimp only at h
  split at h
  · rename_i ds e
    obtain ⟨bs, rfl, h⟩ := h
    obtain ⟨l, xs, rfl, h1, h2, h3⟩ := lstAt rp r e
    obtain rfl := map_inv (fun v a r => r.int_inv) h3
    exact ⟨l, bs, rfl, .inl (.inl h1), kk _ M _ I H h rp (Same.refl I) (.int _)⟩
  · exact h.elim) fun as M k h => one_of (α := Nat) h⟩
def vTup (K : PySem.W.Frag) : List V → Hp → VK → Prop := fun xs H Q => ∃ p ys, xs = [.ref p] ∧ ((SqL K H p ys ∧ ∀ l, H l = none → Q (.ref l) (upd H l (.tup ys))) ∨ (SqT K H p ys ∧ Q (.ref p) H))
theorem qc_tup : QC X (.type "tuple") (vTup X.K) bTup := ⟨call_tuple_of, rns1 (fun v d M k I F H Q h r rp kk => by
  unfold bTup at h
  dsimp only at h
  split at h
  · rename_i ds e
    obtain ⟨l, xs, rfl, h1, h2, h3⟩ := lstAt rp r e
    exact ⟨l, xs, rfl, .inl ⟨.inl (.inl h1), fun p hp => kk _ M _ _ _ h (rp.still hp _) (same_new (rp.freeI hp)) (.newT (rp.freeI hp) h2 h3)⟩⟩
  · rename_i ds e
    obtain rfl := vw_tup e
    obtain ⟨l, xs, rfl, h1, h2, h3⟩ := r.tup_inv
    exact ⟨l, xs, rfl, .inr ⟨Same.sqt rp.sub h1, kk _ M _ I H h rp (Same.refl I) r⟩⟩
  · exact h.elim) fun as M k h => one_of (α := Nat) h⟩
def vLst (K : PySem.W.Frag) : List V → Hp → VK → Prop := fun xs H Q => ∃ p ys, xs = [.ref p] ∧ (SqL K H p ys ∨ SqT K H p ys) ∧ ∀ l, H l = none → Q (.ref l) (upd H l (.lst ys))
theorem qc_lst : QC X (.type "list") (vLst X.K) bLst := ⟨call_list_of, rns1 (fun v d M k I F H Q h r rp kk => by
  unfold bLst at h
  dsimp only at h
  split at h
  · rename_i ds e
    obtain ⟨l, xs, rfl, h1, h2, h3⟩ := lstAt rp r e
    exact ⟨l, xs, rfl, .inl (.inl (.inl h1)), fun p hp => kk _ M _ _ _ h (rp.still hp _) (same_new (rp.freeI hp)) (.newL (rp.freeI hp) h2 h3)⟩
  · rename_i ds e
    obtain rfl := vw_tup e
    obtain ⟨l, xs, rfl, h1, h2, h3⟩ := r.tup_inv
    exact ⟨l, xs, rfl, .inr (Same.sqt rp.sub h1), fun p hp => kk _ M _ _ _ h (rp.still hp _) (same_new (rp.freeI hp)) (.newL (rp.freeI hp) h2 h3)⟩
  · exact h.elim) fun as M k h => one_of (α := Nat) h⟩
theorem qc_lstM : QC X (.type "list") (vLst X.K) bLstM := ⟨call_list_of, rns1 (fun v d M k I F H Q h r rp kk => by
  unfold bLstM at h
  dsimp only at h
  split at h
  · rename_i ds e
    obtain ⟨l, xs, rfl, h1, h2, h3⟩ := lstAt rp r e
    exact ⟨l, xs, rfl, .inl (.inl (.inl h1)), fun p hp => kk _ _ _ _ _ (h p (rp.freeM hp)) (rp.newL hp h2 h3) (Same.refl I) (.ref p)⟩
  · rename_i ds e
    obtain rfl := vw_tup e
    obtain ⟨l, xs, rfl, h1, h2, h3⟩ := r.tup_inv
    exact ⟨l, xs, rfl, .inr (Same.sqt rp.sub h1), fun p hp => kk _ _ _ _ _ (h p (rp.freeM hp)) (rp.newL hp h2 h3) (Same.refl I) (.ref p)⟩
  · exact h.elim) fun as M k h => one_of (α := Nat) h⟩
theorem two_ints {as : List D} {f : Int → Int → Prop} (h : match as with | [.int i, .int j] => f i j | _ => False) : ∃ i j, as = [.int i, .int j] ∧ f i j := by
  split at h
  · exact ⟨_, _, rfl, h⟩
  · exact h.elim
theorem qc_max (hc : X.calm = true) : QC X (.builtin "max") (fun xs H Q => ∃ i j, xs = [.int i, .int j] ∧ Q (.int (if j > i then j else i)) H) bMax := ⟨call_max2 hc, fun xs as M k I F H Q h rs rp kk => by
  obtain ⟨i, j, rfl, q⟩ := two_ints h
  obtain ⟨v, u, rfl, r1, r2⟩ := drs2 rs
  obtain rfl := r1.int_inv; obtain rfl := r2.int_inv
  exact ⟨i, j, rfl, kk _ M _ I H q rp (Same.refl I) (.int _)⟩⟩
theorem qc_min (hc : X.calm = true) : QC X (.builtin "min") (fun xs H Q => ∃ i j, xs = [.int i, .int j] ∧ Q (.int (if j < i then j else i)) H) bMin := ⟨call_min2 hc, fun xs as M k I F H Q h rs rp kk => by
  obtain ⟨i, j, rfl, q⟩ := two_ints h
  obtain ⟨v, u, rfl, r1, r2⟩ := drs2 rs
  obtain rfl := r1.int_inv; obtain rfl := r2.int_inv
  exact ⟨i, j, rfl, kk _ M _ I H q rp (Same.refl I) (.int _)⟩⟩
theorem qc_abs : QC X (.builtin "abs") (fun xs H Q => ∃ i, xs = [.int i] ∧ Q (.int (if i < 0 then -i else i)) H) bAbs := ⟨call_abs, fun xs as M k I F H Q h rs rp kk => by
  unfold bAbs at h
  split at h
  · obtain ⟨v, rfl, r1⟩ := drs1 rs
    obtain rfl := r1.int_inv
    exact ⟨_, rfl, kk _ M _ I H h rp (Same.refl I) (.int _)⟩
  · exact h.elim⟩
theorem num_len {i : Int} (h : i.natAbs.log2 < 1920) : (toString i : Str).length ≤ sizeLine := int_text_fits h
def vStr : List V → Hp → VK → Prop := fun xs H Q => (∃ i, xs = [.int i] ∧ i.natAbs.log2 < 1920 ∧ Q (.str (toString i)) H) ∨ ∃ a, xs = [.str a] ∧ Q (.str a) H
theorem qc_str : QC X (.type "str") vStr bStr := ⟨call_str_int.or SkE.call_str_str, fun xs as M k I F H Q h rs rp kk => by
  unfold bStr at h
  split at h
  · obtain ⟨v, rfl, r1⟩ := drs1 rs
    obtain rfl := r1.int_inv
    exact .inl ⟨_, rfl, h.1, kk _ M _ I H h.2 rp (Same.refl I) (.str _ (num_len h.1))⟩
  · obtain ⟨v, rfl, r1⟩ := drs1 rs
    obtain ⟨rfl, hz⟩ := r1.str_inv
    exact .inr ⟨_, rfl, kk _ M _ I H h rp (Same.refl I) (.str _ hz)⟩
  · exact h.elim⟩
def vInt : List V → Hp → VK → Prop := fun xs H Q => ((∃ i, xs = [.int i] ∧ Q (.int i) H) ∨ ∃ k, xs = [.bl k] ∧ Q (.int (if k then 1 else 0)) H) ∨ ∃ a n, xs = [.str a] ∧ PySem.intText? a = some n ∧ a.length ≤ 640 ∧ Q (.int n) H
theorem qc_int : QC X (.type "int") vInt bInt := ⟨call_int1.or call_int_str, fun xs as M k I F H Q h rs rp kk => by
  unfold bInt at h
  split at h
  · obtain ⟨v, rfl, r1⟩ := drs1 rs
    obtain rfl := r1.int_inv
    exact .inl (.inl ⟨_, rfl, kk _ M _ I H h rp (Same.refl I) (.int _)⟩)
  · obtain ⟨v, rfl, r1⟩ := drs1 rs
    obtain rfl := r1.bl_inv
    exact .inl (.inr ⟨_, rfl, kk _ M _ I H h rp (Same.refl I) (.int _)⟩)
  · obtain ⟨n, h1, h⟩ := h
    obtain ⟨v, rfl, r1⟩ := drs1 rs
    obtain ⟨rfl, _⟩ := r1.str_inv
    exact .inr ⟨_, n, rfl, h1.1, h1.2, kk _ M _ I H h rp (Same.refl I) (.int _)⟩
  · exact h.elim⟩
/-- the name of a built-in class as a value -/
theorem qtyn {x : Str} {T : String} {pos : Pos} (hg : Gl X x) (hm : X.mg x = none) (hv : bootBuiltins x = some (.type T)) (hn : x ≠ "__name__" := by decide) (hd : (x == ("__debug__" : Str)) = false := by decide) : QE X (.Name x pos) (tC (.ty T)) (dC (.ty T)) :=
  ⟨pe_bltn hg hm hv rfl hn hd, se_c fun _ _ => .ty T⟩
theorem kit_all : ∀ a ∈ ["NoneType", "bool", "int", "str", "list", "tuple"], ∀ T ∈ ["int", "bool", "str", "tuple", "list"], kitB a T = some (isT a T) := by decide +kernel
theorem tyx_of {I F H : Hp} {M : Mem} {v : V} {d : D} (r : DR K I v d) (rp : Rep K I F M H) (h : tyD (vw M d) ≠ "") : TyX K H v (.type (tyD (vw M d))) := by
  cases e : vw M d with
  | lst ds =>
    obtain ⟨l, xs, rfl, h1, h2, h3⟩ := lstAt rp r e
    exact .base (.lst h1)
  | non => obtain rfl := vw_non e; obtain rfl := r.non_inv; exact .base .non
  | bl b => obtain rfl := vw_bl e; obtain rfl := r.bl_inv; exact .base (.bl b)
  | int b => obtain rfl := vw_int e; obtain rfl := r.int_inv; exact .base (.int b)
  | str b => obtain rfl := vw_str e; obtain ⟨rfl, _⟩ := r.str_inv; exact .base (.str b)
  | tup ds =>
    obtain rfl := vw_tup e
    obtain ⟨l, xs, rfl, h1, h2, h3⟩ := r.tup_inv
    rcases Same.sqt rp.sub h1 with (h | ⟨o, h⟩) | ⟨o, its, n, q1, q2, _⟩
    · exact .base (.tup h)
    · exact .fTuple h
    · exact .kTuple q1 q2
  | ins _ _ => rw [e] at h; exact absurd rfl h
  | ref _ => rw [e] at h; exact absurd rfl h
  | ty _ => rw [e] at h; exact absurd rfl h
  | scr _ => rw [e] at h; exact absurd rfl h
theorem ty_mem {d : D} (h : tyD d ≠ "") : tyD d ∈ ["NoneType", "bool", "int", "str", "list", "tuple"] := by
  cases d <;> first | exact absurd rfl h | (simp [tyD])
theorem qc_isi : QC X (.builtin "isinstance") (rIsi X.K) bIsi := ⟨call_isi, fun xs as M k I F H Q h rs rp kk => by
  unfold bIsi at h
  split at h
  · rename_i x T
    obtain ⟨v, u, rfl, r1, r2⟩ := drs2 rs
    cases r2
    refine ⟨v, .ty T, .type (tyD (vw M x)), .type T, isT (tyD (vw M x)) T, rfl, .ty T, tyx_of r1 rp h.1.1, kit_ty (kit_all _ (ty_mem h.1.1) T ?_), kk _ M _ I H h.2 rp (Same.refl I) (.bl _)⟩
    rcases h.1.2 with z | z | z | z | z <;> rw [z] <;> simp
  · exact h.elim⟩
theorem noDict_of {n : Nat} {d : D} (h : okD n d = true) : (toP d).hasDict = false := PyData.hasDict_of_canLay _ (can_of n d h).1
/-- repr of data, where no repr is under way -/
def vRepr (K : PySem.W.Frag) : List V → Hp → VK → Prop := fun xs H Q => ∃ x d, xs = [x] ∧ Dp K H x d ∧ d.canLay0 = true ∧ d.depth ≤ 20 ∧ d.showable = true ∧ d.shown.length ≤ sizeLine ∧ Q (.str d.shown) H
theorem call_reprD (hg : X.A.guards = some []) (hu : X.A.units + 64 < cLine) : CallR X (.builtin "repr") (vRepr X.K) := by
  intro pins s σ H xs us Q I r h
  obtain ⟨x, d, rfl, hd, hc, hdp, hs, hz, q⟩ := h
  obtain ⟨u, rfl, ru⟩ := vals1 r
  have nd := PyData.hasDict_of_canLay _ hc
  cases hd with
  | non => cases (show u = Value.none from ru); exact PySem.P.repr_of_none ⟨.str _, H, I.tok _, ⟨_, rfl⟩, q⟩
  | bl b => cases (show u = Value.bool b from ru); exact PySem.P.repr_of_bool ⟨.str _, H, I.tok _, ⟨_, rfl⟩, q⟩
  | int i =>
    obtain ⟨t, rfl⟩ := ru
    exact PySem.P.repr_of_int (by simpa [PyData.showable] using hs) ⟨.str _, H, I.tok _, ⟨_, rfl⟩, q⟩
  | str z =>
    obtain ⟨t, rfl⟩ := ru
    exact PySem.P.repr_of_str ⟨.str _, H, I.tok _, ⟨_, rfl⟩, q⟩ hz
  | lst h1 h2 =>
    cases (show u = _ from ru)
    obtain ⟨as, hr⟩ := Dp.reads I _ _ _ (.lst h1 h2) rfl
    exact repr_of_reads' hr hs (PyData.noDict_hsm nd) hg (by omega) (fun b o e => e) (fun h' u tk hk => ⟨.str _, H, I.kept (t' := tk) hk, ⟨_, rfl⟩, q⟩) hz
  | tup h1 h2 =>
    cases (show u = _ from ru)
    obtain ⟨as, hr⟩ := Dp.reads I _ _ _ (.tup h1 h2) rfl
    exact repr_of_reads' hr hs (PyData.noDict_hsm nd) hg (by omega) (fun b o e => e) (fun h' u tk hk => ⟨.str _, H, I.kept (t' := tk) hk, ⟨_, rfl⟩, q⟩) hz
theorem qc_repr (hg : X.A.guards = some []) (hu : X.A.units + 64 < cLine) : QC X (.builtin "repr") (vRepr X.K) bRepr := ⟨call_reprD hg hu, rns1 (fun v d M k I F H Q h r rp kk => by
  have h1 := can_of 20 _ h.1.1
  exact ⟨v, _, rfl, dpAt rp r h.1.1, h1.1, h1.2, h.1.2.1, line_le h.1.2.2, kk _ M _ I H h.2 rp (Same.refl I) (.str _ (line_le h.1.2.2))⟩) fun as M k h => one_of (α := Nat) h⟩
end

/-! ### list(range(..)), tuple(range(..)) -/
def rgD (a b : Int) : List D := (List.range (b - a).toNat).map fun i => D.int (a + (i : Nat))
def dRg1 (m : Bool) (da : DE) : DE := fun E M k => da E M fun x M1 => match x with
  | .int n => (n ≤ 1000000 ∧ -1000000 ≤ n) ∧ k (if m then .lst (rgD 0 n) else .tup (rgD 0 n)) M1
  | _ => False
def dRg2 (m : Bool) (da db : DE) : DE := fun E M k => da E M fun x M1 => db E M1 fun y M2 => match x, y with
  | .int a, .int b => (-1000000 ≤ a ∧ a ≤ 1000000 ∧ -1000000 ≤ b ∧ b ≤ 1000000) ∧ k (if m then .lst (rgD a b) else .tup (rgD a b)) M2
  | _, _ => False
def dRg1M (da : DE) : DE := fun E M k => da E M fun x M1 => match x with
  | .int n => (n ≤ 1000000 ∧ -1000000 ≤ n) ∧ ∀ p, M1 p = none → k (.ref p) (mset M1 p (.lst (rgD 0 n)))
  | _ => False
section
variable {X : Cx} {K : PySem.W.Frag} {a b : Expr} {ta tb : TE} {da db : DE} {p p2 pos pos2 : Pos}
theorem rg_drs {I : Hp} {a b : Int} : DRs K I (rgV a b) (rgD a b) := DRs.ofMap fun i _ => .int _
theorem rg_line {a b : Int} (h : (b - a).toNat ≤ 2000000) : (rgV a b).length ≤ sizeLine := by rw [rgV_length]; exact Nat.le_trans h (by decide)
theorem qe_lstRg1 (hc : X.calm = true) (hg : Gl X "list") (hm : X.mg "list" = none) (hg2 : Gl X "range") (hm2 : X.mg "range" = none) (ha : QE X a ta da) (na : starEach [a] X.env = (false, eval a X.env) :: starEach [] X.env := by rfl)
    (na2 : starEach [.Call (.Name "range" p2) [a] [] pos2] X.env = (false, eval (.Call (.Name "range" p2) [a] [] pos2) X.env) :: starEach [] X.env := by rfl) : QE X (.Call (.Name "list" p) [.Call (.Name "range" p2) [a] [] pos2] [] pos) (tLstRg (tRg1 ta)) (dRg1 true da) :=
  ⟨pe_listRg hc hg hm (prg_1 hg2 hm2 ha.pe na) na2, fun E M k σ I F H Q hd er rp kk => ha.sim E M _ σ I F H _ hd er rp fun d M1 v I1 H1 q rp1 s1 d1 => by
    cases d <;> first | exact q.elim | skip
    obtain rfl := d1.int_inv
    exact ⟨_, rfl, ⟨by omega, by omega, by have := q.1; omega, by have := q.1; omega, by have := q.1; omega⟩, fun q' hq => kk _ M1 _ _ _ q.2 (rp1.still hq _) (s1.trans (same_new (rp1.freeI hq))) (.newL (rp1.freeI hq) (rg_line (by have := q.1; omega)) rg_drs)⟩⟩
theorem qe_lstRg1M (hc : X.calm = true) (hg : Gl X "list") (hm : X.mg "list" = none) (hg2 : Gl X "range") (hm2 : X.mg "range" = none) (ha : QE X a ta da) (na : starEach [a] X.env = (false, eval a X.env) :: starEach [] X.env := by rfl)
    (na2 : starEach [.Call (.Name "range" p2) [a] [] pos2] X.env = (false, eval (.Call (.Name "range" p2) [a] [] pos2) X.env) :: starEach [] X.env := by rfl) : QE X (.Call (.Name "list" p) [.Call (.Name "range" p2) [a] [] pos2] [] pos) (tLstRg (tRg1 ta)) (dRg1M da) :=
  ⟨pe_listRg hc hg hm (prg_1 hg2 hm2 ha.pe na) na2, fun E M k σ I F H Q hd er rp kk => ha.sim E M _ σ I F H _ hd er rp fun d M1 v I1 H1 q rp1 s1 d1 => by
    cases d <;> first | exact q.elim | skip
    obtain rfl := d1.int_inv
    exact ⟨_, rfl, ⟨by omega, by omega, by have := q.1; omega, by have := q.1; omega, by have := q.1; omega⟩, fun q' hq => kk _ _ _ _ _ (q.2 q' (rp1.freeM hq)) (rp1.newL hq (rg_line (by have := q.1; omega)) rg_drs) s1 (.ref q')⟩⟩
theorem qe_tupRg1 (hc : X.calm = true) (hg : Gl X "tuple") (hm : X.mg "tuple" = none) (hg2 : Gl X "range") (hm2 : X.mg "range" = none) (ha : QE X a ta da) (na : starEach [a] X.env = (false, eval a X.env) :: starEach [] X.env := by rfl)
    (na2 : starEach [.Call (.Name "range" p2) [a] [] pos2] X.env = (false, eval (.Call (.Name "range" p2) [a] [] pos2) X.env) :: starEach [] X.env := by rfl) : QE X (.Call (.Name "tuple" p) [.Call (.Name "range" p2) [a] [] pos2] [] pos) (tTupRg (tRg1 ta)) (dRg1 false da) :=
  ⟨pe_tupRg hc hg hm (prg_1 hg2 hm2 ha.pe na) na2, fun E M k σ I F H Q hd er rp kk => ha.sim E M _ σ I F H _ hd er rp fun d M1 v I1 H1 q rp1 s1 d1 => by
    cases d <;> first | exact q.elim | skip
    obtain rfl := d1.int_inv
    exact ⟨_, rfl, ⟨by omega, by omega, by have := q.1; omega, by have := q.1; omega, by have := q.1; omega⟩, fun q' hq => kk _ M1 _ _ _ q.2 (rp1.still hq _) (s1.trans (same_new (rp1.freeI hq))) (.newT (rp1.freeI hq) (rg_line (by have := q.1; omega)) rg_drs)⟩⟩
theorem qe_tupRg2 (hc : X.calm = true) (hg : Gl X "tuple") (hm : X.mg "tuple" = none) (hg2 : Gl X "range") (hm2 : X.mg "range" = none) (ha : QE X a ta da) (hb : QE X b tb db) (na : starEach [a, b] X.env = (false, eval a X.env) :: starEach [b] X.env := by rfl)
    (nb : starEach [b] X.env = (false, eval b X.env) :: starEach [] X.env := by rfl) (hp : (backTo pos2 (starEach [b] X.env)).any (·.1) = false := by rfl)
    (na2 : starEach [.Call (.Name "range" p2) [a, b] [] pos2] X.env = (false, eval (.Call (.Name "range" p2) [a, b] [] pos2) X.env) :: starEach [] X.env := by rfl) : QE X (.Call (.Name "tuple" p) [.Call (.Name "range" p2) [a, b] [] pos2] [] pos) (tTupRg (tRg2 ta tb)) (dRg2 false da db) :=
  ⟨pe_tupRg hc hg hm (prg_2 hg2 hm2 ha.pe hb.pe na nb hp) na2, fun E M k σ I F H Q hd er rp kk => ha.sim E M _ σ I F H _ hd er rp fun d M1 v I1 H1 q rp1 s1 d1 => hb.sim E M1 _ σ I1 F H1 _ q (er.mono s1) rp1 fun e M2 u I2 H2 q2 rp2 s2 d2 => by
    cases d <;> cases e <;> first | exact q2.elim | skip
    obtain rfl := d1.int_inv
    obtain rfl := d2.int_inv
    exact ⟨_, _, rfl, rfl, ⟨by have := q2.1; omega, by have := q2.1; omega, by have := q2.1; omega, by have := q2.1; omega, by have := q2.1; omega⟩, fun q' hq => kk _ M2 _ _ _ q2.2 (rp2.still hq _) ((s1.trans s2).trans (same_new (rp2.freeI hq))) (.newT (rp2.freeI hq) (rg_line (by have := q2.1; omega)) rg_drs)⟩⟩
end
end Qd
namespace Qd
open PySem PySem.Spec PyProof.Rows L2

/-! ### slices -/
def cutD (ds : List D) (lo hi : Option Int) : List D := (ds.drop (HT.sIx ds.length 0 lo)).take (HT.sIx ds.length ds.length hi - HT.sIx ds.length 0 lo)
def oSl (x : D) (lo hi : Option Int) (M : Mem) (k : DK) : Prop := match vw M x with
  | .lst ds => k (.lst (cutD ds lo hi)) M
  | .tup ds => k (.tup (cutD ds lo hi)) M
  | .str z => k (.str (cutS z lo hi)) M
  | _ => False
abbrev DO := DEnv → Mem → (Option Int → Mem → Prop) → Prop
def dNoPart : DO := fun _ M k => k none M
def dPart (de : DE) : DO := fun E M k => de E M fun d M1 => match d with
  | .int i => k (some i) M1
  | _ => False
def SO (K : PySem.W.Frag) (to : TO) (d : DO) : Prop := ∀ (E : DEnv) (M : Mem) (k : Option Int → Mem → Prop) (σ : L2.St) (I F H : Hp) (Q : Option Int → Hp → Prop), d E M k → ER K I σ E → Rep K I F M H →
  (∀ o M' I' H', k o M' → Rep K I' F M' H' → Same I I' → Q o H') → to σ H Q
structure QPt (X : Cx) (e : Option Expr) (to : TO) (d : DO) : Prop where
  po : PO X e to
  sim : SO X.K to d
def dSl (de : DE) (lo hi : DO) : DE := fun E M k => de E M fun x M1 => lo E M1 fun l M2 => hi E M2 fun h M3 => oSl x l h M3 k
def dRev (de : DE) : DE := fun E M k => de E M fun x M1 => match vw M1 x with
  | .lst ds => k (.lst ds.reverse) M1
  | .tup ds => k (.tup ds.reverse) M1
  | _ => False
section
variable {prog : Program} {w : World} {A : Around} {E : Value → Shared → Prop} {s : Shared}
theorem fm_congr {α β : Type} {f g : α → Option β} : ∀ {l : List α}, (∀ x ∈ l, f x = g x) → l.filterMap f = l.filterMap g
  | [], _ => rfl
  | x :: r, h => by
    rw [List.filterMap_cons, List.filterMap_cons, h x List.mem_cons_self, fm_congr fun y hy => h y (List.mem_cons_of_mem _ hy)]
theorem pick_rev (xs : Array Value) : ((List.range xs.size).filterMap fun (m : Nat) => xs[(((xs.size : Int) - 1) + (m : Int) * (-1)).toNat]?).toArray = xs.toList.reverse.toArray := by
  congr 1
  apply List.ext_getElem?
  intro i
  have e : ∀ m ∈ List.range xs.size, xs[(((xs.size : Int) - 1) + (m : Int) * (-1)).toNat]? = some (xs.toList.reverse.getD m .none) := by
    intro m hm
    have hm' : m < xs.size := List.mem_range.mp hm
    have e1 : (((xs.size : Int) - 1) + (m : Int) * (-1)).toNat = xs.size - 1 - m := by omega
    rw [e1, List.getD_eq_getElem?_getD, List.getElem?_reverse (by simpa using hm')]
    have h2 : xs.size - 1 - m < xs.size := by omega
    rw [Array.getElem?_eq_getElem h2, Array.length_toList, List.getElem?_eq_getElem (by simpa using h2)]
    simp
  have e2 : (List.range xs.size).filterMap (fun (m : Nat) => xs[(((xs.size : Int) - 1) + (m : Int) * (-1)).toNat]?) = (List.range xs.size).map fun m => xs.toList.reverse.getD m .none := by
    rw [← List.filterMap_eq_map]
    exact fm_congr e
  rw [e2, List.getElem?_map]
  by_cases hi : i < xs.size
  · rw [List.getElem?_range hi]
    show some (xs.toList.reverse.getD i .none) = _
    rw [List.getD_eq_getElem?_getD, List.getElem?_eq_getElem (by simpa using hi)]
    rfl
  · rw [List.getElem?_eq_none (by simpa using hi), List.getElem?_eq_none (by simpa using hi)]
    rfl
theorem sliceApplied_rev {sl : Addr} {t : Tok} {n : Nat} {Q : Int × Int × Nat → Shared → Prop} (hs : s.heap.IsSliceOf sl .none .none (.int (-1) t))
    (h : Q ((n : Int) - 1, -1, n) s) : wpAny (model prog w) A (Builtin.Slice.sliceApplied (.ref sl) (pure (n : Int))) Q E s := by
  obtain ⟨os, hos, hcs, hds⟩ := id hs
  unfold Builtin.Slice.sliceApplied Builtin.Slice.sliceFields
  refine wpAny_bind (wpAny_bind (wpAny_field hos hds (x := .none) rfl (wpAny_bind (wpAny_field hos hds (x := .none) rfl (wpAny_bind (wpAny_field hos hds (x := .int (-1) t) rfl (wpAny_pure ?_)))))))
  refine wpAny_bind (slicePart_int ?_)
  show wpAny _ _ (if ((-1 : Int) == 0) = true then _ else _) _ _ s
  rw [if_neg (by decide)]
  refine wpAny_bind (slicePart_none (wpAny_bind (slicePart_none (wpAny_bind (wpAny_pure ?_)))))
  show wpAny _ _ (pure ((n : Int) - 1, (-1 : Int), Builtin.Slice.slicePlaces ((n : Int) - 1) (-1) (-1))) _ _ s
  have e : Builtin.Slice.slicePlaces ((n : Int) - 1) (-1) (-1) = n := by
    unfold Builtin.Slice.slicePlaces
    rw [if_neg (by decide)]
    by_cases hn : n = 0
    · subst hn; rfl
    · rw [if_pos (by omega)]
      show (((n : Int) - 1 - -1 - 1) / 1 + 1).toNat = n
      rw [Int.ediv_one]
      omega
  rw [e]
  exact wpAny_pure h
theorem getItem_tuple_rev {t sl : Addr} {items : Array Value} {u : Tok} {Q : Value → Shared → Prop} (ht : IsTup s.heap t items) (hs : s.heap.IsSliceOf sl .none .none (.int (-1) u))
    (h : Q (.ref s.heap.objs.size) { s with heap := s.heap.push { cls := .type "tuple", data := .seq items.toList.reverse.toArray } })
    (hsz : items.size ≤ sizeLine) : wpAny (model prog w) A (getItem (.ref t) (.ref sl)) Q E s := by
  have htake : sizeOk (.seq items.toList.reverse.toArray) := by
    show items.toList.reverse.toArray.size ≤ sizeLine
    rw [List.size_toArray, List.length_reverse, Array.length_toList]
    exact hsz
  obtain ⟨os, hos, hcs, hds⟩ := id hs
  have hTs : s.TypeIs (.ref sl) "slice" := ⟨os, hos, hcs⟩
  unfold getItem
  try with_reducible refine wpAny_holding ?_
  first | refine wpAny_bind (wpAny_pure ?_) | skip
  refine wpAny_bind (wpAny_sequenceKey ht.typeIs (by decide) ?_)
  refine wpAny_bind (wpAny_callSpecial?_slot (name := Str.ofString "__getitem__") ht.typeIs PyProof.Rows.slot_tuple_getitem
    (wpAny_call_entry PyProof.Rows.slot_tuple_getitem ht.typeIs entry_tuple_getitem ?_ (args_tuple_getitem _ _)))
  show wpAny _ _ (Builtin.Tuple.tupleItemsOf (.ref t) >>= _) _ _ s
  refine wpAny_bind (tupleItemsOf_ ht ?_)
  refine wpAny_bind (wpAny_typeOf hTs ?_)
  rw [if_pos (by decide)]
  refine wpAny_bind (sliceApplied_rev hs ?_)
  show wpAny _ _ (if (((items.size : Int) - 1 == 0) && ((-1 : Int) == 1) && (items.size == items.size)) = true then _ else _) _ _ s
  have hno : ¬ (((((items.size : Int) - 1 == 0) && ((-1 : Int) == 1)) && (items.size == items.size)) = true) := by
    rw [show ((-1 : Int) == 1) = false from rfl, Bool.and_false, Bool.false_and]
    exact Bool.false_ne_true
  rw [if_neg hno, pick_rev]
  first
    | exact wpAny_bind (m := Builtin.Tuple.tupleExact _) (wpAny_newObj_type (wpAny_pure ⟨_, rfl, wpAny_pure h⟩) htake)
    | exact wpAny_bind (m := Builtin.Tuple.tupleExact _) (wpAny_newObj_type (wpAny_bind (wpAny_pure (wpAny_pure ⟨_, rfl, wpAny_pure h⟩))) htake)
    | exact wpAny_bind (wpAny_bind (m := Builtin.Tuple.tupleExact _) (wpAny_newObj_type (wpAny_pure (wpAny_pure ⟨_, rfl, wpAny_pure h⟩)) htake))
    | exact wpAny_bind (wpAny_bind (m := Builtin.Tuple.tupleExact _) (wpAny_newObj_type (wpAny_pure ⟨_, rfl, wpAny_pure h⟩) htake))
end
section
variable {X : Cx} {K : PySem.W.Frag} {e e2 : Expr} {te : TE} {de : DE} {pos p2 : Pos} {lo hi : Option Expr} {tl th : TO} {dl dh : DO}
theorem qp_none : QPt X none tNoPart dNoPart := ⟨po_none, fun E M k σ I F H Q hd er rp kk => kk none M I H hd rp (Same.refl I)⟩
theorem qp_some (h : QE X e te de) : QPt X (some e) (tPart te) (dPart de) := ⟨po_some h.pe, fun E M k σ I F H Q hd er rp kk => h.sim E M _ σ I F H _ hd er rp fun d M1 v I1 H1 q rp1 s1 d1 => by
  cases d <;> first | exact q.elim | skip
  obtain rfl := d1.int_inv
  exact ⟨_, rfl, kk _ M1 I1 H1 q rp1 s1⟩⟩
def vSl (K : PySem.W.Frag) : V → Option Int → Option Int → Hp → VK → Prop := fun x lo hi H Q => rSlL K x lo hi H Q ∨ rSlA K x lo hi H Q ∨ rSlS x lo hi H Q
theorem cut_drs {I : Hp} {xs : List V} {ds : List D} (r : DRs K I xs ds) (lo hi : Option Int) : DRs K I (cutV xs lo hi) (cutD ds lo hi) := by
  unfold cutV cutD
  rw [r.len]
  exact (r.drop _).take _
theorem cut_whole {ds : List D} {lo hi : Option Int} (h : HT.sIx ds.length 0 lo = 0 ∧ HT.sIx ds.length ds.length hi = ds.length) : cutD ds lo hi = ds := by
  unfold cutD
  rw [h.1, h.2, List.drop_zero, Nat.sub_zero, List.take_length]
theorem qe_slice (h : QE X e te de) (hl : QPt X lo tl dl) (hh : QPt X hi th dh) : QE X (.Subscript e (.Slice lo hi none p2) pos) (tSl (vSl X.K) te tl th) (dSl de dl dh) :=
  ⟨pe_slice (sl_list.or (sl_tupA.or sl_str)) h.pe hl.po hh.po, fun E M k σ I F H Q hd er rp kk => h.sim E M _ σ I F H _ hd er rp fun x M1 v I1 H1 q1 rp1 s1 d1 =>
    hl.sim E M1 _ σ I1 F H1 _ q1 (er.mono s1) rp1 fun a M2 I2 H2 q2 rp2 s2 => hh.sim E M2 _ σ I2 F H2 _ q2 ((er.mono s1).mono s2) rp2 fun b M3 I3 H3 q3 rp3 s3 => by
      have d3 := (d1.mono s2).mono s3
      have st : Same I I3 := (s1.trans s2).trans s3
      unfold oSl at q3
      split at q3
      · rename_i ds e
        obtain ⟨l, xs, rfl, h1, h2, h3⟩ := lstAt rp3 d3 e
        exact .inl ⟨l, xs, rfl, .inl (.inl h1), fun p hp => kk _ M3 _ _ _ q3 (rp3.still hp _) (st.trans (same_new (rp3.freeI hp))) (.newL (rp3.freeI hp) (Nat.le_trans (cutV_length _ _ _) h2) (cut_drs h3 a b))⟩
      · rename_i ds e
        obtain rfl := vw_tup e
        obtain ⟨l, xs, rfl, h1, h2, h3⟩ := d3.tup_inv
        refine .inr (.inl ⟨l, xs, rfl, Same.sqt rp3.sub h1, fun hw => ?_, fun _ p hp => kk _ M3 _ _ _ q3 (rp3.still hp _) (st.trans (same_new (rp3.freeI hp))) (.newT (rp3.freeI hp) (Nat.le_trans (cutV_length _ _ _) h2) (cut_drs h3 a b))⟩)
        rw [h3.len] at hw
        rw [cut_whole hw] at q3
        exact kk _ M3 _ I3 H3 q3 rp3 st d3
      · rename_i z e
        obtain rfl := vw_str e
        obtain ⟨rfl, hz⟩ := d3.str_inv
        exact .inr (.inr ⟨z, rfl, hz, kk _ M3 _ I3 H3 q3 rp3 st (.str _ (Nat.le_trans (cutS_length _ _ _) hz))⟩)
      · exact q3.elim⟩
def tRevA (K : PySem.W.Frag) (te : TE) : TE := fun σ H Q => te σ H fun x H1 => ∃ a xs, x = .ref a ∧ ((SqL K H1 a xs ∧ ∀ p, H1 p = none → Q (.ref p) (upd H1 p (.lst xs.reverse))) ∨ (SqT K H1 a xs ∧ ∀ p, H1 p = none → Q (.ref p) (upd H1 p (.tup xs.reverse))))
theorem pe_revA {k : Nat} {p1 p3 : Pos} (he : PE X e te) : PE X (.Subscript e (.Slice none none (some (.UnaryOp .USub (.Constant (.int 1) k p1) p2)) p3) pos) (tRevA X.K te) := by
  refine ⟨fun pins s σ H Q I h => ?_⟩
  refine Subscript_ (thn (he.run pins s σ H _ I h) fun v s1 ⟨x, H1, I1, r1, q1⟩ => ?_)
  obtain ⟨a, xs, rfl, q1⟩ := q1
  cases r1
  have hst : PO X (some (.UnaryOp .USub (.Constant (.int 1) k p1) p2)) (tPart (tUn (rU fun i => .int (-i)) (tC (.int 1)))) := po_some (pe_un un_neg pe_int)
  refine wpAny_Slice (thn (po_none.run pins s1 σ H1 (fun o H2 => o = none ∧ H2 = H1) I1 ⟨rfl, rfl⟩) fun vl s2 ⟨l, H2, I2, pl, el, e2⟩ => ?_)
  subst el e2
  refine thn (po_none.run pins s2 σ H2 (fun o H3 => o = none ∧ H3 = H2) I2 ⟨rfl, rfl⟩) fun vu s3 ⟨u, H3, I3, pu, eu, e3⟩ => ?_
  subst eu e3
  refine thn (hst.run pins s3 σ H3 (fun o H4 => o = some (-1) ∧ H4 = H3) I3 ⟨1, rfl, -1, rfl, rfl, rfl⟩) fun vs s4 ⟨o, H4, I4, ps, eo, e4⟩ => ?_
  subst eo e4
  have I5 : Inv X pins σ H4 { s4 with heap := s4.heap.push { cls := .type "slice", data := .fields #[vl, vu, vs] } } := I4.kept (t' := s4.toks) fun b ob q => Heap.get?_push_of_some _ q
  rcases q1 with ⟨hx, q⟩ | ⟨hx, q⟩
  · obtain ⟨its, r, ht, hz⟩ := I5.list hx
    have hlen := r.length
    refine tail_any (ops := [.ref a, .ref s4.heap.objs.size]) ht.isList.typeIs (PySem.slot_list_getitem.lookup) ?_ (by with_unfolding_all rfl)
    refine wpAny_getItem_list_slice ht.isList (Heap.IsSliceOf.new _ vl vu vs) pl pu ps (by decide) ?_ (by rw [List.size_toArray]; omega)
    rw [PySem.W.krv_pick]
    refine ⟨.ref _, _, I5.laid (t' := s4.toks) (o := .lst xs.reverse) (fun b ob q => Heap.get?_push_of_some _ q) (Nat.le_refl _) ?_, rfl, q _ (I5.hok.fresh (Nat.le_refl _))⟩
    exact ⟨by rw [List.length_reverse]; exact hz, _, 0, r.reverse, Heap.get?_push_size _ rfl⟩
  · obtain ⟨its, r, ht, hz⟩ := I5.tuple hx
    have hlen := r.length
    have evl : vl = .none := by cases pl; rfl
    have evu : vu = .none := by cases pu; rfl
    obtain ⟨t, evs⟩ : ∃ t, vs = .int (-1) t := by cases ps; exact ⟨_, rfl⟩
    subst evl; subst evu; subst evs
    refine tail_any (ops := [.ref a, .ref s4.heap.objs.size]) ht.typeIs (PyProof.Rows.slot_tuple_getitem.lookup) ?_ (by with_unfolding_all rfl)
    refine getItem_tuple_rev ht (Heap.IsSliceOf.new _ .none .none (.int (-1) t)) ?_ (by rw [List.size_toArray]; omega)
    refine ⟨.ref _, _, I5.laid (t' := s4.toks) (o := .tup xs.reverse) (fun b ob q => Heap.get?_push_of_some _ q) (Nat.le_refl _) ?_, rfl, q _ (I5.hok.fresh (Nat.le_refl _))⟩
    exact ⟨by rw [List.length_reverse]; exact hz, _, r.reverse, IsTup.new _ _⟩
theorem qe_rev {k : Nat} {p1 p3 : Pos} (h : QE X e te de) : QE X (.Subscript e (.Slice none none (some (.UnaryOp .USub (.Constant (.int 1) k p1) p2)) p3) pos) (tRevA X.K te) (dRev de) :=
  ⟨pe_revA h.pe, fun E M k σ I F H Q hd er rp kk => h.sim E M _ σ I F H _ hd er rp fun x M1 v I1 H1 q rp1 s1 d1 => by
    split at q
    · rename_i ds e
      obtain ⟨l, xs, rfl, h1, h2, h3⟩ := lstAt rp1 d1 e
      exact ⟨l, xs, rfl, .inl ⟨.inl (.inl h1), fun p hp => kk _ M1 _ _ _ q (rp1.still hp _) (s1.trans (same_new (rp1.freeI hp))) (.newL (rp1.freeI hp) (by rw [List.length_reverse]; exact h2) h3.reverse)⟩⟩
    · rename_i ds e
      obtain rfl := vw_tup e
      obtain ⟨l, xs, rfl, h1, h2, h3⟩ := d1.tup_inv
      exact ⟨l, xs, rfl, .inr ⟨Same.sqt rp1.sub h1, fun p hp => kk _ M1 _ _ _ q (rp1.still hp _) (s1.trans (same_new (rp1.freeI hp))) (.newT (rp1.freeI hp) (by rw [List.length_reverse]; exact h2) h3.reverse)⟩⟩
    · exact q.elim⟩

/-! ### methods of texts and lists -/
def dM1 (r : Str → D → Mem → DK → Prop) (dO da : DE) : DE := fun E M k => dO E M fun x M1 => match x with
  | .str z => da E M1 fun y M2 => r z y M2 k
  | _ => False
def RM1 (K : PySem.W.Frag) (r : V → List V → Hp → VK → Prop) (r' : Str → D → Mem → DK → Prop) : Prop := ∀ (z : Str) (y : V) (b : D) (M : Mem) (k : DK) (I F H : Hp) (Q : VK), r' z b M k → z.length ≤ sizeLine → DR K I y b → Rep K I F M H →
  (∀ d M' v I' H', k d M' → Rep K I' F M' H' → Same I I' → DR K I' v d → Q v H') → r (.str z) [y] H Q
theorem se_m1 {r r'} {to ta : TE} {dO da : DE} (h : RM1 K r r') (ho : SE K to dO) (ha : SE K ta da) : SE K (tM1 r to ta) (dM1 r' dO da) := fun E M k σ I F H Q hd er rp kk =>
  ho E M _ σ I F H _ hd er rp fun x M1 v I1 H1 q rp1 s1 d1 => by
    cases x <;> first | exact q.elim | skip
    obtain ⟨rfl, hz⟩ := d1.str_inv
    exact ⟨⟨_, rfl⟩, ha E M1 _ σ I1 F H1 _ q (er.mono s1) rp1 fun y M2 u I2 H2 q2 rp2 s2 d2 => h _ u y M2 k I2 F H2 Q q2 hz d2 rp2 fun d M' v I' H' a b c e => kk d M' v I' H' a b ((s1.trans s2).trans c) e⟩
theorem qe_m1 {id : String} {name : Str} {apos : Pos} {r r'} {to ta : TE} {dO da : DE} {o : Expr} (slot : Slot "str" name id) (ty : typeOf (.builtin id) = pure (.type "method_descriptor")) (rule : MtR X id r) (h : RM1 X.K r r') (ho : QE X o to dO) (ha : QE X e ta da)
    (hs : starEach [e] X.env = [(false, eval e X.env)] := by rfl) (hbase : attributeBase o name X.env (eval o X.env) = eval o X.env := by rfl) (hline : (apos.endLine == pos.line) = true := by rfl) :
    QE X (.Call (.Attribute o name apos) [e] [] pos) (tM1 r to ta) (dM1 r' dO da) := ⟨pe_m1 slot ty rule ho.pe ha.pe hs hbase hline, se_m1 h ho.sim ha.sim⟩
def mJoin (z : Str) (y : D) (M : Mem) (k : DK) : Prop := match vw M y with
  | .lst ds => ∃ ys : List Str, ds = ys.map D.str ∧ (ys.map (·.length)).sum + ys.length * z.length ≤ 1000000 ∧ k (.str (Txt.join z ys)) M
  | _ => False
def vJoin (K : PySem.W.Frag) : V → List V → Hp → VK → Prop := fun x xs H Q => ∃ a p, ∃ ys : List Str, x = .str a ∧ xs = [.ref p] ∧ (SqL K H p (ys.map V.str) ∨ SqT K H p (ys.map V.str)) ∧
    (ys.map (·.length)).sum + ys.length * a.length ≤ 16777216 ∧ Q (.str (Txt.join a ys)) H
theorem joinL_len (S : List Nat) : ∀ ps : List (List Nat), (TL.joinL S ps).length ≤ (ps.map (·.length)).sum + ps.length * S.length
  | [] => by simp [TL.joinL]
  | [p] => by simp [TL.joinL]
  | p :: q :: r => by
    have ih := joinL_len S (q :: r)
    show (p ++ (S ++ TL.joinL S (q :: r))).length ≤ _
    rw [List.length_append, List.length_append, List.map_cons, List.sum_cons, List.length_cons (a := p)]
    have : ((q :: r).length + 1) * S.length = (q :: r).length * S.length + S.length := by rw [Nat.add_mul, Nat.one_mul]
    omega
theorem join_len (z : Str) (ys : List Str) : (Txt.join z ys).length ≤ (ys.map (·.length)).sum + ys.length * z.length := by
  rw [TL.join_eq, TL.len_tl, TL.tl_join]
  have h := joinL_len (TL.tl z) (ys.map TL.tl)
  rw [List.map_map, List.length_map] at h
  have e : ((fun x => x.length) ∘ TL.tl) = fun y : Str => y.length := by funext y; show (TL.tl y).length = y.length; rw [← TL.len_tl]
  rw [e, ← TL.len_tl] at h
  exact h
theorem rm_join : RM1 K (vJoin K) mJoin := fun z y b M k I F H Q h hz r rp kk => by
  unfold mJoin at h
  split at h
  · rename_i ds e
    obtain ⟨ys, rfl, hn, h⟩ := h
    obtain ⟨l, xs, rfl, h1, h2, h3⟩ := lstAt rp r e
    obtain rfl := map_inv (fun v a r => r.str_inv.1) h3
    exact ⟨z, l, ys, rfl, rfl, .inl (.inl (.inl h1)), Nat.le_trans hn (by decide), kk _ M _ I H h rp (Same.refl I) (.str _ (Nat.le_trans (join_len z ys) (line_le hn)))⟩
  · exact h.elim
theorem qe_join {apos : Pos} {to ta : TE} {dO da : DE} {o : Expr} (ho : QE X o to dO) (ha : QE X e ta da) (hs : starEach [e] X.env = [(false, eval e X.env)] := by rfl) (hbase : attributeBase o "join" X.env (eval o X.env) = eval o X.env := by rfl) (hline : (apos.endLine == pos.line) = true := by rfl) :
    QE X (.Call (.Attribute o "join" apos) [e] [] pos) (tM1 (vJoin X.K) to ta) (dM1 mJoin dO da) := qe_m1 F.slot_str_join F.type_str_join mt_join rm_join ho ha hs hbase hline
def mIndex (z : Str) (y : D) (M : Mem) (k : DK) : Prop := match y with
  | .str a => ∃ n : Nat, Txt.index0 z a = some n ∧ k (.int (n : Nat)) M
  | _ => False
def vIndex : V → List V → Hp → VK → Prop := fun x xs H Q => ∃ (a b : Str) (n : Nat), x = .str a ∧ xs = [.str b] ∧ Txt.index0 a b = some n ∧ Q (.int (n : Nat)) H
theorem mt_index1 : MtR X "str.index" vIndex := by
  intro pins s σ H x xs v us Q I rx rs h
  obtain ⟨a, b, n, rfl, rfl, hn, q⟩ := h
  obtain ⟨t, rfl⟩ := rx
  obtain ⟨u, rfl, u', rfl⟩ := vals1 rs
  unfold Txt.index0 at hn
  cases e : Builtin.Str.occurrences a b 0 a.length 1 with
  | nil => rw [e] at hn; cases hn
  | cons m rest =>
    rw [e] at hn
    cases hn
    exact PySem.SC.index e ⟨.int (n : Nat), H, I.tok _, ⟨_, rfl⟩, q⟩
theorem rm_index : RM1 K vIndex mIndex := fun z y b M k I F H Q h hz r rp kk => by
  cases b <;> first | exact h.elim | skip
  obtain ⟨rfl, _⟩ := r.str_inv
  obtain ⟨n, hn, h⟩ := h
  exact ⟨z, _, n, rfl, rfl, hn, kk _ M _ I H h rp (Same.refl I) (.int _)⟩
theorem qe_index {apos : Pos} {to ta : TE} {dO da : DE} {o : Expr} (ho : QE X o to dO) (ha : QE X e ta da) (hs : starEach [e] X.env = [(false, eval e X.env)] := by rfl) (hbase : attributeBase o "index" X.env (eval o X.env) = eval o X.env := by rfl) (hline : (apos.endLine == pos.line) = true := by rfl) :
    QE X (.Call (.Attribute o "index" apos) [e] [] pos) (tM1 vIndex to ta) (dM1 mIndex dO da) := qe_m1 F.slot_str_index F.type_str_index mt_index1 rm_index ho ha hs hbase hline
def mSplit (z : Str) (y : D) (M : Mem) (k : DK) : Prop := match y with
  | .str a => ((a.length == 0) = false ∧ z.length ≤ 1000000) ∧ k (.lst ((Txt.split z a).map D.str)) M
  | _ => False
def vSplit : V → List V → Hp → VK → Prop := fun x xs H Q => ∃ a b, x = .str a ∧ xs = [.str b] ∧ (b.length == 0) = false ∧ a.length + 2 ≤ sizeLine ∧ rNewStrs (Txt.split a b) H Q
/-- xs.append(e) -/
def dApp (dO da : DE) : DE := fun E M k => dO E M fun x M1 => match x with
  | .ref p => (∃ ds, M1 p = some (.lst ds)) ∧ da E M1 fun y M2 => ∃ ds, M2 p = some (.lst ds) ∧ ds.length < 1000000 ∧ k .non (mset M2 p (.lst (ds ++ [y])))
  | _ => False
theorem qe_app {apos : Pos} {to ta : TE} {dO da : DE} {o : Expr} (ho : QE X o to dO) (ha : QE X e ta da) (hbase : attributeBase o "append" X.env (eval o X.env) = eval o X.env := by rfl)
    (hfew : ((backTo pos (starEach [e] X.env)).all (fun x => !x.1) && (backToKw pos (keywordEach [] X.env)).all (fun x => x.1.isSome) && decide ([e].length + ([] : List Keyword).length + (if ([] : List Keyword).isEmpty then 0 else 1) < 30)) = true := by rfl)
    (hline : (apos.endLine == pos.line) = true := by rfl) (hs : starEach [e] X.env = (false, eval e X.env) :: starEach [] X.env := by rfl) (hplain : (backTo pos (starEach [] X.env)).any (·.1) = false := by rfl) :
    QE X (.Call (.Attribute o "append" apos) [e] [] pos) (tBM X.K "list" rAppend to (tCons ta tNil)) (dApp dO da) :=
  ⟨pe_bm PySem.F.plainAttrs_list PySem.F.slot_list_append PySem.F.type_list_append mt_append ho.pe (pa_cons ha.pe pa_nil hs) hbase hfew hline hs hplain, fun E M k σ I F H Q hd er rp kk =>
    ho.sim E M _ σ I F H _ hd er rp fun x M1 v I1 H1 q rp1 s1 d1 => by
      cases x <;> first | exact q.elim | skip
      rename_i p
      obtain rfl := d1.ref_inv
      obtain ⟨⟨ds, hm⟩, q⟩ := q
      obtain ⟨_, xs, h1, h2, h3⟩ := rp1.mem p _ hm
      refine ⟨.inl ⟨rfl, xs, .inl (.inl h1)⟩, ha.sim E M1 _ σ I1 F H1 _ q (er.mono s1) rp1 fun y M2 u I2 H2 q2 rp2 s2 d2 => ?_⟩
      obtain ⟨es, hm2, hl, q2⟩ := q2
      obtain ⟨_, ys, g1, g2, g3⟩ := rp2.mem p _ hm2
      have hlt : ys.length < 1000000 := by rw [g3.len]; exact hl
      exact ⟨p, ys, u, rfl, rfl, g1, Nat.lt_of_lt_of_le hlt (by decide), kk .non _ .non I2 _ q2 (rp2.setL hm2 (by rw [List.length_append, List.length_singleton]; exact line_le (by omega)) (g3.append (.cons d2 .nil))) (s1.trans s2) .non⟩⟩
/-- o[i] = e, o a list that may change -/
def dSub (dO di : DE) : DG := fun d E M k => dO E M fun o M1 => di E M1 fun i M2 => match o, i with
  | .ref p, .int n => ∃ ds j, M2 p = some (.lst ds) ∧ ixN ds.length n = some j ∧ k E (mset M2 p (.lst (ds.set j d)))
  | _, _ => False
theorem qg_sub {o i : Expr} {to ti : TE} {dO di : DE} (ho : QE X o to dO) (hi : QE X i ti di)
    (ha : ∀ v, assign (.Subscript o i pos) X.env v = (do
      let ov ← holding [v] (eval o X.env)
      let iv ← holding [v, ov] (eval i X.env)
      standAt pos
      holding [v, ov, iv] (setItem ov iv v)
      release [v, ov, iv] []) := by intro _; rfl) : QG X (.Subscript o i pos) (gSub to ti rSetL) (dSub dO di) :=
  ⟨pg_sub ho.pe hi.pe set_list ha, fun d E M k v σ I F H Q hd r er rp kk => ho.sim E M _ σ I F H _ hd er rp fun x M1 u I1 H1 q rp1 s1 d1 => hi.sim E M1 _ σ I1 F H1 _ q (er.mono s1) rp1 fun y M2 z I2 H2 q2 rp2 s2 d2 => by
    cases x <;> cases y <;> first | exact q2.elim | skip
    rename_i p n
    obtain rfl := (d1.mono s2).ref_inv
    obtain rfl := d2.int_inv
    obtain ⟨ds, j, hm, hj, q2⟩ := q2
    obtain ⟨_, xs, h1, h2, h3⟩ := rp2.mem p _ hm
    exact ⟨p, xs, n, j, rfl, rfl, h1, by rw [h3.len]; exact hj, kk E _ σ I2 _ q2 ((er.mono s1).mono s2) (rp2.setL hm (by rw [List.length_set]; exact h2) (h3.set ((r.mono s1).mono s2) j)) (s1.trans s2)⟩⟩
end

/-! ### functions -/
abbrev DW := List D → Mem → DK → Prop
def spD (K : PySem.W.Frag) (n : Nat) (W : DW) : Sp := fun vs H Q _ => ∃ I F M ds k, Rep K I F M H ∧ DRs K I vs ds ∧ ds.length = n ∧ W ds M k ∧ ∀ d M' v I' H', k d M' → Rep K I' F M' H' → Same I I' → DR K I' v d → Q v H'
def estart (N : List Str) (ds : List D) : DEnv := ds.map some ++ List.replicate (N.length - ds.length) none
theorem nth_get : ∀ (E : DEnv) (i : Nat) (d : D), nth E i = some d → E[i]? = some (some d)
  | [], _, _, h => by cases h
  | o :: r, 0, d, h => by have h' : o = some d := h; subst h'; rfl
  | o :: r, i + 1, d, h => by have := nth_get r i d h; simpa using this
theorem er_start {K : PySem.W.Frag} {I : Hp} {N : List Str} {vs : List V} {ds : List D} (h : DRs K I vs ds) : ER K I (L2.start N vs) (estart N ds) := by
  refine ⟨by unfold L2.start estart; simp [h.len], fun i d e => ?_⟩
  have e2 := nth_get _ _ _ e
  unfold estart at e2
  unfold L2.start
  by_cases hi : i < ds.length
  · rw [List.getElem?_append_left (by simpa using hi), List.getElem?_map] at e2
    rw [List.getElem?_append_left (by simpa [h.len] using hi), List.getElem?_map]
    cases q : ds[i]? with
    | none => rw [q] at e2; cases e2
    | some x =>
      rw [q] at e2
      cases e2
      obtain ⟨v, hv, rv⟩ := h.get q
      exact ⟨v, by rw [hv]; rfl, rv⟩
  · rw [List.getElem?_append_right (by simpa using hi), List.getElem?_replicate] at e2
    split at e2 <;> cases e2
def froz : MO → D
  | .lst ds => .lst ds
  | .ins C fs => .ins C fs
/-- what a def hands back: if it made it and may change it, it is still from there on -/
def rtF (k : DK) : DK := fun d M => match d with
  | .ref p => (match M p with
    | some o => k (froz o) (mdel M p)
    | none => k d M)
  | _ => k d M
section
variable {P : Program} {w : World} {K : PySem.W.Frag} {mg : Str → Option Value} {base : Heap}
theorem fnD {x qual : Str} {st : Stmt} {f : Addr} {fd : FuncData} {N ps : List Str} {k : Nat} {W : DW} (Fn : Fun K x qual st f fd) (S : FnScope N ps (defScope st))
    (hb : ∀ (cdv : Value) (A : Around) (outer : List Env) (s : Shared) (H : Hp) (E : XK), Room k (A.deeper (envOfC qual (defScope st) s.heap.objs.size f cdv)) →
      ∃ ts ds, QSs (cxOf CX0 P w K mg base N qual (defScope st) f cdv A outer s H E).nox (defBody st) ts ds ∧ ∀ as M kk, as.length = ps.length → W as M kk → ds { nx := fun _ M => kk .non M, rt := kk } (estart N as) M) :
    FnOk P w K mg base CX0 (k + 1) f fd ps (spD K ps.length W) := by
  refine Fn.ok S (fun vs H Q E h => ?_) (fun cdv A outer s H vs Q E hr h => ?_)
  · obtain ⟨I, F, M, ds, kk, rp, r, hl, _⟩ := h
    rw [r.len, hl]
  · obtain ⟨I, F, M, as, kk, rp, r, hl, hw, hq⟩ := h
    obtain ⟨ts, ds, hS, hD⟩ := hb cdv A outer s H E hr
    refine ⟨ts, hS.pss, hS.sim _ _ M _ I F H _ (hD as M kk hl hw) (er_start r) rp ⟨?_, ?_, ?_, ?_⟩⟩
    · exact fun E' M' σ' I' H' a b c d => hq .non M' .non I' H' a c d .non
    · exact fun d M' v I' H' a b c e => hq d M' v I' H' a b c e
    · exact fun E' M' σ' I' H' a b c d => a.elim
    · exact fun E' M' σ' I' H' a b c d => a.elim
theorem fnDf {x qual : Str} {st : Stmt} {f : Addr} {fd : FuncData} {N ps : List Str} {k : Nat} {W : DW} (Fn : Fun K x qual st f fd) (S : FnScope N ps (defScope st))
    (hb : ∀ (cdv : Value) (A : Around) (outer : List Env) (s : Shared) (H : Hp) (E : XK), Room k (A.deeper (envOfC qual (defScope st) s.heap.objs.size f cdv)) →
      ∃ ts ds, QSs (cxOf CX0 P w K mg base N qual (defScope st) f cdv A outer s H E).nox (defBody st) ts ds ∧ ∀ as M kk, as.length = ps.length → W as M kk → ds { nx := fun _ M => kk .non M, rt := rtF kk } (estart N as) M) :
    FnOk P w K mg base CX0 (k + 1) f fd ps (spD K ps.length W) := by
  refine Fn.ok S (fun vs H Q E h => ?_) (fun cdv A outer s H vs Q E hr h => ?_)
  · obtain ⟨I, F, M, ds, kk, rp, r, hl, _⟩ := h
    rw [r.len, hl]
  · obtain ⟨I, F, M, as, kk, rp, r, hl, hw, hq⟩ := h
    obtain ⟨ts, ds, hS, hD⟩ := hb cdv A outer s H E hr
    refine ⟨ts, hS.pss, hS.sim _ _ M _ I F H _ (hD as M kk hl hw) (er_start r) rp ⟨?_, ?_, ?_, ?_⟩⟩
    · exact fun E' M' σ' I' H' a b c d => hq .non M' .non I' H' a c d .non
    · intro d M' v I' H' a b c e
      have a : rtF kk d M' := a
      unfold rtF at a
      split at a
      · rename_i p
        split at a
        · rename_i o ho
          obtain rfl := e.ref_inv
          cases o with
          | lst es =>
            obtain ⟨I2, rp2, s2, r2⟩ := b.frzL ho
            exact hq _ _ _ I2 H' a rp2 (c.trans s2) r2
          | ins C fs =>
            obtain ⟨I2, rp2, s2, r2⟩ := b.frzO ho
            exact hq _ _ _ I2 H' a rp2 (c.trans s2) r2
        · exact hq _ M' v I' H' a b c e
      · exact hq _ M' v I' H' a b c e
    · exact fun E' M' σ' I' H' a b c d => a.elim
    · exact fun E' M' σ' I' H' a b c d => a.elim
end
def dCall (W : DW) (dds : List D) (da : DA) : DE := fun E M k => da E M fun ds M1 => W (ds ++ dds) M1 k
section
variable {X : Cx} {K : PySem.W.Frag} {e : Expr} {es : List Expr} {tA : TA} {dA : DA} {pos p : Pos} {CX : CXT} {k : Nat} {f C : Addr} {fd : FuncData} {ps : List Str} {W : DW} {x : Str} {E : XK} {dvs : List V} {ds0 : List Value} {dds : List D}
theorem se_call {n m : Nat} (ha : SA K m tA dA) (hn : m + dds.length = n) (hd : ∀ I, DRs K I dvs dds) : SE K (tCall (spD K n W) dvs E tA) (dCall W dds dA) := fun Ev M kk σ I F H Q hd' er rp kq =>
  ha Ev M _ σ I F H _ hd' er rp fun ds M1 vs I1 H1 hl q rp1 s1 d1 =>
    ⟨I1, F, M1, ds ++ dds, kk, rp1, d1.append (hd I1), by rw [List.length_append, hl]; exact hn, q, fun d M' v I' H' a b c e => kq d M' v I' H' a b (s1.trans c) e⟩
theorem qe_call (Fk : FnOk X.prog X.w X.K X.mg X.base CX k f fd ps (spD X.K ps.length W)) (hr : Room k X.A) (hg : Gl X x) (hm : X.mg x = some (.ref f)) (hk : PySem.W.keepIn X.K (.ref f) = true) (hb : Binds X.K fd ps ds0) (hd : Vals dvs ds0) (hx : Passes CX X E)
    (hdd : ∀ K I, DRs K I dvs dds) (ha : QA X (e :: es) tA dA) (hn : (e :: es).length + dds.length = ps.length := by rfl) (hdb : (x == ("__debug__" : Str)) = false := by decide) (he : starEach (e :: es) X.env = (false, eval e X.env) :: starEach es X.env := by rfl) (hpl : (backTo pos (starEach es X.env)).any (·.1) = false := by rfl) :
    QE X (.Call (.Name x p) (e :: es) [] pos) (tCall (spD X.K ps.length W) dvs E tA) (dCall W dds dA) :=
  ⟨pe_call Fk hr hg hm hk hb hd hx ha.pa hdb he hpl, se_call ha.sim hn (hdd _)⟩
theorem qe_call0 (Fk : FnOk X.prog X.w X.K X.mg X.base CX k f fd ps (spD X.K ps.length W)) (hr : Room k X.A) (hg : Gl X x) (hm : X.mg x = some (.ref f)) (hk : PySem.W.keepIn X.K (.ref f) = true) (hb : Binds X.K fd ps ds0) (hd : Vals dvs ds0) (hx : Passes CX X E)
    (hdd : ∀ K I, DRs K I dvs dds) (hn : dds.length = ps.length := by rfl) (hdb : (x == ("__debug__" : Str)) = false := by decide) :
    QE X (.Call (.Name x p) [] [] pos) (tCall (spD X.K ps.length W) dvs E tNil) (dCall W dds dNil) :=
  ⟨pe_call0 Fk hr hg hm hk hb hd hx hdb, se_call qa_nil.sim (by rw [List.length_nil, Nat.zero_add]; exact hn) (hdd _)⟩
/-- keywords -/
structure QK (X : Cx) (kws : List Keyword) (ta : TA) (da : DA) : Prop where
  pk : PK X kws ta
  sim : SA X.K kws.length ta da
theorem qk_nil : QK X [] tNil dNil := ⟨pk_nil, qa_nil.sim⟩
theorem qk_cons {nm : Option Str} {kpos : Pos} {kws : List Keyword} {te : TE} {de : DE} {tk : TA} {dk : DA} (h : QE X e te de) (g : QK X kws tk dk) : QK X (⟨nm, e, kpos⟩ :: kws) (tCons te tk) (dCons de dk) :=
  ⟨pk_cons h.pe g.pk, fun E M k σ I F H Q hd er rp kk => h.sim E M _ σ I F H _ hd er rp fun d M1 v I1 H1 q rp1 s1 d1 =>
    g.sim E M1 _ σ I1 F H1 _ q (er.mono s1) rp1 fun ds M2 vs I2 H2 hl q2 rp2 s2 d2 => kk (d :: ds) M2 (v :: vs) I2 H2 (by rw [List.length_cons, List.length_cons, hl]) q2 rp2 (s1.trans s2) (.cons (d1.mono s2) d2)⟩
end
end Qd
namespace Qd
open PySem PySem.Spec PyProof.Rows L2

/-! ### defs that ask for repr: promised where no repr is under way -/
structure FnG (P : Program) (w : World) (K : PySem.W.Frag) (mg : Str → Option Value) (base : Heap) (k : Nat) (f : Addr) (fd : FuncData) (n : Nat) (ps : List Str) (W : DW) : Prop where
  np : ps.length = n
  go : ∀ (A : Around) (outer : List Env) (s : Shared) (H : Hp) (args : Args) (us : List Value) (vs : List V) (Q : VK) (E : XK), A.guards = some [] → Room k A → Env0 P w K mg base A outer s H →
    BindsTo s fd args (ps.zip us) → Vals vs us → spD K n W vs H Q E → codeAny (model P w) A (.call (.ref f) args) (CR CX0 outer P w H s Q E) s
theorem spD_len {K : PySem.W.Frag} {n : Nat} {W : DW} {vs : List V} {H : Hp} {Q : VK} {E : XK} (h : spD K n W vs H Q E) : vs.length = n := by
  obtain ⟨I, F, M, ds, kk, rp, r, hl, _⟩ := h
  rw [r.len, hl]
section
variable {P : Program} {w : World} {K : PySem.W.Frag} {mg : Str → Option Value} {base : Heap}
theorem FnG.mono {j k : Nat} {f : Addr} {fd : FuncData} {n : Nat} {ps : List Str} {W : DW} (h : FnG P w K mg base j f fd n ps W) (hk : j ≤ k) : FnG P w K mg base k f fd n ps W :=
  ⟨h.np, fun A outer s H args us vs Q E hg hr => h.go A outer s H args us vs Q E hg (hr.mono hk)⟩
theorem FnG.of {k : Nat} {f : Addr} {fd : FuncData} {ps : List Str} {W : DW} (h : FnOk P w K mg base CX0 k f fd ps (spD K ps.length W)) : FnG P w K mg base k f fd ps.length ps W :=
  ⟨rfl, fun A outer s H args us vs Q E _ hr => h.run A outer s H args us vs Q E hr⟩
theorem runG {x qual : Str} {st : Stmt} {f : Addr} {fd : FuncData} {N ps : List Str} {k : Nat} {W : DW} (Fn : Fun K x qual st f fd) (S : FnScope N ps (defScope st))
    (hb : ∀ (cdv : Value) (A : Around) (outer : List Env) (s : Shared) (H : Hp) (vs : List V) (Q : VK) (E : XK), A.guards = some [] → Room k (A.deeper (envOfC qual (defScope st) s.heap.objs.size f cdv)) → spD K ps.length W vs H Q E →
      ∃ t, PSs (cxOf CX0 P w K mg base N qual (defScope st) f cdv A outer s H E) (defBody st) t ∧ t { nx := fun _ H' => Q .non H', rt := Q } (L2.start N vs) H) :
    FnG P w K mg base (k + 1) f fd ps.length ps W := by
  obtain ⟨oc, od, kV, doc, pm, an, cdv, ct, osl, rfl, lk, hcd⟩ := Fn.ex
  refine ⟨rfl, fun A outer s H args us vs Q E gd room env bt rel hsp => ?_⟩
  have len := spD_len hsp
  have inK : K.In s.heap := env.mod.kin.keeps (fun b o q => (env.bs b o q).1)
  have nolim : s.heap.NoLimit := env.mod.nolimit.keeps (fun b o q => (env.bs b o q).1)
  have kinds : ∀ y ∈ ps.zip us, (defScope st).names.lookup y.1 = some .local ∨ ((defScope st).names.lookup y.1 = some .cell ∧ ((cellsFrom (s.heap.objs.size + 1) (defScope st).names []).lookup y.1).isSome = true) := by
    rintro ⟨n, v⟩ hy
    exact (S.par n (List.of_mem_zip hy).1).elim .inl fun q => .inr ⟨q, PySem.W.cellsFrom_some _ _ _ (.inl q)⟩
  refine codeAny_call_function room.depth (inK _ _ lk) rfl S.co S.gen rfl (PySem.W.codeRec_of inK hcd) (bt _ _ _ _ ?_)
  refine wpAny_newFunctionEnv_cells S.kind kinds fun e1 e2 s1 ic => ?_
  subst e2
  refine ⟨nolim.keeps ic.toInCall.keep, codeAny_func ?_⟩
  obtain ⟨t, body, reading⟩ := hb cdv A outer s H vs Q E gd (room.deeper _) hsp
  have inv := inv_start (CX := CX0) (P := P) (w := w) (E := E) S room.hd env len rel ic
  refine wpAny_mono (body.run [] s1 (L2.start N vs) H _ inv reading) (fun fl s2 z => ?_) (fun e s2 z => z)
  cases fl with
  | next =>
    obtain ⟨σ2, H2, J, q⟩ := z
    exact ⟨V.non, H2, J.os, J.bare, J.base, J.hok, rfl, q⟩
  | ret u =>
    obtain ⟨v, σ2, H2, J, rv, q⟩ := z
    exact ⟨v, H2, J.os, J.bare, J.base, J.hok, rv, q⟩
  | brk =>
    obtain ⟨_, _, _, q⟩ := z
    exact q.elim
  | cont =>
    obtain ⟨_, _, _, q⟩ := z
    exact q.elim
theorem fnG {x qual : Str} {st : Stmt} {f : Addr} {fd : FuncData} {N ps : List Str} {k : Nat} {W : DW} (Fn : Fun K x qual st f fd) (S : FnScope N ps (defScope st))
    (hb : ∀ (cdv : Value) (A : Around) (outer : List Env) (s : Shared) (H : Hp) (E : XK), A.guards = some [] → Room k (A.deeper (envOfC qual (defScope st) s.heap.objs.size f cdv)) →
      ∃ ts ds, QSs (cxOf CX0 P w K mg base N qual (defScope st) f cdv A outer s H E).nox (defBody st) ts ds ∧ ∀ as M kk, as.length = ps.length → W as M kk → ds { nx := fun _ M => kk .non M, rt := kk } (estart N as) M) :
    FnG P w K mg base (k + 1) f fd ps.length ps W := by
  refine runG Fn S fun cdv A outer s H vs Q E gd hr h => ?_
  obtain ⟨I, F, M, as, kk, rp, r, hl, hw, hq⟩ := h
  obtain ⟨ts, ds, hS, hD⟩ := hb cdv A outer s H E gd hr
  refine ⟨ts, hS.pss.nox, hS.sim _ _ M _ I F H _ (hD as M kk hl hw) (er_start r) rp ⟨?_, ?_, ?_, ?_⟩⟩
  · exact fun E' M' σ' I' H' a b c d => hq .non M' .non I' H' a c d .non
  · exact fun d M' v I' H' a b c e => hq d M' v I' H' a b c e
  · exact fun E' M' σ' I' H' a b c d => a.elim
  · exact fun E' M' σ' I' H' a b c d => a.elim
end
section
variable {X : Cx} {e : Expr} {es : List Expr} {tA : TA} {dA : DA} {pos p : Pos} {k : Nat} {f : Addr} {fd : FuncData} {n : Nat} {ps : List Str} {W : DW} {x : Str} {ds0 : List Value} {dvs : List V} {dds : List D}
theorem qe_callG (hq : X.A.guards = some []) (Fk : FnG X.prog X.w X.K X.mg X.base k f fd n ps W) (hr : Room k X.A) (hg : Gl X x) (hm : X.mg x = some (.ref f)) (hk : PySem.W.keepIn X.K (.ref f) = true) (hb : Binds X.K fd ps ds0) (hd : Vals dvs ds0)
    (hdd : ∀ K I, DRs K I dvs dds) (ha : QA X (e :: es) tA dA) (hn : (e :: es).length + dds.length = n := by rfl) (hdb : (x == ("__debug__" : Str)) = false := by decide) (he : starEach (e :: es) X.env = (false, eval e X.env) :: starEach es X.env := by rfl) (hpl : (backTo pos (starEach es X.env)).any (·.1) = false := by rfl) :
    QE X (.Call (.Name x p) (e :: es) [] pos) (tCall (spD X.K n W) dvs E0 tA) (dCall W dds dA) := by
  refine ⟨⟨fun pins s σ H Q I h => ?_⟩, se_call ha.sim hn (hdd _)⟩
  refine wpAny_Call_Name_kw (ld_glob I hg hm ?_ hdb)
  refine PySem.W.callWith_K (h₀ := X.base) I.ok.mod.kin hk (thn (ha.pa.run pos pins s σ H _ I h) fun us s1 ⟨vs, H1, I1, r, q⟩ => ⟨I1.kIn, ?_⟩) he hpl
  have rr : Vals (vs ++ dvs) (us ++ ds0) := r.append hd
  have hl : (us ++ ds0).length = ps.length := by rw [← rr.length, spD_len q, Fk.np]
  refine wpAny_call (codeAny_mono (Fk.go X.A X.stack s1 H1 ⟨us, []⟩ (us ++ ds0) (vs ++ dvs) Q E0 hq hr I1.env0 (hb s1 us I1.kIn hl) rr q) fun z s2 hz => ?_)
  cases z with
  | error _ => exact hz.elim
  | ok fl =>
    cases fl with
    | next => exact hz.elim
    | brk => exact hz.elim
    | cont => exact hz.elim
    | ret u => exact I1.after hz
theorem qe_callG0 (hq : X.A.guards = some []) (Fk : FnG X.prog X.w X.K X.mg X.base k f fd n ps W) (hr : Room k X.A) (hg : Gl X x) (hm : X.mg x = some (.ref f)) (hk : PySem.W.keepIn X.K (.ref f) = true) (hb : Binds X.K fd ps ds0) (hd : Vals dvs ds0)
    (hdd : ∀ K I, DRs K I dvs dds) (hn : dds.length = n := by rfl) (hdb : (x == ("__debug__" : Str)) = false := by decide) :
    QE X (.Call (.Name x p) [] [] pos) (tCall (spD X.K n W) dvs E0 tNil) (dCall W dds dNil) := by
  refine ⟨⟨fun pins s σ H Q I h => ?_⟩, se_call qa_nil.sim (by rw [List.length_nil, Nat.zero_add]; exact hn) (hdd _)⟩
  refine wpAny_Call_Name_kw (ld_glob I hg hm ?_ hdb)
  have q : spD X.K n W ([] ++ dvs) H Q E0 := h
  have hl : ([] ++ ds0).length = ps.length := by rw [List.nil_append, ← hd.length, Fk.np, ← spD_len q, List.nil_append]
  refine PySem.W.callWith_K0 I.kIn hk (wpAny_call (codeAny_mono (Fk.go X.A X.stack s H ⟨[], []⟩ ([] ++ ds0) ([] ++ dvs) Q E0 hq hr I.env0 (hb s [] I.kIn hl) hd q) fun z s2 hz => ?_))
  cases z with
  | error _ => exact hz.elim
  | ok fl =>
    cases fl with
    | next => exact hz.elim
    | brk => exact hz.elim
    | cont => exact hz.elim
    | ret u => exact I.after hz
end

/-! ### calls by keywords alone -/
def pick {α : Type} (perm : List Nat) (l : List α) : List α := perm.filterMap (l[·]?)
theorem pick_vals {vs : List V} {us : List Value} (r : Vals vs us) : ∀ perm : List Nat, Vals (pick perm vs) (pick perm us)
  | [] => .nil
  | i :: p => by
    have ih := pick_vals r p
    unfold pick at ih ⊢
    rw [List.filterMap_cons, List.filterMap_cons]
    cases e : vs[i]? with
    | none => rw [r.none_of e]; exact ih
    | some x =>
      obtain ⟨u, hu, ru⟩ := r.get e
      rw [hu]
      exact .cons ru ih
theorem pick_drs {K : PySem.W.Frag} {I : Hp} {vs : List V} {ds : List D} (r : DRs K I vs ds) : ∀ perm : List Nat, DRs K I (pick perm vs) (pick perm ds)
  | [] => .nil
  | i :: p => by
    have ih := pick_drs r p
    unfold pick at ih ⊢
    rw [List.filterMap_cons, List.filterMap_cons]
    cases e : vs[i]? with
    | none =>
      have h : ds[i]? = none := by
        rw [List.getElem?_eq_none_iff] at e ⊢
        rw [← r.len]; exact e
      rw [h]; exact ih
    | some x =>
      obtain ⟨d, hd, rd⟩ := r.getV e
      rw [hd]
      exact .cons rd ih
def tCallP (sp : Sp) (perm : List Nat) (n : Nat) (E : XK) (t : TA) : TE := fun σ H Q => t σ H fun vs H1 => vs.length = n ∧ sp (pick perm vs) H1 Q E
def dCallP (W : DW) (perm : List Nat) (da : DA) : DE := fun E M k => da E M fun ds M1 => W (pick perm ds) M1 k
section
variable {X : Cx} {pos p : Pos} {k : Nat} {f : Addr} {fd : FuncData} {ps ks : List Str} {W : DW} {x : Str} {kws : List Keyword} {tk : TA} {dk : DA} {perm : List Nat}
theorem qe_callP (Fk : FnOk X.prog X.w X.K X.mg X.base CX0 k f fd ps (spD X.K ps.length W)) (hr : Room k X.A) (hg : Gl X x) (hm : X.mg x = some (.ref f)) (hk : PySem.W.keepIn X.K (.ref f) = true)
    (hb : ∀ (s : Shared) (us : List Value), us.length = ks.length → BindsTo s fd ⟨[], ks.zip us⟩ (ps.zip (pick perm us))) (hp : ∀ (ds : List D), ds.length = kws.length → (pick perm ds).length = ps.length) (h : QK X kws tk dk) (hkl : ks.length = kws.length := by rfl)
    (hall : (backToKw pos (keywordEach kws X.env)).all (·.1.isSome) = true := by rfl) (hks : (backToKw pos (keywordEach kws X.env)).filterMap (·.1) = ks := by rfl) (hdb : (x == ("__debug__" : Str)) = false := by decide)
    (hpl : ((backTo pos (starEach [] X.env)).any (·.1) || (backToKw pos (keywordEach kws X.env)).any (·.1.isNone)) = false := by rfl) :
    QE X (.Call (.Name x p) [] kws pos) (tCallP (spD X.K ps.length W) perm kws.length E0 tk) (dCallP W perm dk) := by
  refine ⟨⟨fun pins s σ H Q I hw => ?_⟩, fun Ev M kk σ I F H Q hd er rp kq => ?_⟩
  · refine wpAny_Call_Name_kw (ld_glob I hg hm ?_ hdb)
    refine PySem.W.callWith_KW0 (h₀ := X.base) I.ok.mod.kin hk hall (thn (h.pk.run pos pins s σ H _ I hw) fun us s1 ⟨vs, H1, I1, r, hl, q⟩ => ⟨I1.kIn, ?_⟩) hpl
    rw [hks]
    have ul : us.length = ks.length := by rw [← r.length, hl, hkl]
    refine wpAny_call (codeAny_mono (Fk.run X.A X.stack s1 H1 ⟨[], ks.zip us⟩ (pick perm us) (pick perm vs) Q E0 hr I1.env0 (hb s1 us ul) (pick_vals r perm) q) fun z s2 hz => ?_)
    cases z with
    | error _ => exact hz.elim
    | ok fl =>
      cases fl with
      | next => exact hz.elim
      | brk => exact hz.elim
      | cont => exact hz.elim
      | ret u => exact I1.after hz
  · refine h.sim Ev M _ σ I F H _ hd er rp fun ds M1 vs I1 H1 hl q rp1 s1 d1 => ⟨by rw [d1.len, hl], I1, F, M1, pick perm ds, kk, rp1, pick_drs d1 perm, hp ds hl, q, fun d M' v I' H' a b c e => kq d M' v I' H' a b (s1.trans c) e⟩
end

/-! ### the law itself -/
/-- at its start the law sees the script alone -/
theorem law_start {P : Program} {w : World} {K : PySem.W.Frag} {mg mb : Str → Option Value} {k : Nat} {fa a : Addr} {fd : FuncData} {x : Str} {W : DW} {s₁ : Shared} {vs : List Value} {ns : List Int}
    (KX : K.In s₁.heap) (hns : s₁.heap.Ns mainGlobals mg) (hb : s₁.heap.Ns builtinsNs mb) (hbb : ∀ x : Str, x ≠ "__name__" → mb x = bootBuiltins x) (hlim : s₁.heap.NoLimit) (hg : s₁.gens = #[])
    (ha : s₁.heap.get? a = some { cls := .type "list", data := .seq vs.toArray }) (hi : IntsAre vs ns) (hl : ns.length ≤ 63) (hr : Room k callerA)
    (Fw : ∀ base : Heap, K.In base → base.Ns mainGlobals mg → FnG P w K mg base k fa fd 1 [x] W) (hbind : ∀ (s : Shared) (u : Value), BindsTo s fd ⟨[u], []⟩ [(x, u)])
    (hW : ∀ kk : DK, (∀ M, kk (.bl true) M) → W [.scr ns] (fun _ => none) kk) :
    codeAny (model P w) callerA (.call (.ref fa) ⟨[.ref a], []⟩) (fun r s' => r = .ok (.ret (.bool true)) ∧ OldK s₁.heap s'.heap ∧ s'.os = s₁.os ∧ AllBare s'.gens) s₁ := by
  have rv := vals_ints hi
  have lv := hi.length
  have fin : ∀ G : Hp, (∀ b, G b = none ∨ (b = a ∧ K.lookup a = none ∧ G b = some (.frz { cls := .type "list", data := .seq vs.toArray } (.lst (ns.map V.int))))) → SqL K G a (ns.map V.int) → HOk P w G s₁.heap →
      codeAny (model P w) callerA (.call (.ref fa) ⟨[.ref a], []⟩) (fun r s' => r = .ok (.ret (.bool true)) ∧ OldK s₁.heap s'.heap ∧ s'.os = s₁.os ∧ AllBare s'.gens) s₁ := by
    intro G hG hS ok
    have dictFree : ∀ {b : Addr} {o : Obj} {es : Array DictEntry} {ep : Nat}, s₁.heap.get? b = some o → o.data = .dict es ep → G b = none := by
      intro b o es ep e d
      rcases hG b with z | ⟨z, _, _⟩
      · exact z
      · subst z
        rw [ha] at e
        cases e
        exact absurd d (fun z => by cases z)
    have nsG : ∀ {b : Addr} {m : Str → Option Value}, s₁.heap.Ns b m → (hidT s₁.heap G).Ns b m := by
      rintro b m ⟨o, es, ep, e, d, r⟩
      exact ⟨o, es, ep, hidT_get e (dictFree e d), d, r⟩
    have kG : K.In (hidT s₁.heap G) := by
      intro b o e
      refine hidT_get (KX b o e) ?_
      rcases hG b with z | ⟨z, zk, _⟩
      · exact z
      · subst z
        rw [zk] at e
        cases e
    have modG : Mod K mg (hidT s₁.heap G) := ⟨kG, nsG hns, ⟨mb, nsG hb, hbb⟩, let ⟨mc, h1, h2⟩ := hlim; ⟨mc, nsG h1, h2⟩⟩
    have env : Env0 P w K mg (hidT s₁.heap G) callerA [] s₁ G :=
      ⟨rfl, modG, fun b o e => of_hidT e, Nat.le_of_eq (hidT_size _ _), trivial, fun b hb => absurd (show b ∈ ([] : List Addr) from hb) (by simp), ok, .of_eq hg⟩
    have start1 : spD K 1 W [.ref a] G (fun v _ => v = .bl true) E0 := by
      refine ⟨G, fun _ => none, fun _ => none, [.scr ns], fun d _ => d = .bl true, ⟨Same.refl G, fun b o e => (by cases e), fun b o e => (by cases e), fun b o e => (by cases e)⟩, .cons (.scr hS hl) .nil, rfl, hW _ fun M => rfl, ?_⟩
      intro d M' v I' H' e _ _ r
      subst e
      exact r.bl_inv
    refine codeAny_mono ((Fw _ kG (nsG hns)).go callerA [] s₁ G ⟨[.ref a], []⟩ [.ref a] [.ref a] _ _ rfl hr env (hbind s₁ (.ref a)) (.cons rfl .nil) start1) fun r s' h => ?_
    cases r with
    | error e => exact h.elim
    | ok fl =>
      cases fl with
      | next => exact h.elim
      | brk => exact h.elim
      | cont => exact h.elim
      | ret u =>
        obtain ⟨v, H', os, bare, un, hok', r', q⟩ := h
        have q' : v = .bl true := q
        subst q'
        obtain rfl : u = Value.bool true := r'
        refine ⟨rfl, OldK.of_keep fun b o e => ?_, os, bare⟩
        rcases hG b with z | ⟨_, _, z⟩
        · exact un.keep b o e z (fun y => absurd (show b ∈ ([] : List Addr) from y) (by simp)) (by simp)
        · obtain ⟨e1, _⟩ := ok b _ z
          obtain ⟨e2, _⟩ := hok' b _ (un.frzs b _ _ z)
          rw [e] at e1
          cases e1
          exact e2
  cases hk : K.lookup a with
  | some o =>
    have e := KX a o hk
    rw [ha] at e
    cases e
    exact fin (fun _ => none) (fun _ => .inl rfl) (.inr ⟨_, vs.toArray, _, hk, rfl, rfl, rfl, by rw [List.size_toArray, lv]; exact Nat.le_trans hl (by decide), by simpa using rv⟩) (fun b u z => by cases z)
  | none =>
    refine fin (fun b => if b = a then some (.frz { cls := .type "list", data := .seq vs.toArray } (.lst (ns.map V.int))) else none) (fun b => ?_) (.inl (.inr ⟨_, if_pos rfl⟩)) (fun b u z => ?_)
    · by_cases h : b = a
      · exact .inr ⟨h, hk, if_pos h⟩
      · exact .inl (if_neg h)
    · by_cases h : b = a
      · have z' := (if_pos h).symm.trans z
        cases z'
        subst h
        exact ⟨ha, by rw [List.length_map]; exact Nat.le_trans hl (by decide), vs, _, rv, ha⟩
      · have z' := (if_neg h).symm.trans z
        cases z'
/-- the goal that k_head leaves -/
theorem law_walk {l : PySem.W.OpenLaw} {k : Nat} {q : Program} {loose : List Str} {XP : (Str → Option Value) → Heap → Prop} {YP : World → Heap → Prop} {d : DefRec} {K : Params → PySem.W.Frag} {W : DW} {x : Str}
    (hn : l.most = some 63) (hdf : d.params.defaults = []) (hr : Room k callerA) (hY : ∀ (w : World) (h : Heap), YP w h → (K w.params).In h)
    (hF : ∀ (w : World) (mg : Str → Option Value) (fa : Addr) (h : Heap), (K w.params).In h → h.Ns mainGlobals mg → mg d.name = some (.ref fa) →
      ∃ fd : FuncData, (∀ (s : Shared) (u : Value), BindsTo s fd ⟨[u], []⟩ [(x, u)]) ∧ ∀ base : Heap, (K w.params).In base → base.Ns mainGlobals mg → FnG l.prog w (K w.params) mg base k fa fd 1 [x] W)
    (hW : ∀ (ns : List Int) (kk : DK), ns.length ≤ 63 → (∀ M, kk (.bl true) M) → W [.scr ns] (fun _ => none) kk) :
    PySem.W.WalkO q loose XP YP l.row.toRowW d [] (fun f vs => PySem.call f vs) := by
  refine Att.attach_call hn hdf fun w s₀ s₁ mg mb fa o pm cd doc a vs ns G Y ho hd hcd hmg hobj hints hlen hg => ?_
  have KX := hY w _ Y
  obtain ⟨fd, hb, hf⟩ := hF w mg fa _ KX G.T.g hmg
  exact law_start KX G.T.g G.T.b G.T.builtins G.T.nolimit hg hobj hints hlen hr hf hb fun kk hk => hW ns kk hlen hk
end Qd
namespace Qd
open PySem PySem.Spec PyProof.Rows L2

/-! ### names of the built-ins -/
theorem bo_len : bootBuiltins "len" = some (.builtin "len") := PySem.boot_len
theorem bo_abs : bootBuiltins "abs" = some (.builtin "abs") := by decide +kernel
theorem bo_isinstance : bootBuiltins "isinstance" = some (.builtin "isinstance") := by decide +kernel
theorem bo_all : bootBuiltins "all" = some (.builtin "all") := by decide +kernel
theorem bo_any : bootBuiltins "any" = some (.builtin "any") := by decide +kernel
theorem bo_sum : bootBuiltins "sum" = some (.builtin "sum") := by decide +kernel
theorem bo_max : bootBuiltins "max" = some (.builtin "max") := by decide +kernel
theorem bo_min : bootBuiltins "min" = some (.builtin "min") := by decide +kernel
theorem bo_repr : bootBuiltins "repr" = some (.builtin "repr") := by decide +kernel
theorem bo_tuple : bootBuiltins "tuple" = some (.type "tuple") := by decide +kernel
theorem bo_list : bootBuiltins "list" = some (.type "list") := by decide +kernel
theorem bo_str : bootBuiltins "str" = some (.type "str") := by decide +kernel
theorem bo_int : bootBuiltins "int" = some (.type "int") := by decide +kernel
theorem bo_bool : bootBuiltins "bool" = some (.type "bool") := by decide +kernel

/-! ### constants of the module -/
section
variable {X : Cx} {x : Str} {pos : Pos}
theorem qgi {n : Int} (hm : ∃ t, X.mg x = some (.int n t)) (hg : Gl X x := by rfl) (hdb : (x == ("__debug__" : Str)) = false := by decide) : QE X (.Name x pos) (tC (.int n)) (dC (.int n)) := by
  obtain ⟨t, h⟩ := hm
  exact qg hg h ⟨t, rfl⟩ (fun _ _ => .int _) hdb
theorem qgs {z : Str} (hm : ∃ t, X.mg x = some (.str z t)) (hg : Gl X x := by rfl) (hz : z.length ≤ 1000000 := by decide +kernel) (hdb : (x == ("__debug__" : Str)) = false := by decide) : QE X (.Name x pos) (tC (.str z)) (dC (.str z)) := by
  obtain ⟨t, h⟩ := hm
  exact qg hg h ⟨t, rfl⟩ (fun _ _ => .str _ (line_le hz)) hdb
end

/-! ### defs that may be called -/
structure Cal (P : Program) (w : World) (K : PySem.W.Frag) (mg : Str → Option Value) (base : Heap) (k : Nat) (x : Str) (ps : List Str) (W : DW) where
  f : Addr
  fd : FuncData
  ok : FnOk P w K mg base CX0 k f fd ps (spD K ps.length W)
  mg : mg x = some (.ref f)
  kp : PySem.W.keepIn K (.ref f) = true
  bd : Binds K fd ps []
structure CalG (P : Program) (w : World) (K : PySem.W.Frag) (mg : Str → Option Value) (base : Heap) (k : Nat) (x : Str) (ps : List Str) (W : DW) where
  f : Addr
  fd : FuncData
  ok : FnG P w K mg base k f fd ps.length ps W
  mg : mg x = some (.ref f)
  kp : PySem.W.keepIn K (.ref f) = true
  bd : Binds K fd ps []
/-- by keywords alone -/
def KwB (fd : FuncData) (ps ks : List Str) (perm : List Nat) : Prop := ∀ (s : Shared) (us : List Value), us.length = ks.length → BindsTo s fd ⟨[], ks.zip us⟩ (ps.zip (pick perm us))

/-! ### steps -/
theorem mtrue {p : Prop} [Decidable p] (h : p) : decide p = true := decide_eq_true h
theorem mfalse {p : Prop} [Decidable p] (h : ¬p) : decide p = false := decide_eq_false h
end Qd
namespace Qd
open PySem PySem.Spec PyProof.Rows L2

/-! ### texts of signs -/
abbrev SIG : Str := "0123456789abcdefghijklmnopqrstuvwxyz"
def sgl : List Nat := [48, 49, 50, 51, 52, 53, 54, 55, 56, 57, 97, 98, 99, 100, 101, 102, 103, 104, 105, 106, 107, 108, 109, 110, 111, 112, 113, 114, 115, 116, 117, 118, 119, 120, 121, 122]
theorem sg_tl : SIG.cps.toList = sgl := by decide +kernel
def sgc (d : Nat) : Nat := sgl.getD d 63
def chO : Option Nat → Nat
  | none => 63
  | some d => sgc d
def sgS (o : Option Nat) : Str := ⟨#[chO o]⟩
def oD : Option Nat → D
  | none => .non
  | some d => .int (d : Nat)
/-- the text of digits, some of them open -/
def page (os : List (Option Nat)) : Str := ⟨(os.map chO).toArray⟩
theorem sg_at {d : Nat} (h : d < 36) : atI SIG.cps.toList (d : Int) = some (sgc d) := by
  rw [sg_tl]
  refine atI_nat ?_
  unfold sgc
  rw [List.getD_eq_getElem?_getD, List.getElem?_eq_getElem (show d < sgl.length from h)]
  rfl
theorem sg_in : ∀ b ≤ 36, ∀ d < b, inStr (sgS (some d)) (cutS SIG none (some ((b : Nat) : Int))) = true := by decide +kernel
theorem sg_index : ∀ d < 36, Txt.index0 SIG (sgS (some d)) = some d := by decide +kernel
theorem sg_q : ∀ d < 36, sgS (some d) ≠ ("?" : Str) := by decide +kernel
theorem sg_open : sgS none = ("?" : Str) := by decide +kernel
theorem joinL_nil : ∀ ps : List (List Nat), TL.joinL [] ps = ps.flatten
  | [] => rfl
  | [p] => by show p = _; rw [List.flatten_cons, List.flatten_nil, List.append_nil]
  | p :: q :: r => by
    show p ++ ([] ++ TL.joinL [] (q :: r)) = _
    rw [List.nil_append, joinL_nil (q :: r), List.flatten_cons (l := p)]
theorem tl_sgS (o : Option Nat) : TL.tl (sgS o) = [chO o] := rfl
theorem join_page (os : List (Option Nat)) : Txt.join ("" : Str) (os.map sgS) = page os := by
  refine TL.ext_tl ?_
  rw [TL.join_eq, TL.tl_join, show TL.tl ("" : Str) = [] by decide +kernel, joinL_nil, List.map_map]
  show _ = os.map chO
  rw [show TL.tl ∘ sgS = fun o => [chO o] from rfl]
  induction os with
  | nil => rfl
  | cons o r ih => rw [List.map_cons, List.flatten_cons, ih]; rfl
theorem page_tl (os : List (Option Nat)) : (page os).cps.toList = os.map chO := rfl
theorem page_len (os : List (Option Nat)) : (page os).length = os.length := by
  rw [TL.len_tl]; show (os.map chO).length = _; rw [List.length_map]
theorem page_signs (os : List (Option Nat)) : ((page os).cps.toList.map fun c => D.str ⟨#[c]⟩) = os.map fun o => D.str (sgS o) := by
  rw [page_tl, List.map_map]; rfl
theorem page_empty {os : List (Option Nat)} (h : 1 ≤ os.length) : page os ≠ ("" : Str) := by
  intro e
  have := page_len os
  rw [e] at this
  have z : ("" : Str).length = 0 := by decide +kernel
  omega
theorem page_join_len (os : List (Option Nat)) : ((os.map sgS).map (·.length)).sum = os.length := by
  induction os with
  | nil => rfl
  | cons o r ih => rw [List.map_cons, List.map_cons, List.sum_cons, ih]; show 1 + r.length = r.length + 1; omega

/-! ### readings of plain data -/
section
variable {M : Mem}
theorem vwn : vw M .non = .non := rfl
theorem vwb {b : Bool} : vw M (.bl b) = .bl b := rfl
theorem vwi {i : Int} : vw M (.int i) = .int i := rfl
theorem vws {z : Str} : vw M (.str z) = .str z := rfl
theorem vwl {ds : List D} : vw M (.lst ds) = .lst ds := rfl
theorem vwt {ds : List D} : vw M (.tup ds) = .tup ds := rfl
theorem vwsc {ns : List Int} : vw M (.scr ns) = .scr ns := rfl
theorem bIsi_of {x : D} {T t : String} {k : DK} (h : tyD (vw M x) = t) (ht : t ≠ "") (hT : T = "int" ∨ T = "bool" ∨ T = "str" ∨ T = "tuple" ∨ T = "list") (hk : k (.bl (isT t T)) M) : bIsi [x, .ty T] M k := by
  subst h
  exact ⟨⟨ht, hT⟩, hk⟩
end
/-! ### comprehensions and loops -/
theorem take_snoc {α : Type} {ys : List α} {i : Nat} {y : α} (h : ys[i]? = some y) : ys.take i ++ [y] = ys.take (i + 1) := by
  rw [List.take_add_one, h]; rfl
theorem dLc_read {di : DI} {g : DG} {te : DE} {vs : List Nat} {E : DEnv} {M : Mem} {k : DK} (ds ys : List D) (hi : ∀ R : List D → Mem → Prop, R ds M → di E M R) (hl : ys.length = ds.length)
    (hb : ∀ (i : Nat) (d y : D) (Q : DK), ds[i]? = some d → ys[i]? = some y → Q y M → g d (ewipe E vs) M fun E2 M2 => te E2 M2 Q) (hk : k (.lst ys) M) : dLc di g dYes te vs E M k := by
  refine hi _ ⟨fun i acc M' => acc = ys.take i ∧ M' = M, ⟨rfl, rfl⟩, ?_, ?_⟩
  · rintro i d acc M' hd ⟨rfl, rfl⟩
    have hi' : i < ys.length := by rw [hl]; exact (List.getElem?_eq_some_iff.mp hd).1
    exact hb i d ys[i] _ hd (List.getElem?_eq_getElem hi') ⟨take_snoc (List.getElem?_eq_getElem hi'), rfl⟩
  · rintro acc M' ⟨rfl, rfl⟩
    rw [← hl, List.take_length]
    exact hk
/-- the item of each place makes an item that keeps a rule; what may change keeps another -/
theorem dLc_inv {g : DG} {te : DE} {vs : List Nat} {E : DEnv} {M : Mem} {k : DK} {ds : List D} (J : Nat → Mem → Prop) (Y : D → Prop) (h0 : J 0 M)
    (hb : ∀ (i : Nat) (d : D) (M' : Mem) (Q : DK), ds[i]? = some d → J i M' → (∀ y M4, Y y → J (i + 1) M4 → Q y M4) → g d (ewipe E vs) M' fun E2 M2 => te E2 M2 Q)
    (hk : ∀ ys M', ys.length = ds.length → (∀ y ∈ ys, Y y) → J ds.length M' → k (.lst ys) M') :
    ∃ Inv : Nat → List D → Mem → Prop, Inv 0 [] M ∧
      (∀ i d acc M', ds[i]? = some d → Inv i acc M' → g d (ewipe E vs) M' fun E2 M2 => dYes E2 M2 fun b M3 => match b with
        | true => te E2 M3 fun y M4 => Inv (i + 1) (acc ++ [y]) M4
        | false => Inv (i + 1) acc M3) ∧ ∀ acc M', Inv ds.length acc M' → k (.lst acc) M' := by
  refine ⟨fun i acc M' => acc.length = i ∧ (∀ y ∈ acc, Y y) ∧ J i M', ⟨rfl, by simp, h0⟩, ?_, ?_⟩
  · rintro i d acc M' hd ⟨h1, h2, h3⟩
    refine hb i d M' _ hd h3 fun y M4 hy hj => ⟨by rw [List.length_append, h1]; rfl, fun z hz => ?_, hj⟩
    rcases List.mem_append.mp hz with hz | hz
    · exact h2 z hz
    · rw [List.mem_singleton.mp hz]; exact hy
  · rintro acc M' ⟨h1, h2, h3⟩
    exact hk acc M' h1 h2 h3
theorem dFor_inv {di : DI} {g : DG} {b : DS} {De : DEnds} {E : DEnv} {M : Mem} (ds : List D) (hi : ∀ R : List D → Mem → Prop, R ds M → di E M R) (Inv : Nat → DEnv → Mem → Prop) (h0 : Inv 0 E M)
    (hs : ∀ i d E' M', ds[i]? = some d → Inv i E' M' → g d E' M' fun E2 M2 => b { De with nx := Inv (i + 1), ct := Inv (i + 1), bk := De.nx } E2 M2) (hd : ∀ E' M', Inv ds.length E' M' → De.nx E' M') : dFor di g b De E M :=
  hi _ ⟨Inv, h0, hs, hd⟩
end Qd
namespace Qd
open PySem PySem.Spec PyProof.Rows L2

/-! ### rules by kinds -/
section
variable {M : Mem} {k : DK} {i j : Int} {b c n : Bool} {z u : Str} {ds es : List D} {ns : List Int} {p : Addr} {lo hi : Option Int}
theorem add_i : oAdd (.int i) (.int j) M k = k (.int (i + j)) M := rfl
theorem add_s : oAdd (.str z) (.str u) M k = (z.length + u.length ≤ 1000000 ∧ k (.str (z ++ u)) M) := rfl
theorem add_l : oAdd (.lst ds) (.lst es) M k = (ds.length + es.length ≤ 1000000 ∧ k (.lst (ds ++ es)) M) := rfl
theorem add_t : oAdd (.tup ds) (.tup es) M k = (ds.length + es.length ≤ 1000000 ∧ k (.tup (ds ++ es)) M) := rfl
theorem sub_i : oSub (.int i) (.int j) M k = k (.int (i - j)) M := rfl
theorem mul_i : oMul (.int i) (.int j) M k = (CMulW i j ∧ k (.int (i * j)) M) := rfl
theorem mul_l : oMul (.lst ds) (.int j) M k = ((j ≤ 1000000 ∧ -1000000 ≤ j ∧ ds.length * j.toNat ≤ 1000000) ∧ k (.lst (List.replicate j.toNat ds).flatten) M) := rfl
theorem div_i : oDiv (.int i) (.int j) M k = (CDivW i j ∧ k (.int (i / j)) M) := rfl
theorem mod_i : oMod (.int i) (.int j) M k = (0 < j ∧ k (.int (i % j)) M) := rfl
theorem pow_i : oPow (.int i) (.int j) M k = (CPowB i j ∧ k (.int (i ^ j.toNat)) M) := rfl
theorem neg_i : oNeg (.int i) M k = k (.int (-i)) M := rfl
theorem cmp_i {f : Int → Int → Bool} : oCmp f (.int i) (.int j) M k = k (.bl (f i j)) M := rfl
theorem is_n {x : D} : oIs n x .non M k = k (.bl (if n then !isNon x else isNon x)) M := rfl
theorem isn_n : isNon .non = true := rfl
theorem isn_i : isNon (.int i) = false := rfl
theorem isn_b : isNon (.bl b) = false := rfl
theorem isn_s : isNon (.str z) = false := rfl
theorem isn_l : isNon (.lst ds) = false := rfl
theorem isn_t : isNon (.tup ds) = false := rfl
theorem isn_r : isNon (.ref p) = false := rfl
theorem eq_i : oEq n (.int i) (.int j) M k = k (.bl (if n then !decide (i = j) else decide (i = j))) M := rfl
theorem eq_s : oEq n (.str z) (.str u) M k = k (.bl (if n then !decide (z = u) else decide (z = u))) M := rfl
theorem eq_b : oEq n (.bl b) (.bl c) M k = k (.bl (if n then !decide (b = c) else decide (b = c))) M := rfl
theorem eq_l : oEq n (.lst ds) (.lst es) M k = ((okD 20 (.lst ds) = true ∧ okD 20 (.lst es) = true) ∧ k (.bl (if n then !eqD (.lst ds) (.lst es) else eqD (.lst ds) (.lst es))) M) := rfl
theorem eq_t : oEq n (.tup ds) (.tup es) M k = ((okD 20 (.tup ds) = true ∧ okD 20 (.tup es) = true) ∧ k (.bl (if n then !eqD (.tup ds) (.tup es) else eqD (.tup ds) (.tup es))) M) := rfl
theorem in_l {x : D} : oIn n x (.lst ds) M k = ((flatD x = true ∧ ds.all flatD = true) ∧ k (.bl (if n then !inD x ds else inD x ds)) M) := rfl
theorem in_t {x : D} : oIn n x (.tup ds) M k = ((flatD x = true ∧ ds.all flatD = true) ∧ k (.bl (if n then !inD x ds else inD x ds)) M) := rfl
theorem in_s : oIn n (.str z) (.str u) M k = k (.bl (if n then !inStr z u else inStr z u)) M := rfl
theorem ix_l : oIx (.lst ds) (.int i) M k = ∃ d, atI ds i = some d ∧ k d M := rfl
theorem ix_t : oIx (.tup ds) (.int i) M k = ∃ d, atI ds i = some d ∧ k d M := rfl
theorem ix_c : oIx (.scr ns) (.int i) M k = ∃ d, atI ns i = some d ∧ k (.int d) M := rfl
theorem ix_s : oIx (.str z) (.int i) M k = ∃ c, atI z.cps.toList i = some c ∧ k (.str ⟨#[c]⟩) M := rfl
theorem ix_r (h : M p = some (.lst ds)) : oIx (.ref p) (.int i) M k = ∃ d, atI ds i = some d ∧ k d M := by
  show (match vw M (.ref p) with | .lst ds => ∃ d, atI ds i = some d ∧ k d M | .tup ds => ∃ d, atI ds i = some d ∧ k d M | .scr ns => ∃ n, atI ns i = some n ∧ k (.int n) M | .str z => ∃ c, atI z.cps.toList i = some c ∧ k (.str ⟨#[c]⟩) M | _ => False) = _
  rw [vw_ref h]
theorem sl_l : oSl (.lst ds) lo hi M k = k (.lst (cutD ds lo hi)) M := rfl
theorem sl_t : oSl (.tup ds) lo hi M k = k (.tup (cutD ds lo hi)) M := rfl
theorem sl_s : oSl (.str z) lo hi M k = k (.str (cutS z lo hi)) M := rfl
theorem len_l : bLen [.lst ds] M k = k (.int (ds.length : Nat)) M := rfl
theorem len_t : bLen [.tup ds] M k = k (.int (ds.length : Nat)) M := rfl
theorem len_c : bLen [.scr ns] M k = k (.int (ns.length : Nat)) M := rfl
theorem len_s : bLen [.str z] M k = k (.int (z.length : Nat)) M := rfl
theorem len_r (h : M p = some (.lst ds)) : bLen [.ref p] M k = k (.int (ds.length : Nat)) M := by
  show (match vw M (.ref p) with | .lst ds => k (.int (ds.length : Nat)) M | .tup ds => k (.int (ds.length : Nat)) M | .scr ns => k (.int (ns.length : Nat)) M | .str z => k (.int (z.length : Nat)) M | _ => False) = _
  rw [vw_ref h]
theorem tup_l : bTup [.lst ds] M k = k (.tup ds) M := rfl
theorem tup_t : bTup [.tup ds] M k = k (.tup ds) M := rfl
theorem tup_r (h : M p = some (.lst ds)) : bTup [.ref p] M k = k (.tup ds) M := by
  show (match vw M (.ref p) with | .lst ds => k (.tup ds) M | .tup ds => k (.tup ds) M | _ => False) = _
  rw [vw_ref h]
theorem lst_l : bLst [.lst ds] M k = k (.lst ds) M := rfl
theorem lst_t : bLst [.tup ds] M k = k (.lst ds) M := rfl
theorem lst_r (h : M p = some (.lst ds)) : bLst [.ref p] M k = k (.lst ds) M := by
  show (match vw M (.ref p) with | .lst ds => k (.lst ds) M | .tup ds => k (.lst ds) M | _ => False) = _
  rw [vw_ref h]
theorem abs_i : bAbs [.int i] M k = k (.int (if i < 0 then -i else i)) M := rfl
theorem max_i : bMax [.int i, .int j] M k = k (.int (if j > i then j else i)) M := rfl
theorem min_i : bMin [.int i, .int j] M k = k (.int (if j < i then j else i)) M := rfl
end
theorem ty_n {M : Mem} : tyD (vw M .non) ≠ "" := by show ("NoneType" : String) ≠ ""; decide
theorem ty_b {M : Mem} {b : Bool} : tyD (vw M (.bl b)) ≠ "" := by show ("bool" : String) ≠ ""; decide
theorem ty_i {M : Mem} {i : Int} : tyD (vw M (.int i)) ≠ "" := by show ("int" : String) ≠ ""; decide
theorem ty_s {M : Mem} {z : Str} : tyD (vw M (.str z)) ≠ "" := by show ("str" : String) ≠ ""; decide
theorem ty_l {M : Mem} {ds : List D} : tyD (vw M (.lst ds)) ≠ "" := by show ("list" : String) ≠ ""; decide
theorem ty_t {M : Mem} {ds : List D} : tyD (vw M (.tup ds)) ≠ "" := by show ("tuple" : String) ≠ ""; decide
/-! ### repr of small data -/
structure Lt (n w : Nat) (d : D) : Prop where
  ok : okD n d = true
  sh : (toP d).showable = true
  lf : (toP d).leavesShort 64 = true
  wt : (toP d).weight ≤ w
theorem Lt.non {n : Nat} : Lt n 0 .non := ⟨by cases n <;> rfl, rfl, rfl, Nat.le_refl _⟩
theorem Lt.bl {n : Nat} {b : Bool} : Lt n 0 (.bl b) := ⟨by cases n <;> rfl, rfl, rfl, Nat.le_refl _⟩
theorem Lt.mono {n w w' : Nat} {d : D} (h : Lt n w d) (hw : w ≤ w') : Lt n w' d := ⟨h.ok, h.sh, h.lf, Nat.le_trans h.wt hw⟩
theorem log2_le {x k : Nat} (h : x < 2 ^ k) : x.log2 ≤ k := by
  by_cases hx : x = 0
  · subst hx; exact Nat.zero_le _
  · exact Nat.le_of_lt ((Nat.log2_lt hx).mpr h)
theorem Lt.int {n : Nat} {i : Int} (h : i.natAbs < 10 ^ 12) : Lt n 41 (.int i) := by
  have h40 : i.natAbs.log2 ≤ 40 := log2_le (Nat.lt_of_lt_of_le h (by decide))
  refine ⟨by cases n <;> rfl, decide_eq_true (by omega), decide_eq_true ?_, ?_⟩
  · exact Nat.le_trans (PyData.shown_int_le h) (by decide)
  · show (if i == 0 then 0 else i.natAbs.log2 + 1) ≤ 41
    split <;> omega
theorem Lt.big {n : Nat} {i : Int} (h : i.natAbs < 10 ^ 60) : Lt n 201 (.int i) := by
  have h40 : i.natAbs.log2 ≤ 200 := log2_le (Nat.lt_of_lt_of_le h (by decide))
  refine ⟨by cases n <;> rfl, decide_eq_true (by omega), decide_eq_true ?_, ?_⟩
  · show (Str.ofString (toString i)).length ≤ 64
    have e := int_text_length_le10 (k := 60) (by decide) h
    rw [PySem.ofString_length]
    exact Nat.le_trans e (by decide)
  · show (if i == 0 then 0 else i.natAbs.log2 + 1) ≤ 201
    split <;> omega
theorem Lt.sm {n : Nat} {i : Int} (h : i.natAbs < 256) : Lt n 9 (.int i) := by
  have h40 : i.natAbs.log2 ≤ 8 := log2_le h
  refine ⟨by cases n <;> rfl, decide_eq_true (by omega), decide_eq_true ?_, ?_⟩
  · exact Nat.le_trans (PyData.shown_int_le (Nat.lt_of_lt_of_le h (by decide))) (by decide)
  · show (if i == 0 then 0 else i.natAbs.log2 + 1) ≤ 9
    split <;> omega
theorem Lt.str {n : Nat} {z : Str} (h : PyData.strOk z = true) : Lt n z.length (.str z) := by
  refine ⟨by cases n <;> exact h, rfl, ?_, Nat.le_refl _⟩
  show (z.cps.toList.all fun c => decide (c < 16 ^ 8)) = true
  rw [List.all_eq_true]
  intro c hc
  have h1 : (z.cps.all (· < 0x110000)) = true := h
  rw [← Array.all_toList, List.all_eq_true] at h1
  have := h1 c hc
  simp only [decide_eq_true_eq] at this ⊢
  exact Nat.lt_of_lt_of_le this (by decide)
theorem Lts {n w : Nat} : ∀ {ds : List D}, (∀ d ∈ ds, Lt n w d) → okDs n ds = true ∧ PyData.showableAll (toPs ds) = true ∧ PyData.leavesShortAll 64 (toPs ds) = true ∧ PyData.weightAll (toPs ds) ≤ ds.length * (w + 1)
  | [], _ => ⟨by cases n <;> rfl, rfl, rfl, Nat.zero_le _⟩
  | d :: r, h => by
    obtain ⟨h1, h2, h3, h4⟩ := Lts (ds := r) fun x hx => h x (List.mem_cons_of_mem _ hx)
    have g := h d List.mem_cons_self
    refine ⟨?_, ?_, ?_, ?_⟩
    · show (okD n d && okDs n r) = true
      rw [g.ok, h1]; rfl
    · show (PyData.showable (toP d) && PyData.showableAll (toPs r)) = true
      rw [g.sh, h2]; rfl
    · show (PyData.leavesShort 64 (toP d) && PyData.leavesShortAll 64 (toPs r)) = true
      rw [g.lf, h3]; rfl
    · show (toP d).weight + 1 + PyData.weightAll (toPs r) ≤ (r.length + 1) * (w + 1)
      have := g.wt
      rw [Nat.add_mul, Nat.one_mul]
      omega
theorem Lt.lst {n w : Nat} {ds : List D} (h : ∀ d ∈ ds, Lt n w d) : Lt (n + 1) (ds.length * (w + 1)) (.lst ds) := by
  obtain ⟨h1, h2, h3, h4⟩ := Lts h
  exact ⟨h1, h2, h3, h4⟩
theorem Lt.tup {n w : Nat} {ds : List D} (h : ∀ d ∈ ds, Lt n w d) : Lt (n + 1) (ds.length * (w + 1)) (.tup ds) := by
  obtain ⟨h1, h2, h3, h4⟩ := Lts h
  exact ⟨h1, h2, h3, h4⟩
theorem bRepr_of {x : D} {M : Mem} {k : DK} {w : Nat} (h : Lt 20 w (vw M x)) (hw : w ≤ 15000) (hk : k (.str (toP (vw M x)).shown) M) : bRepr [x] M k := by
  refine ⟨⟨h.ok, h.sh, ?_⟩, hk⟩
  have := PyData.shown_le 64 (by decide) _ h.lf
  have := h.wt
  omega
theorem Lt.up {n w : Nat} {d : D} (h : Lt n w d) : Lt (n + 1) w d := by
  refine ⟨?_, h.sh, h.lf, h.wt⟩
  exact okD_up n d h.ok
where
  okD_up : ∀ (n : Nat) (d : D), okD n d = true → okD (n + 1) d = true
    | n, .non, _ => rfl
    | n, .bl _, _ => rfl
    | n, .int _, _ => rfl
    | 0, .str _, h => h
    | n + 1, .str _, h => h
    | 0, .lst _, h => by cases h
    | 0, .tup _, h => by cases h
    | n + 1, .lst ds, h => okDs_of fun d hd => okD_up n d (by
        obtain ⟨i, hi⟩ := List.mem_iff_getElem?.mp hd
        exact okDs_all h i d hi)
    | n + 1, .tup ds, h => okDs_of fun d hd => okD_up n d (by
        obtain ⟨i, hi⟩ := List.mem_iff_getElem?.mp hd
        exact okDs_all h i d hi)
    | 0, .ins _ _, h => by cases h
    | 0, .ref _, h => by cases h
    | 0, .ty _, h => by cases h
    | 0, .scr _, h => by cases h
    | n + 1, .ins _ _, h => by cases h
    | n + 1, .ref _, h => by cases h
    | n + 1, .ty _, h => by cases h
    | n + 1, .scr _, h => by cases h
theorem Lt.ups {n w : Nat} {d : D} (h : Lt n w d) : ∀ m : Nat, Lt (n + m) w d
  | 0 => h
  | m + 1 => (h.ups m).up
theorem eqS (a : Str) : decide (a = a) = true := decide_eq_true rfl

theorem eqD_refl {a : D} (h : okD 20 a = true) : eqD a a = true := PySem.SeqAt.eqv_refl _ (can_of 20 _ h).1

/-! ### sizes -/
theorem cmul {i j : Int} (a b : Nat) (hi : i.natAbs < 2 ^ a) (hj : j.natAbs < 2 ^ b) (h : a + b < 1000000 := by decide) : CMulW i j := by
  have h1 := log2_le hi
  have h2 := log2_le hj
  show i.natAbs.log2 + j.natAbs.log2 < 1000000
  omega
theorem cpow {i j : Int} (h0 : 0 ≤ j) (h1 : j ≤ 1000) (a : Nat) (hi : i.natAbs < 2 ^ a) (h : a < 60000 := by decide) : CPowB i j := ⟨h0, h1, Nat.lt_of_le_of_lt (log2_le hi) h⟩
theorem cdiv {i j : Int} (h0 : 0 < j) (a : Nat) (hj : j.natAbs < 2 ^ a) (h : a < 9000 := by decide) : CDivW i j := ⟨h0, Nat.lt_of_le_of_lt (log2_le hj) h⟩

/-! ### the purse of a law: three numbers in a list that changes -/
def Pur (M : Mem) (p : Addr) (N : Nat) : Prop := ∃ a b c : Int, M p = some (.lst [.int a, .int b, .int c]) ∧ 0 ≤ a ∧ 0 ≤ b ∧ b < 2 ^ 200 ∧ 0 ≤ c ∧ c ≤ (N : Int)
/-- a coin is taken: a number below many; the purse alone changes -/
def Coin (p : Addr) (N : Nat) (many : Int) (M : Mem) (k : DK) : Prop := Pur M p N ∧ N < 2 ^ 40 ∧ 1 ≤ many ∧ many < 2 ^ 1000 ∧ ∀ (r : Int) (M' : Mem), 0 ≤ r → r < many → Pur M' p (N + 1) → (∀ q, q ≠ p → M' q = M q) → k (.int r) M'
def W_coin : DW := fun as M k => match as with
  | [.ref p, .int many] => ∃ N, Coin p N many M k
  | _ => False
def W_purse : DW := fun as M k => match as with
  | [.scr ns, .int i] => 0 ≤ i ∧ i ≤ 63 ∧ ∀ p a b, M p = none → 0 ≤ a → 0 ≤ b → b < 2 ^ 200 → k (.ref p) (mset M p (.lst [.int a, .int b, .int 0]))
  | _ => False
theorem pur_new {M : Mem} {p : Addr} {a b : Int} (h1 : 0 ≤ a) (h2 : 0 ≤ b) (h3 : b < 2 ^ 200) : Pur (mset M p (.lst [.int a, .int b, .int 0])) p 0 := ⟨a, b, 0, mset_same, h1, h2, h3, Int.le_refl _, Int.le_refl _⟩
theorem enum_inv {xs : List D} {i : Nat} {d : D} (h : (enumD 0 xs)[i]? = some d) : ∃ x, xs[i]? = some x ∧ d = .tup [.int (i : Nat), x] := by
  rw [enumD_get, Nat.zero_add] at h
  cases e : xs[i]? with
  | none => rw [e] at h; cases h
  | some x => rw [e] at h; exact ⟨x, rfl, (Option.some.inj h).symm⟩
theorem range_inv {n i : Nat} {d : D} (h : ((List.range n).map fun i => D.int (i : Nat))[i]? = some d) : i < n ∧ d = .int (i : Nat) := by
  rw [List.getElem?_map] at h
  by_cases hi : i < n
  · rw [List.getElem?_range hi] at h
    exact ⟨hi, (Option.some.inj h).symm⟩
  · rw [List.getElem?_eq_none (by simpa using hi)] at h
    cases h
theorem map_inv' {α : Type} {f : α → D} {os : List α} {i : Nat} {d : D} (h : (os.map f)[i]? = some d) : ∃ o, os[i]? = some o ∧ d = f o := by
  rw [List.getElem?_map] at h
  cases e : os[i]? with
  | none => rw [e] at h; cases h
  | some o => rw [e] at h; exact ⟨o, rfl, (Option.some.inj h).symm⟩

/-! ### what a def made for itself is forgotten when it ends -/
def lets (k : DK) : DK := fun d M' => ∃ M'' : Mem, (∀ b o, M'' b = some o → M' b = some o) ∧ k d M''
theorem lets_me {k : DK} {d : D} {M : Mem} (h : k d M) : lets k d M := ⟨M, fun _ _ h => h, h⟩
theorem lets_one {k : DK} {d : D} {M : Mem} {p : Addr} {o : MO} (hp : M p = none) (h : k d M) : lets k d (mset M p o) :=
  ⟨M, fun b u e => by rw [mset_ne (fun z => by subst z; rw [hp] at e; cases e)]; exact e, h⟩
theorem less_none {M M' : Mem} {b : Addr} (h : ∀ b o, M b = some o → M' b = some o) (e : M' b = none) : M b = none := by
  cases q : M b with
  | none => rfl
  | some u => rw [h b u q] at e; cases e
theorem Rep.less {K : PySem.W.Frag} {I F H : Hp} {M M' : Mem} (r : Rep K I F M' H) (h : ∀ b o, M b = some o → M' b = some o) : Rep K I F M H :=
  ⟨r.sub, r.frm, fun b o e => ⟨(r.dis b o e).1, less_none h (r.dis b o e).2⟩, fun b o e => r.mem b o (h b o e)⟩
theorem lets_end {K : PySem.W.Frag} {F : Hp} {k : DK} {Q : VK} {I : Hp} (hq : ∀ d M' v I' H', k d M' → Rep K I' F M' H' → Same I I' → DR K I' v d → Q v H') : ∀ d M' v I' H', lets k d M' → Rep K I' F M' H' → Same I I' → DR K I' v d → Q v H' := by
  rintro d M' v I' H' ⟨M'', h1, h2⟩ rp s r
  exact hq d M'' v I' H' h2 (rp.less h1) s r
section
variable {P : Program} {w : World} {K : PySem.W.Frag} {mg : Str → Option Value} {base : Heap}
theorem spD_lets {n : Nat} {W W' : DW} (h : ∀ as M kk, W as M kk → W' as M (lets kk)) {vs : List V} {H : Hp} {Q : VK} {E : XK} (z : spD K n W vs H Q E) : spD K n W' vs H Q E := by
  obtain ⟨I, F, M, ds, k, rp, r, hl, hw, hq⟩ := z
  exact ⟨I, F, M, ds, lets k, rp, r, hl, h _ _ _ hw, lets_end hq⟩
theorem fnDl {x qual : Str} {st : Stmt} {f : Addr} {fd : FuncData} {N ps : List Str} {k : Nat} {W : DW} (Fn : Fun K x qual st f fd) (S : FnScope N ps (defScope st))
    (hb : ∀ (cdv : Value) (A : Around) (outer : List Env) (s : Shared) (H : Hp) (E : XK), Room k (A.deeper (envOfC qual (defScope st) s.heap.objs.size f cdv)) →
      ∃ ts ds, QSs (cxOf CX0 P w K mg base N qual (defScope st) f cdv A outer s H E).nox (defBody st) ts ds ∧ ∀ as M kk, as.length = ps.length → W as M kk → ds { nx := fun _ M => lets kk .non M, rt := lets kk } (estart N as) M) :
    FnOk P w K mg base CX0 (k + 1) f fd ps (spD K ps.length W) := by
  have h := fnD (W := fun as M kk => ∃ k0, kk = lets k0 ∧ W as M k0) Fn S fun cdv A outer s H E hr => by
    obtain ⟨ts, ds, h1, h2⟩ := hb cdv A outer s H E hr
    exact ⟨ts, ds, h1, fun as M kk hl ⟨k0, e, hw⟩ => by subst e; exact h2 as M k0 hl hw⟩
  exact ⟨fun vs H Q E z => by obtain ⟨I, F, M, ds, k, rp, r, hl, hw, hq⟩ := z; rw [r.len, hl], fun A outer s H args us vs Q E hr env bt rel z => h.run A outer s H args us vs Q E hr env bt rel (spD_lets (fun as M kk hw => ⟨kk, rfl, hw⟩) z)⟩
theorem fnDlf {x qual : Str} {st : Stmt} {f : Addr} {fd : FuncData} {N ps : List Str} {k : Nat} {W : DW} (Fn : Fun K x qual st f fd) (S : FnScope N ps (defScope st))
    (hb : ∀ (cdv : Value) (A : Around) (outer : List Env) (s : Shared) (H : Hp) (E : XK), Room k (A.deeper (envOfC qual (defScope st) s.heap.objs.size f cdv)) →
      ∃ ts ds, QSs (cxOf CX0 P w K mg base N qual (defScope st) f cdv A outer s H E).nox (defBody st) ts ds ∧ ∀ as M kk, as.length = ps.length → W as M kk → ds { nx := fun _ M => lets kk .non M, rt := rtF (lets kk) } (estart N as) M) :
    FnOk P w K mg base CX0 (k + 1) f fd ps (spD K ps.length W) := by
  have h := fnDf (W := fun as M kk => ∃ k0, kk = lets k0 ∧ W as M k0) Fn S fun cdv A outer s H E hr => by
    obtain ⟨ts, ds, h1, h2⟩ := hb cdv A outer s H E hr
    exact ⟨ts, ds, h1, fun as M kk hl ⟨k0, e, hw⟩ => by subst e; exact h2 as M k0 hl hw⟩
  exact ⟨fun vs H Q E z => by obtain ⟨I, F, M, ds, k, rp, r, hl, hw, hq⟩ := z; rw [r.len, hl], fun A outer s H args us vs Q E hr env bt rel z => h.run A outer s H args us vs Q E hr env bt rel (spD_lets (fun as M kk hw => ⟨kk, rfl, hw⟩) z)⟩
theorem fnGl {x qual : Str} {st : Stmt} {f : Addr} {fd : FuncData} {N ps : List Str} {k : Nat} {W : DW} (Fn : Fun K x qual st f fd) (S : FnScope N ps (defScope st))
    (hb : ∀ (cdv : Value) (A : Around) (outer : List Env) (s : Shared) (H : Hp) (E : XK), A.guards = some [] → Room k (A.deeper (envOfC qual (defScope st) s.heap.objs.size f cdv)) →
      ∃ ts ds, QSs (cxOf CX0 P w K mg base N qual (defScope st) f cdv A outer s H E).nox (defBody st) ts ds ∧ ∀ as M kk, as.length = ps.length → W as M kk → ds { nx := fun _ M => lets kk .non M, rt := lets kk } (estart N as) M) :
    FnG P w K mg base (k + 1) f fd ps.length ps W := by
  have h := fnG (W := fun as M kk => ∃ k0, kk = lets k0 ∧ W as M k0) Fn S fun cdv A outer s H E hg hr => by
    obtain ⟨ts, ds, h1, h2⟩ := hb cdv A outer s H E hg hr
    exact ⟨ts, ds, h1, fun as M kk hl ⟨k0, e, hw⟩ => by subst e; exact h2 as M k0 hl hw⟩
  exact ⟨h.np, fun A outer s H args us vs Q E hg hr env bt rel z => h.go A outer s H args us vs Q E hg hr env bt rel (spD_lets (fun as M kk hw => ⟨kk, rfl, hw⟩) z)⟩
end

theorem dLc_run {di : DI} {g : DG} {te : DE} {vs : List Nat} {E : DEnv} {M : Mem} {k : DK} (C : List D → Mem → Prop) (hi : ∀ R : List D → Mem → Prop, (∀ ds M1, C ds M1 → R ds M1) → di E M R)
    (h : ∀ ds M1, C ds M1 → ∃ (J : Nat → Mem → Prop) (Y : D → Prop), J 0 M1 ∧ (∀ (i : Nat) (d : D) (M' : Mem) (Q : DK), ds[i]? = some d → J i M' → (∀ y M4, Y y → J (i + 1) M4 → Q y M4) → g d (ewipe E vs) M' fun E2 M2 => te E2 M2 Q) ∧
      ∀ ys M', ys.length = ds.length → (∀ y ∈ ys, Y y) → J ds.length M' → k (.lst ys) M') : dLc di g dYes te vs E M k :=
  hi _ fun ds M1 hc => by
    obtain ⟨J, Y, h0, hb, hk⟩ := h ds M1 hc
    exact dLc_inv J Y h0 hb hk

/-! ### texts of signs that are shown -/
theorem sgc_lt (d : Nat) : sgc d < 128 := by
  unfold sgc
  by_cases h : d < 36
  · exact (by decide : ∀ d < 36, sgl.getD d 63 < 128) d h
  · rw [List.getD_eq_getElem?_getD, List.getElem?_eq_none (show sgl.length ≤ d from Nat.le_of_not_lt h)]; decide
theorem page_ok (os : List (Option Nat)) : PyData.strOk (page os) = true := by
  show ((page os).cps.all (· < 0x110000)) = true
  rw [← Array.all_toList, page_tl, List.all_eq_true]
  intro c hc
  obtain ⟨o, _, rfl⟩ := List.mem_map.mp hc
  refine decide_eq_true ?_
  cases o with
  | none => show 63 < _; decide
  | some d => exact Nat.lt_trans (sgc_lt d) (by decide)
theorem lt_page {os : List (Option Nat)} (h : os.length ≤ 30) (n : Nat) : Lt n 1260 (.str (page os)) := (Lt.str (page_ok os)).mono (by rw [page_len]; omega)
theorem lt_tup {os : List (Option Nat)} (h : os.length ≤ 30) (h2 : ∀ o ∈ os, ∀ n, o = some n → n < 36) (n : Nat) : Lt (n + 1) 1260 (.tup (os.map oD)) := by
  refine (Lt.tup (n := n) (w := 41) fun d hd => ?_).mono (by rw [List.length_map]; omega)
  obtain ⟨o, ho, rfl⟩ := List.mem_map.mp hd
  cases o with
  | none => exact Lt.non.mono (by omega)
  | some m => exact Lt.int (by have := h2 _ ho m rfl; show m < 10 ^ 12; omega)
theorem lt_list {ds : List D} (h : ∀ d ∈ ds, Lt 19 1260 d) (hl : ds.length ≤ 3) : Lt 20 3783 (.lst ds) := (Lt.lst h).mono (by omega)

theorem dFor_run {di : DI} {g : DG} {b : DS} {De : DEnds} {E : DEnv} {M : Mem} (C : List D → Mem → Prop) (hi : ∀ R : List D → Mem → Prop, (∀ ds M1, C ds M1 → R ds M1) → di E M R)
    (h : ∀ ds M1, C ds M1 → ∃ Inv : Nat → DEnv → Mem → Prop, Inv 0 E M1 ∧ (∀ i d E' M', ds[i]? = some d → Inv i E' M' → g d E' M' fun E2 M2 => b { De with nx := Inv (i + 1), ct := Inv (i + 1), bk := De.nx } E2 M2) ∧ ∀ E' M', Inv ds.length E' M' → De.nx E' M') : dFor di g b De E M := hi _ h
theorem lets_any {k : DK} {d : D} {M : Mem} (h : ∀ M, k d M) : lets k d M := ⟨M, fun _ _ h => h, h M⟩
/-- drawn digits -/
theorem digits_of {b : Nat} : ∀ {ys : List D}, (∀ y ∈ ys, ∃ n : Nat, y = .int n ∧ n < b) → ∃ os : List (Option Nat), ys = os.map oD ∧ ∀ o ∈ os, ∃ n, o = some n ∧ n < b
  | [], _ => ⟨[], rfl, fun o ho => by cases ho⟩
  | y :: r, h => by
    obtain ⟨os, e, h2⟩ := digits_of (ys := r) fun x hx => h x (List.mem_cons_of_mem _ hx)
    obtain ⟨n, rfl, hn⟩ := h y List.mem_cons_self
    subst e
    refine ⟨some n :: os, rfl, fun o ho => ?_⟩
    rcases List.mem_cons.mp ho with rfl | ho
    · exact ⟨n, rfl, hn⟩
    · exact h2 o ho
theorem flat_ints {ys : List D} (h : ∀ y ∈ ys, ∃ n : Nat, y = .int n) : ys.all flatD = true := by
  rw [List.all_eq_true]
  intro y hy
  obtain ⟨n, rfl⟩ := h y hy
  rfl
end Qd
namespace Qd
open PySem PySem.Spec PyProof.Rows L2

/-! ### a, b, *c = a list -/
def gStar (K : PySem.W.Frag) (i : Nat) (t : TGs) : TG := fun v σ H Q => ∃ a xs, v = .ref a ∧ SqL K H a xs ∧ i ≤ xs.length ∧ xs.length ≤ 16384 ∧ ∀ p, H p = none → t (xs.take i ++ [.ref p]) σ (upd H p (.lst (xs.drop i))) Q
theorem vals_take {vs : List V} {us : List Value} (r : Vals vs us) : ∀ n : Nat, Vals (vs.take n) (us.take n) := fun n => by
  induction r generalizing n with
  | nil => simp; exact .nil
  | cons h t ih =>
    cases n with
    | zero => exact .nil
    | succ n => exact .cons h (ih n)
theorem vals_drop {vs : List V} {us : List Value} (r : Vals vs us) : ∀ n : Nat, Vals (vs.drop n) (us.drop n) := fun n => by
  induction r generalizing n with
  | nil => simp; exact .nil
  | cons h t ih =>
    cases n with
    | zero => exact .cons h t
    | succ n => exact ih n
section
variable {X : Cx} {pos : Pos} {es : List Expr} {K : PySem.W.Frag}
theorem pgs_star {e : Expr} {t : TG} {sp : Pos} (h1 : PG X e t) : PGs X [.Starred e sp] (gCons t gNil) := by
  refine ⟨fun pins s σ H vs us Q I r h => ?_⟩
  obtain ⟨v, vr, e1, h⟩ := h
  subst e1
  cases r with
  | cons r rr =>
    refine assignInOrder_cons (thn (h1.run pins s σ H _ _ _ I r h) fun _ s1 ⟨σ1, H1, I1, q1⟩ => ?_)
    obtain ⟨e2, q2⟩ := q1
    subst e2
    cases rr
    exact assignInOrder_nil ⟨σ1, H1, I1, q2⟩
theorem pg_star {k i : Nat} {t : TGs} (hc : X.calm = true) (h : PGs X es t) (hn : (assignEach es X.env).length = i + 1 := by rfl) (hst : (assignEach es X.env).findIdx? (·.1) = some i := by rfl) : PG X (.Tuple es k pos) (gStar X.K i t) := by
  refine ⟨fun pins s σ H v u Q I r hw => ?_⟩
  obtain ⟨l, xs, e1, hq, hi, hz, hw⟩ := hw
  subst e1
  cases r
  obtain ⟨its, rv, htl, hz2⟩ := I.list hq
  have hl : s.heap.IsList l its.toArray := htl.isList
  have hh : X.A.handled = none := I.ok.hd hc
  have hlen := rv.length
  have hsz : its.toArray.size = xs.length := by rw [List.size_toArray, hlen]
  rw [assign_Tuple]
  refine wpAny_bind (wpAny_standAt ?_)
  unfold unpack
  rw [hn, hst]
  have hlt : l ≠ s.heap.objs.size := by obtain ⟨o, ho, _⟩ := hl; exact Nat.ne_of_lt (Heap.lt_size ho)
  have hll : l < s.heap.objs.size := by obtain ⟨o, ho, _⟩ := hl; exact Heap.lt_size ho
  refine wpAny_bind (wpAny_holding ?_)
  unfold unpackItems
  refine wpAny_bind ?_
  unfold notIterableAtAll
  refine wpAny_bind (wpAny_specialOf hl.typeIs slot_list_iter.lookup ?_)
  refine wpAny_pure ?_
  simp only [Bool.false_eq_true, if_false]
  refine wpAny_bind (wpAny_holding (wpAny_pyIter_list hl ?_))
  refine wpAny_bind (wpAny_holding (PySem.W.kun_draw hlt i 0 _ _ ⟨_, Heap.get?_push_size _ rfl, rfl, rfl⟩ (hl.push _) (by omega) fun h₁ hit₁ hs₁ => ?_))
  have hl₁ : h₁.IsList l its.toArray := (hl.push _).extBut hs₁.extBut hlt
  rw [Nat.zero_add] at hit₁
  have hit₁' := hit₁
  obtain ⟨oi, hoi, _⟩ := hit₁'
  have hl₁' := hl₁
  obtain ⟨ol, hol, _⟩ := hl₁'
  rw [List.drop_zero]
  have hfl : (its.toArray.toList.take i).length = i := by rw [List.length_take, Array.length_toList]; omega
  rw [if_neg (show ¬ ((its.toArray.toList.take i).length < i) by rw [hfl]; omega)]
  refine wpAny_bind (wpAny_holding (PySem.W.kun_collect (s := { s with heap := h₁ }) (T := "list_iterator") (.inr (.inr (.inl rfl))) (Walks.list (A := X.A.in1) hh s.heap.objs.size l hlt its.toArray) (fun j u st => st.1.typeIs) (k := i) (by omega) ⟨hit₁, hl₁⟩ (Heap.lt_size hoi) (Heap.lt_size hol) (fun h₂ tk hk => ?_) (by rw [sizeLine_eq]; omega)))
  have hrl : (its.toArray.toList.drop i).length = its.toArray.size - i := by rw [List.length_drop, Array.length_toList]
  show wpAny _ _ (if (its.toArray.toList.drop i).length < i + 1 - 1 - i then _ else _) _ _ _
  rw [if_neg (by omega)]
  have hm : (its.toArray.toList.drop i).length - (i + 1 - 1 - i) = (its.toArray.toList.drop i).length := by omega
  show wpAny _ _ (newList ((its.toArray.toList.drop i).take ((its.toArray.toList.drop i).length - (i + 1 - 1 - i))) >>= fun d => pure (its.toArray.toList.take i ++ [d] ++ (its.toArray.toList.drop i).drop ((its.toArray.toList.drop i).length - (i + 1 - 1 - i)))) _ _ _
  rw [hm, List.take_length, List.drop_length]
  simp only [List.append_nil]
  have he : ∀ b o, s.heap.get? b = some o → h₂.get? b = some o := fun b o e => hk b o (Nat.ne_of_lt (Heap.lt_size e)) (hs₁.extBut b o (Nat.ne_of_lt (Heap.lt_size e)) (Heap.get?_push_of_some _ e))
  have I2 : Inv X pins σ H { s with heap := h₂, toks := tk } := I.kept he
  refine wpAny_bind (wpAny_newObj_type (wpAny_pure ?_) (by show ((its.toArray.toList.drop i).toArray).size ≤ sizeLine; rw [List.size_toArray, hrl, sizeLine_eq]; omega))
  have I3 := I2.laid (a := h₂.objs.size) (o := .lst (xs.drop i)) (t' := tk) (h' := h₂.push { cls := .type "list", data := .seq (its.toArray.toList.drop i).toArray }) (fun b ob q => Heap.get?_push_of_some _ q) (Nat.le_refl _)
    ⟨by rw [List.length_drop, sizeLine_eq]; omega, its.drop i, 0, vals_drop rv i, by simpa using Heap.get?_push_size _ rfl⟩
  refine h.run pins _ σ _ _ _ Q I3 ?_ (hw _ (I2.hok.fresh (Nat.le_refl _)))
  have ra := (vals_take rv i).append (show Vals [V.ref h₂.objs.size] [Value.ref h₂.objs.size] from .cons rfl .nil)
  simpa using ra
def dgStar (i : Nat) (g : DGs) : DG := fun d E M k => match vw M d with
  | .lst ds => (i ≤ ds.length ∧ ds.length ≤ 16384) ∧ g (ds.take i ++ [.lst (ds.drop i)]) E M k
  | _ => False
theorem qgs_star {e : Expr} {t : TG} {dg : DG} {sp : Pos} (h : QG X e t dg) : QGs X [.Starred e sp] (gCons t gNil) (dgCons dg dgNil) :=
  ⟨pgs_star h.pg, fun ds E M k vs σ I F H Q hd r er rp kk => by
    cases ds with
    | nil => exact hd.elim
    | cons d ds =>
      cases vs with
      | nil => have := r.len; simp at this
      | cons v vs =>
        refine ⟨v, vs, rfl, h.sim d E M _ v σ I F H _ hd r.head er rp fun E2 M2 σ2 I2 H2 q er2 rp2 s2 => ?_⟩
        cases ds with
        | nil =>
          cases vs with
          | nil => exact ⟨rfl, kk E2 M2 σ2 I2 H2 q er2 rp2 s2⟩
          | cons _ _ => have := r.len; simp at this
        | cons _ _ => exact q.elim⟩
theorem qg_star {k i : Nat} {gs : TGs} {dgs : DGs} (hc : X.calm = true) (h : QGs X es gs dgs) (hn : (assignEach es X.env).length = i + 1 := by rfl) (hst : (assignEach es X.env).findIdx? (·.1) = some i := by rfl) : QG X (.Tuple es k pos) (gStar X.K i gs) (dgStar i dgs) :=
  ⟨pg_star hc h.pgs hn hst, fun d E M k v σ I F H Q hd r er rp kk => by
    unfold dgStar at hd
    split at hd
    · rename_i ds e
      obtain ⟨l, xs, rfl, h1, h2, h3⟩ := lstAt rp r e
      refine ⟨l, xs, rfl, .inl (.inl h1), by rw [h3.len]; exact hd.1.1, by rw [h3.len]; exact hd.1.2, fun p hp => ?_⟩
      have s1 : Same I (upd I p (.lst (xs.drop i))) := same_new (rp.freeI hp)
      have r1 : DR X.K (upd I p (.lst (xs.drop i))) (.ref p) (.lst (ds.drop i)) := .newL (rp.freeI hp) (Nat.le_trans (by rw [List.length_drop]; omega) h2) (h3.drop i)
      exact h.sim _ E M k _ σ _ F _ Q hd.2 (((h3.take i).mono s1).append (.cons r1 .nil)) (er.mono s1) (rp.still hp _) fun E2 M2 σ2 I2 H2 a b c s2 => kk E2 M2 σ2 I2 H2 a b c (s1.trans s2)
    · exact hd.elim⟩
end
end Qd
namespace Qd
open PySem PySem.Spec PyProof.Rows L2

/-! ### objects -/
def vo (M : Mem) (d : D) : D := match d with
  | .ref p => (match M p with
    | some (.ins C fs) => .ins C fs
    | _ => .ref p)
  | d => d
theorem vo_eq {M : Mem} {a d : D} (h : vo M a = d) : a = d ∨ ∃ p C fs, a = .ref p ∧ M p = some (.ins C fs) ∧ d = .ins C fs := by
  unfold vo at h
  split at h
  · rename_i p
    split at h
    · rename_i C fs e
      exact .inr ⟨p, C, fs, rfl, e, h.symm⟩
    · exact .inl h
  · exact .inl h
theorem vo_ref {M : Mem} {p : Addr} {C : Addr} {fs : List (Str × D)} (h : M p = some (.ins C fs)) : vo M (.ref p) = .ins C fs := by
  show (match M p with | some (.ins C fs) => D.ins C fs | _ => D.ref p) = .ins C fs
  rw [h]
def putD (f : Str) (v : D) : List (Str × D) → List (Str × D)
  | [] => [(f, v)]
  | (g, x) :: r => if g = f then (g, v) :: r else (g, x) :: putD f v r
section
variable {K : PySem.W.Frag} {I F H H' : Hp} {M : Mem} {p dx C : Addr}
theorem DRf.nil : DRf K I [] [] := ⟨rfl, fun i x d a => by simp at a⟩
theorem DRf.cons {f : Str} {v : V} {d : D} {fv : List (Str × V)} {fs : List (Str × D)} (h : DR K I v d) (t : DRf K I fv fs) : DRf K I ((f, v) :: fv) ((f, d) :: fs) := by
  refine ⟨by simp [t.len], fun i x y a b => ?_⟩
  cases i with
  | zero => simp at a b; subst a; subst b; exact ⟨rfl, h⟩
  | succ i => exact t.at_ i x y (by simpa using a) (by simpa using b)
theorem DRf.inv {g : Str} {y : D} {fv : List (Str × V)} {fs : List (Str × D)} (h : DRf K I fv ((g, y) :: fs)) : ∃ v r, fv = (g, v) :: r ∧ DR K I v y ∧ DRf K I r fs := by
  cases fv with
  | nil => have := h.len; simp at this
  | cons x r =>
    obtain ⟨x1, x2⟩ := x
    obtain ⟨e, d⟩ := h.at_ 0 (x1, x2) (g, y) rfl rfl
    have e' : x1 = g := e
    subst e'
    exact ⟨x2, r, rfl, d, ⟨by have := h.len; simpa using this, fun i a b u v => h.at_ (i + 1) a b (by simpa using u) (by simpa using v)⟩⟩
theorem DRf.nil_inv {fv : List (Str × V)} (h : DRf K I fv []) : fv = [] := by
  cases fv with
  | nil => rfl
  | cons x r => have := h.len; simp at this
theorem DRf.look : ∀ {fs : List (Str × D)} {fv : List (Str × V)} (h : DRf K I fv fs) (f : Str), (∀ d, fs.lookup f = some d → ∃ v, fv.lookup f = some v ∧ DR K I v d) ∧ (fs.lookup f = none → fv.lookup f = none)
  | [], fv, h, f => by
    obtain rfl := h.nil_inv
    exact ⟨fun d e => by simp [List.lookup] at e, fun _ => rfl⟩
  | (g, y) :: fs, fv, h, f => by
    obtain ⟨v, r, rfl, d, t⟩ := h.inv
    obtain ⟨h1, h2⟩ := DRf.look t f
    by_cases e : (f == g) = true
    · exact ⟨fun z q => by
        simp only [List.lookup, e] at q ⊢
        cases q
        exact ⟨v, rfl, d⟩, fun q => by simp only [List.lookup, e] at q; cases q⟩
    · have e' : (f == g) = false := by simpa using e
      exact ⟨fun z q => by
        simp only [List.lookup, e'] at q ⊢
        exact h1 z q, fun q => by
        simp only [List.lookup, e'] at q ⊢
        exact h2 q⟩
theorem DRf.put {f : Str} {v : V} {d : D} (g : DR K I v d) : ∀ {fs : List (Str × D)} {fv : List (Str × V)}, DRf K I fv fs → DRf K I (putF f v fv) (putD f d fs)
  | [], fv, h => by
    obtain rfl := h.nil_inv
    exact .cons g .nil
  | (x, y) :: fs, fv, h => by
    obtain ⟨w, r, rfl, d', t⟩ := h.inv
    show DRf K I (if x = f then (x, v) :: r else (x, w) :: putF f v r) (if x = f then (x, d) :: fs else (x, y) :: putD f d fs)
    by_cases e : x = f
    · rw [if_pos e, if_pos e]; exact .cons g t
    · rw [if_neg e, if_neg e]; exact .cons d' (DRf.put g t)
theorem insAt {a : D} {x : V} {fs : List (Str × D)} (rp : Rep K I F M H) (r : DR K I x a) (h : vo M a = .ins C fs) : ∃ p dx fv, x = .ref p ∧ H p = some (.ins C dx fv) ∧ DRf K I fv fs := by
  rcases vo_eq h with rfl | ⟨p, C', gs, rfl, hm, e⟩
  · cases r with
    | ins h1 h2 h3 h4 h5 => exact ⟨_, _, _, rfl, rp.sub _ _ h1, ⟨h3, fun i x d a b => ⟨h4 i x d a b, h5 i x d a b⟩⟩⟩
  · cases e
    obtain rfl := r.ref_inv
    obtain ⟨_, dx, fv, h1, _, h3⟩ := rp.mem p _ hm
    exact ⟨p, dx, fv, rfl, h1, h3⟩
theorem Rep.newO (r : Rep K I F M H) (h : H p = none) (hd : I dx = some (.own p)) : Rep K I F (mset M p (.ins C [])) (upd H p (.ins C dx [])) := by
  refine ⟨fun b u e => ?_, fun b u e => ?_, fun b u e => ?_, fun b u e => ?_⟩
  · rw [upd_ne (ne_of_none (r.sub b u e) h)]; exact r.sub b u e
  · rw [upd_ne (ne_of_none (r.frm b u e) h)]; exact r.frm b u e
  · obtain ⟨h1, h2⟩ := r.dis b u e
    exact ⟨h1, by rw [mset_ne (ne_of_none (r.frm b u e) h)]; exact h2⟩
  · by_cases hb : b = p
    · subst hb
      rw [mset_same] at e; cases e
      exact ⟨r.freeI h, dx, [], upd_same, hd, .nil⟩
    · rw [mset_ne hb] at e
      obtain ⟨h1, h2⟩ := r.mem b u e
      exact ⟨h1, h2.move (Same.refl I) (upd_ne hb)⟩
theorem Rep.ext (r : Rep K I F M H) (s : ∀ b o, H b = some o → H' b = some o) : Rep K I F M H' :=
  ⟨fun b o e => s _ _ (r.sub b o e), fun b o e => s _ _ (r.frm b o e), r.dis, fun b o e => by
    obtain ⟨h1, h2⟩ := r.mem b o e
    obtain ⟨u, hu⟩ := h2.there
    exact ⟨h1, h2.move (Same.refl I) ((s _ _ hu).trans hu.symm)⟩⟩
end

/-! ### fields -/
def dFld (C : Addr) (f : Str) (de : DE) : DE := fun E M k => de E M fun x M1 => match vo M1 x with
  | .ins C' fs => C' = C ∧ ∃ d, fs.lookup f = some d ∧ k d M1
  | _ => False
def dSetF (C : Addr) (f : Str) (dO dv : DE) : DS := fun De E M => dv E M fun y M1 => dO E M1 fun x M2 => match x with
  | .ref p => ∃ fs, M2 p = some (.ins C fs) ∧ fs.length < 1000 ∧ De.nx E (mset M2 p (.ins C (putD f y fs)))
  | _ => False
section
variable {X : Cx} {K : PySem.W.Frag} {e o value : Expr} {es : List Expr} {te to tv : TE} {de dO dv : DE} {pos pos' apos p : Pos} {f m x : Str} {C : Addr} {tA : TA} {dA : DA} {k : Nat} {fa : Addr} {fd : FuncData} {ps : List Str} {W : DW} {ds0 : List Value} {dvs : List V} {dds : List D}
theorem qe_fld (c : Cls X.K C) (n : NoAttr X.K C f) (h : QE X e te de) (hb : attributeBase e f X.env (eval e X.env) = eval e X.env := by rfl) : QE X (.Attribute e f pos) (tFld X.K te f) (dFld C f de) :=
  ⟨pe_fld h.pe hb, fun E M k σ I F H Q hd er rp kk => h.sim E M _ σ I F H _ hd er rp fun y M1 v I1 H1 q rp1 s1 d1 => by
    split at q
    · rename_i C' fs e
      obtain ⟨rfl, d, hl, q⟩ := q
      obtain ⟨a, dx, fv, rfl, h1, h2⟩ := insAt rp1 d1 e
      obtain ⟨w, hw, rw_⟩ := (h2.look f).1 d hl
      exact ⟨a, C', dx, fv, w, rfl, h1, c, n, hw, kk d M1 w I1 H1 q rp1 s1 rw_⟩
    · exact q.elim⟩
theorem qs_fld (c : Cls X.K C) (n : NoAttr X.K C f) (ho : QE X o to dO) (hv : QE X value tv dv) (hs : swapsWith value (some (.Attribute o f pos')) pos.line X.env = pure false := by rfl) : QS X (.Assign [.Attribute o f pos'] value pos) (sFld X.K to tv f) (dSetF C f dO dv) :=
  ⟨ps_fld ho.pe hv.pe hs, fun De E M σ I F H Dv hd er rp eo => hv.sim E M _ σ I F H _ hd er rp fun y M1 v I1 H1 q rp1 s1 d1 => ho.sim E M1 _ σ I1 F H1 _ q (er.mono s1) rp1 fun z M2 u I2 H2 q2 rp2 s2 d2 => by
    cases z <;> first | exact q2.elim | skip
    rename_i a
    obtain rfl := d2.ref_inv
    obtain ⟨fs, hm, hl, q2⟩ := q2
    obtain ⟨_, dx, fv, h1, h2, h3⟩ := rp2.mem a _ hm
    exact ⟨a, C, dx, fv, rfl, h1, c, n, by rw [h3.len]; exact hl, eo.nx E _ σ I2 _ q2 ((er.mono s1).mono s2) (rp2.change hm ⟨dx, _, upd_same, h2, h3.put (d1.mono s2)⟩) (s1.trans s2)⟩⟩

/-! ### a class as a value; new instances -/
theorem qgc (hm : X.mg x = some (.ref C)) (hg : Gl X x := by rfl) (hdb : (x == ("__debug__" : Str)) = false := by decide) : QE X (.Name x pos) (tC (.ref C)) (dC (.ref C)) := qg hg hm rfl (fun _ _ => .ref C) hdb
/-- a new instance that is still from then on -/
def kFr (x : Addr) (k : DK) : DK := fun d M2 => d = .non ∧ match M2 x with
  | some (.ins C fs) => k (.ins C fs) (mdel M2 x)
  | _ => False
def dMake (C : Addr) (W : DW) (dds : List D) (da : DA) : DE := fun E M k => da E M fun ds M1 => ∀ x, M1 x = none → W (.ref x :: (ds ++ dds)) (mset M1 x (.ins C [])) (kFr x k)
/-- .. that may change -/
def dMakeM (C : Addr) (W : DW) (dds : List D) (da : DA) : DE := fun E M k => da E M fun ds M1 => ∀ x, M1 x = none → W (.ref x :: (ds ++ dds)) (mset M1 x (.ins C [])) fun d M2 => d = .non ∧ k (.ref x) M2
theorem se_makeM {n q : Nat} (ha : SA K q tA dA) (hn : q + dds.length + 1 = n) (hd : ∀ I, DRs K I dvs dds) : SE K (tMake C (spD K n W) dvs E0 tA) (dMakeM C W dds dA) := fun Ev M kk σ I F H Q hd' er rp kq =>
  ha Ev M _ σ I F H _ hd' er rp fun ds M1 vs I1 H1 hl q rp1 s1 d1 x dx hx hdx hne => by
    have s2 : Same I1 (upd I1 dx (.own x)) := same_new (rp1.freeI hdx)
    have rp2 := rp1.still hdx (.own x)
    have hx2 : (upd H1 dx (.own x)) x = none := by rw [upd_ne (Ne.symm hne)]; exact hx
    refine ⟨upd I1 dx (.own x), F, mset M1 x (.ins C []), .ref x :: (ds ++ dds), _, rp2.newO hx2 upd_same, .cons (.ref x) ((d1.mono s2).append (hd _)), by rw [List.length_cons, List.length_append, hl]; exact hn, q x (rp1.freeM hx), ?_⟩
    rintro d M' v I' H' ⟨rfl, a⟩ b c e
    exact ⟨e.non_inv, kq (.ref x) M' (.ref x) I' H' a b ((s1.trans s2).trans c) (.ref x)⟩
theorem se_make {n q : Nat} (ha : SA K q tA dA) (hn : q + dds.length + 1 = n) (hd : ∀ I, DRs K I dvs dds) : SE K (tMake C (spD K n W) dvs E0 tA) (dMake C W dds dA) := fun Ev M kk σ I F H Q hd' er rp kq =>
  ha Ev M _ σ I F H _ hd' er rp fun ds M1 vs I1 H1 hl q rp1 s1 d1 x dx hx hdx hne => by
    have s2 : Same I1 (upd I1 dx (.own x)) := same_new (rp1.freeI hdx)
    have rp2 := rp1.still hdx (.own x)
    have hx2 : (upd H1 dx (.own x)) x = none := by rw [upd_ne (Ne.symm hne)]; exact hx
    refine ⟨upd I1 dx (.own x), F, mset M1 x (.ins C []), .ref x :: (ds ++ dds), _, rp2.newO hx2 upd_same, .cons (.ref x) ((d1.mono s2).append (hd _)), by rw [List.length_cons, List.length_append, hl]; exact hn, q x (rp1.freeM hx), ?_⟩
    rintro d M' v I' H' ⟨rfl, a⟩ b c e
    refine ⟨e.non_inv, ?_⟩
    split at a
    · rename_i C' fs hm
      obtain ⟨I2, rp3, s3, r3⟩ := b.frzO hm
      exact kq _ _ (.ref x) I2 H' a rp3 (((s1.trans s2).trans c).trans s3) r3
    · exact a.elim
theorem qe_make (Mk_ : Mk X.K C fa) (Fk : FnOk X.prog X.w X.K X.mg X.base CX0 k fa fd ps (spD X.K ps.length W)) (hr : Room (k + 1) X.A) (hg : Gl X x) (hm : X.mg x = some (.ref C)) (hb : Binds X.K fd ps ds0) (hd : Vals dvs ds0)
    (hdd : ∀ K I, DRs K I dvs dds) (ha : QA X (e :: es) tA dA) (hn : (e :: es).length + dds.length + 1 = ps.length := by rfl) (hdb : (x == ("__debug__" : Str)) = false := by decide) (he : starEach (e :: es) X.env = (false, eval e X.env) :: starEach es X.env := by rfl) (hpl : (backTo pos (starEach es X.env)).any (·.1) = false := by rfl) :
    QE X (.Call (.Name x p) (e :: es) [] pos) (tMake C (spD X.K ps.length W) dvs E0 tA) (dMake C W dds dA) :=
  ⟨pe_make Mk_ Fk hr hg hm hb hd pass0 ha.pa hdb he hpl, se_make ha.sim hn (hdd _)⟩
theorem qe_makeM (Mk_ : Mk X.K C fa) (Fk : FnOk X.prog X.w X.K X.mg X.base CX0 k fa fd ps (spD X.K ps.length W)) (hr : Room (k + 1) X.A) (hg : Gl X x) (hm : X.mg x = some (.ref C)) (hb : Binds X.K fd ps ds0) (hd : Vals dvs ds0)
    (hdd : ∀ K I, DRs K I dvs dds) (ha : QA X (e :: es) tA dA) (hn : (e :: es).length + dds.length + 1 = ps.length := by rfl) (hdb : (x == ("__debug__" : Str)) = false := by decide) (he : starEach (e :: es) X.env = (false, eval e X.env) :: starEach es X.env := by rfl) (hpl : (backTo pos (starEach es X.env)).any (·.1) = false := by rfl) :
    QE X (.Call (.Name x p) (e :: es) [] pos) (tMake C (spD X.K ps.length W) dvs E0 tA) (dMakeM C W dds dA) :=
  ⟨pe_make Mk_ Fk hr hg hm hb hd pass0 ha.pa hdb he hpl, se_makeM ha.sim hn (hdd _)⟩
/-- a local name that holds the class, called -/
def tMakeV (i : Nat) (C : Addr) (sp : Sp) (dvs : List V) (t : TA) : TE := fun σ H Q => σ[i]? = some (some (.ref C)) ∧ tMake C sp dvs E0 t σ H Q
def dMakeV (i : Nat) (C : Addr) (W : DW) (dds : List D) (da : DA) : DE := fun E M k => nth E i = some (.ref C) ∧ dMake C W dds da E M k
theorem qe_makeV {i : Nat} (Mk_ : Mk X.K C fa) (Fk : FnOk X.prog X.w X.K X.mg X.base CX0 k fa fd ps (spD X.K ps.length W)) (hr : Room (k + 1) X.A) (hb : Binds X.K fd ps ds0) (hd : Vals dvs ds0)
    (hdd : ∀ K I, DRs K I dvs dds) (ha : QA X (e :: es) tA dA) (hN : X.N[i]? = some x := by rfl) (hv : Vis X.env.scope x := by first | exact Or.inl rfl | exact Or.inr (Or.inl rfl) | exact Or.inr (Or.inr rfl)) (hn : (e :: es).length + dds.length + 1 = ps.length := by rfl) (hdb : (x == ("__debug__" : Str)) = false := by decide)
    (hcd : (x == ("__classdict__" : Str)) = false := by decide) (he : starEach (e :: es) X.env = (false, eval e X.env) :: starEach es X.env := by rfl) (hpl : (backTo pos (starEach es X.env)).any (·.1) = false := by rfl) :
    QE X (.Call (.Name x p) (e :: es) [] pos) (tMakeV i C (spD X.K ps.length W) dvs tA) (dMakeV i C W dds dA) := by
  refine ⟨⟨fun pins s σ H Q I h => ?_⟩, fun Ev M kk σ I F H Q hd' er rp kq => ?_⟩
  · obtain ⟨hs, h⟩ := h
    refine wpAny_Call_Name_kw (thn ((pe_var (pos := p) hN hv hdb hcd).run pins s σ H (fun v H1 => v = .ref C ∧ H1 = H) I ⟨.ref C, hs, rfl, rfl⟩) fun u s1 ⟨v, H1, I1, r1, q1⟩ => ?_)
    obtain ⟨rfl, rfl⟩ := q1
    cases r1
    refine PySem.W.callWith_K (h₀ := X.base) I.ok.mod.kin Mk_.kp (thn (ha.pa.run pos pins s1 σ _ _ I1 h) fun us s2 ⟨vs, H2, I2, r, q⟩ => ⟨I2.kIn, ?_⟩) he hpl
    exact run_make Mk_ Fk hr hb hd pass0 I2 r q
  · obtain ⟨hs, hd'⟩ := hd'
    obtain ⟨v, hv, rv⟩ := er.at_ i _ hs
    obtain rfl := rv.ref_inv
    exact ⟨hv, se_make ha.sim hn (hdd _) Ev M kk σ I F H Q hd' er rp kq⟩

/-! ### methods, properties, classmethods -/
def dMeth (C : Addr) (m : Str) (W : DW) (dds : List D) (dO : DE) (da : DA) : DE := fun E M k => dO E M fun x M1 => match vo M1 x with
  | .ins C' fs => (C' = C ∧ fs.lookup m = none) ∧ da E M1 fun ds M2 => W (x :: (ds ++ dds)) M2 k
  | _ => False
theorem se_meth {n q : Nat} (ho : SE K to dO) (ha : SA K q tA dA) (hn : q + dds.length + 1 = n) (hd : ∀ I, DRs K I dvs dds) : SE K (tMeth C m (spD K n W) dvs E0 to tA) (dMeth C m W dds dO dA) := fun Ev M kk σ I F H Q hd' er rp kq =>
  ho Ev M _ σ I F H _ hd' er rp fun y M1 v I1 H1 q rp1 s1 d1 => by
    split at q
    · rename_i C' fs e
      obtain ⟨⟨rfl, hl⟩, q⟩ := q
      obtain ⟨a, dx, fv, rfl, h1, h2⟩ := insAt rp1 d1 e
      refine ⟨a, dx, fv, rfl, h1, (h2.look m).2 hl, ha Ev M1 _ σ I1 F H1 _ q (er.mono s1) rp1 fun ds M2 vs I2 H2 hlen q2 rp2 s2 d2 => ?_⟩
      exact ⟨I2, F, M2, y :: (ds ++ dds), kk, rp2, .cons (d1.mono s2) (d2.append (hd I2)), by rw [List.length_cons, List.length_append, hlen]; exact hn, q2, fun d M' v I' H' a b c e => kq d M' v I' H' a b ((s1.trans s2).trans c) e⟩
    · exact q.elim
theorem qe_meth (c : Cls X.K C) (hm : Meth X.K C m fa) (Fk : FnOk X.prog X.w X.K X.mg X.base CX0 k fa fd ps (spD X.K ps.length W)) (hr : Room k X.A) (hb : Binds X.K fd ps ds0) (hd : Vals dvs ds0) (hdd : ∀ K I, DRs K I dvs dds)
    (ho : QE X o to dO) (ha : QA X (e :: es) tA dA) (hn : (e :: es).length + dds.length + 1 = ps.length := by rfl) (hst : starEach (e :: es) X.env = (false, eval e X.env) :: starEach es X.env := by rfl) (hpl : (backTo pos (starEach es X.env)).any (·.1) = false := by rfl) {pl : Sem Bool}
    (ht : eval (.Call (.Attribute o m apos) (e :: es) [] pos) X.env = (do
      let ov ← eval o X.env
      standAt apos.atName
      let (f, first) ← holding [ov] (getMethod ov m pl)
      callWith pos f first (backTo pos (starEach (e :: es) X.env)) (backToKw pos (keywordEach [] X.env))) := by rfl) :
    QE X (.Call (.Attribute o m apos) (e :: es) [] pos) (tMeth C m (spD X.K ps.length W) dvs E0 to tA) (dMeth C m W dds dO dA) :=
  ⟨pe_meth ho.pe c hm Fk hr hb hd pass0 ha.pa hst hpl ht, se_meth ho.sim ha.sim hn (hdd _)⟩
def dProp (C : Addr) (W : DW) (de : DE) : DE := fun E M k => de E M fun x M1 => match vo M1 x with
  | .ins C' _ => C' = C ∧ W [x] M1 k
  | _ => False
theorem qe_prop {pa ga : Addr} (c : Cls X.K C) (hp : PropOf X.K C f pa ga) (Fk : FnOk X.prog X.w X.K X.mg X.base CX0 k ga fd ps (spD X.K ps.length W)) (hr : Room (k + 1) X.A) (hb : Binds X.K fd ps []) (h : QE X e te de)
    (hn : 1 = ps.length := by rfl) (hab : attributeBase e f X.env (eval e X.env) = eval e X.env := by rfl) : QE X (.Attribute e f pos) (tProp C (spD X.K ps.length W) [] E0 te) (dProp C W de) :=
  ⟨pe_prop h.pe c hp Fk hr hb .nil pass0 hab, fun E M kk σ I F H Q hd er rp kq => h.sim E M _ σ I F H _ hd er rp fun y M1 v I1 H1 q rp1 s1 d1 => by
    split at q
    · rename_i C' fs e
      obtain ⟨rfl, q⟩ := q
      obtain ⟨a, dx, fv, rfl, h1, h2⟩ := insAt rp1 d1 e
      exact ⟨a, dx, fv, rfl, h1, I1, F, M1, [y], kk, rp1, .cons d1 .nil, hn, q, fun d M' v I' H' a b c e => kq d M' v I' H' a b (s1.trans c) e⟩
    · exact q.elim⟩
def dCMeth (C : Addr) (W : DW) (dds : List D) (dO : DE) (da : DA) : DE := fun E M k => dO E M fun x M1 => match x with
  | .ref p => p = C ∧ da E M1 fun ds M2 => W (.ref C :: (ds ++ dds)) M2 k
  | _ => False
theorem qe_cmeth {pa ga : Addr} {mc : Value} (rd : ClX.CRead X.K C mc) (cm : ClX.CMet X.K C mc m pa ga) (Fk : FnOk X.prog X.w X.K X.mg X.base CX0 k ga fd ps (spD X.K ps.length W)) (hr : Room k X.A) (hb : Binds X.K fd ps ds0) (hd : Vals dvs ds0) (hdd : ∀ K I, DRs K I dvs dds)
    (ho : QE X o to dO) (ha : QA X (e :: es) tA dA) (hn : (e :: es).length + dds.length + 1 = ps.length := by rfl) (hst : starEach (e :: es) X.env = (false, eval e X.env) :: starEach es X.env := by rfl) (hpl : (backTo pos (starEach es X.env)).any (·.1) = false := by rfl) {pl : Sem Bool}
    (ht : eval (.Call (.Attribute o m apos) (e :: es) [] pos) X.env = (do
      let ov ← eval o X.env
      standAt apos.atName
      let (f, first) ← holding [ov] (getMethod ov m pl)
      callWith pos f first (backTo pos (starEach (e :: es) X.env)) (backToKw pos (keywordEach [] X.env))) := by rfl) :
    QE X (.Call (.Attribute o m apos) (e :: es) [] pos) (ClX.tCMeth C (fun vs H Q E => spD X.K ps.length W (vs ++ dvs) H Q E) E0 to tA) (dCMeth C W dds dO dA) :=
  ⟨ClX.pe_cmeth ho.pe rd cm (Fk.raw hb hd) hr pass0 ha.pa hst hpl ht, fun Ev M kk σ I F H Q hd' er rp kq => ho.sim Ev M _ σ I F H _ hd' er rp fun y M1 v I1 H1 q rp1 s1 d1 => by
    cases y <;> first | exact q.elim | skip
    obtain ⟨rfl, q⟩ := q
    refine ⟨d1.ref_inv, ha.sim Ev M1 _ σ I1 F H1 _ q (er.mono s1) rp1 fun ds M2 vs I2 H2 hlen q2 rp2 s2 d2 => ?_⟩
    exact ⟨I2, F, M2, .ref _ :: (ds ++ dds), kk, rp2, .cons (.ref _) (d2.append (hdd _ I2)), by rw [List.length_cons, List.length_append, hlen]; exact hn, q2, fun d M' v I' H' a b c e => kq d M' v I' H' a b ((s1.trans s2).trans c) e⟩⟩
end
end Qd
namespace Qd
open PySem PySem.Spec PyProof.Rows L2

/-! ### len of an object with its own __len__ -/
section
variable {X : Cx} {K : PySem.W.Frag} {C f : Addr} {k : Nat} {fd : FuncData} {ps : List Str} {W : DW} {sp : Sp}
def vLenO (C : Addr) (sp : Sp) : List V → Hp → VK → Prop := fun xs H Q => ∃ a dx fs, xs = [.ref a] ∧ H a = some (.ins C dx fs) ∧ sp [.ref a] H (fun v H' => ∃ n : Nat, v = .int n ∧ n ≤ 1000000 ∧ Q (.int n) H') E0
theorem call_lenO (hs : PySem.W.findIn X.K (.ref C) "__len__" = some (some (.ref f))) (hf : PySem.W.isFn X.K (.ref f) = true) (F : FnOk X.prog X.w X.K X.mg X.base CX0 k f fd ps sp) (hr : Room (k + 1) X.A) (hb : Binds X.K fd ps []) : CallR X (.builtin "len") (vLenO C sp) := by
  intro pins s σ H xs us Q I r h
  obtain ⟨a, dx, fs, rfl, ea, h⟩ := h
  obtain ⟨u, rfl, rx⟩ := vals1 r
  cases rx
  obtain ⟨mA, O, _, _, _, _⟩ := ins_get I.hok ea
  obtain ⟨od, J, _⟩ := O.look
  have hl : ([Value.ref a] ++ ([] : List Value)).length = ps.length := F.len _ _ _ _ h
  refine Calls.call_function_entry kind_len plain_len entry_len (args_len1 _) ?_
  unfold Builtin.«len»
  refine wpAny_bind (m := oneArg "len" _) (wpAny_pure ?_)
  refine wpAny_bind (m := callSpecial? (.ref a) (Str.ofString "__len__")) (PySem.W.special_fn I.kIn J hs (beq_iff_eq.mp hf) ?_)
  refine wpAny_call (codeAny_mono (F.run X.A.in1 X.stack s H ⟨[.ref a], []⟩ [.ref a] [.ref a] _ E0 hr.in1 I.env0.in1 (hb _ [.ref a] I.kIn hl) (.cons rfl .nil) h) fun z s' hq => ?_)
  cases z with
  | error er => exact hq.elim
  | ok fl =>
    cases fl with
    | next => exact False.elim hq
    | brk => exact False.elim hq
    | cont => exact False.elim hq
    | ret u =>
      obtain ⟨v, H', I3, rv, n, rfl, hn, q3⟩ := I.after hq
      obtain ⟨t, rfl⟩ := rv
      refine wpAny_bind (wpAny_holding (wpAny_pure ?_))
      refine wpAny_bind (wpAny_letGo ?_)
      show wpAny _ _ (if ((n : Nat) : Int) < 0 then _ else _) _ _ _
      rw [if_neg (by omega)]
      show wpAny _ _ (if ((n : Nat) : Int) ≥ 2 ^ 63 then _ else _) _ _ _
      rw [if_neg (by omega)]
      exact wpAny_bind (wpAny_mkInt (wpAny_pure ⟨_, rfl, ⟨.int (n : Nat), H', I3.tok _, ⟨_, rfl⟩, q3⟩⟩))
def bLenO (C : Addr) (W : DW) (as : List D) (M : Mem) (k : DK) : Prop := match as with
  | [x] => (match vo M x with
    | .ins C' _ => C' = C ∧ W [x] M fun d M' => ∃ n : Nat, d = .int n ∧ n ≤ 1000000 ∧ k (.int n) M'
    | _ => False)
  | _ => False
theorem qc_lenO (hs : PySem.W.findIn X.K (.ref C) "__len__" = some (some (.ref f))) (hf : PySem.W.isFn X.K (.ref f) = true) (F : FnOk X.prog X.w X.K X.mg X.base CX0 k f fd ps (spD X.K ps.length W)) (hr : Room (k + 1) X.A) (hb : Binds X.K fd ps []) (hn : 1 = ps.length := by rfl) :
    QC X (.builtin "len") (vLenO C (spD X.K ps.length W)) (bLenO C W) := ⟨call_lenO hs hf F hr hb, rns1 (fun v d M k I F H Q h r rp kk => by
  unfold bLenO at h
  dsimp only at h
  split at h
  · rename_i C' fs e
    obtain ⟨rfl, h⟩ := h
    obtain ⟨a, dx, fv, rfl, h1, h2⟩ := insAt rp r e
    refine ⟨a, dx, fv, rfl, h1, I, F, M, [d], _, rp, .cons r .nil, hn, h, ?_⟩
    rintro d' M' v I' H' ⟨n, rfl, hn, a⟩ b c e
    exact ⟨n, e.int_inv, hn, kk _ M' _ I' H' a b c (.int _)⟩
  · exact h.elim) fun as M k h => one_of (α := Nat) h⟩

/-! ### == by an own __eq__, where it says True -/
theorem insDR {I F H : Hp} {M : Mem} {a : D} {x : V} {fs : List (Str × D)} (rp : Rep K I F M H) (r : DR K I x a) (h : vo M a = .ins C fs) : ∃ p dx fv, x = .ref p ∧ H p = some (.ins C dx fv) ∧ DR K H (.ref p) (.ins C fs) := by
  obtain ⟨p, dx, fv, rfl, h1, h2⟩ := insAt rp r h
  have hdx : H dx = some (.own p) := by
    rcases vo_eq h with e | ⟨q, C', gs, rfl, hm, e⟩
    · subst e
      cases r with
      | ins g1 g2 g3 g4 g5 =>
        have := rp.sub _ _ g1
        rw [h1] at this
        cases this
        exact rp.sub _ _ g2
    · cases e
      have e := r.ref_inv
      cases e
      obtain ⟨_, dx', fv', g1, g2, _⟩ := rp.mem _ _ hm
      rw [h1] at g1
      cases g1
      exact rp.sub _ _ g2
  exact ⟨p, dx, fv, rfl, h1, .ins h1 hdx h2.len (fun i x d a b => (h2.at_ i x d a b).1) fun i x d a b => ((h2.at_ i x d a b).2).mono rp.sub⟩
def rlEq (K : PySem.W.Frag) (C : Addr) (W : DW) : Addr → Addr → Hp → Prop := fun a b H => ∃ fs gs, DR K H (.ref a) (.ins C fs) ∧ DR K H (.ref b) (.ins C gs) ∧ W [.ins C fs, .ins C gs] (fun _ => none) fun d _ => d = .bl true
def oEqO (C : Addr) (W : DW) (x y : D) (M : Mem) (k : DK) : Prop := match vo M x, vo M y with
  | .ins C1 fs, .ins C2 gs => (C1 = C ∧ C2 = C) ∧ (W [.ins C1 fs, .ins C2 gs] (fun _ => none) fun d _ => d = .bl true) ∧ k (.bl true) M
  | _, _ => False
theorem qo_eqO {n : Nat} (hs : PySem.W.findIn X.K (.ref C) "__eq__" = some (some (.ref f))) (hf : PySem.W.isFn X.K (.ref f) = true) (Fk : FnOk X.prog X.w X.K X.mg X.base CX0 n f fd ps (spD X.K ps.length W)) (hr : Room n X.A) (hb : Binds X.K fd ps []) (hn : 2 = ps.length := by rfl) :
    QO X (compareOp .Eq) (rEqG (DIns C (rlEq X.K C W))) (oEqO C W) := by
  have F2 : FnOk X.prog X.w X.K X.mg X.base CX0 n f fd ps (spEq (rlEq X.K C W)) := Fk.imp fun vs H Q E z => by
    obtain ⟨a, b, rfl, ⟨fs, gs, h1, h2, hw⟩, hq⟩ := z
    refine ⟨H, fun _ => none, fun _ => none, [.ins C fs, .ins C gs], _, ⟨Same.refl H, fun b o e => (by cases e), fun b o e => (by cases e), fun b o e => (by cases e)⟩, .cons h1 (.cons h2 .nil), hn, hw, ?_⟩
    rintro d M' v I' H' e rp s r
    subst e
    obtain rfl := r.bl_inv
    exact hq H' fun a o e => rp.sub _ _ (s _ _ e)
  refine ⟨op_eqG (rcG_ins F2 hs hf hb pass0) hr, fun x y a b M k I F H Q h rx ry rp kk => ?_⟩
  unfold oEqO at h
  split at h
  · rename_i C1 fs C2 gs e1 e2
    obtain ⟨⟨rfl, rfl⟩, hw, h⟩ := h
    obtain ⟨p, dx, fv, rfl, h1, d1⟩ := insDR rp rx e1
    obtain ⟨q, dy, gv, rfl, h2, d2⟩ := insDR rp ry e2
    exact ⟨⟨p, q, dx, dy, fv, gv, rfl, rfl, h1, h2, fs, gs, d1, d2, hw⟩, fun H' e => kk _ M _ I H' h (rp.ext fun b o z => e b o z) (Same.refl I) (.bl _)⟩
  · exact h.elim

/-! ### isinstance of an own class, where it says True -/
def bIsC (C : Addr) (as : List D) (M : Mem) (k : DK) : Prop := match as with
  | [x, .ref p] => p = C ∧ (match vo M x with
    | .ins C' _ => C' = C ∧ k (.bl true) M
    | _ => False)
  | _ => False
theorem qc_isC (c : C8.InsC X.K C) : QC X (.builtin "isinstance") (fun xs H Q => ∃ a dx fs, xs = [.ref a, .ref C] ∧ H a = some (.ins C dx fs) ∧ Q (.bl true) H) (bIsC C) := ⟨C8.call_isC c, fun xs as M k I F H Q h rs rp kk => by
  unfold bIsC at h
  split at h
  · rename_i x p
    obtain ⟨rfl, h⟩ := h
    obtain ⟨v, u, rfl, r1, r2⟩ := drs2 rs
    obtain rfl := r2.ref_inv
    split at h
    · rename_i C' fs e
      obtain ⟨rfl, h⟩ := h
      obtain ⟨a, dx, fv, rfl, h1, h2⟩ := insAt rp r1 e
      exact ⟨a, dx, fv, rfl, h1, kk _ M _ I H h rp (Same.refl I) (.bl _)⟩
    · exact h.elim
  · exact h.elim⟩

/-! ### split; a tuple some times -/
def mSplitB (z : Str) (y : D) (M : Mem) (k : DK) : Prop := match y with
  | .str a => ((a.length == 0) = false ∧ z.length ≤ 1000000 ∧ (Txt.split z a).length ≤ 1000000 ∧ ∀ s ∈ Txt.split z a, s.length ≤ 1000000) ∧ k (.lst ((Txt.split z a).map D.str)) M
  | _ => False
theorem rm_split : RM1 K vSplit mSplitB := fun z y b M k I F H Q h hz r rp kk => by
  cases b <;> first | exact h.elim | skip
  obtain ⟨rfl, _⟩ := r.str_inv
  obtain ⟨⟨h1, h2, h3, h4⟩, h⟩ := h
  refine ⟨z, _, rfl, rfl, h1, by rw [sizeLine_eq]; omega, fun p hp => ?_⟩
  refine kk _ M _ _ _ h (rp.still hp _) (same_new (rp.freeI hp)) (.newL (rp.freeI hp) ?_ (DRs.ofMap fun s hs => .str s (line_le (h4 s hs))))
  rw [List.length_map]
  exact line_le h3
theorem qe_split {apos pos : Pos} {o e : Expr} {to ta : TE} {dO da : DE} (ho : QE X o to dO) (ha : QE X e ta da) (hs : starEach [e] X.env = [(false, eval e X.env)] := by rfl) (hbase : attributeBase o "split" X.env (eval o X.env) = eval o X.env := by rfl) (hline : (apos.endLine == pos.line) = true := by rfl) :
    QE X (.Call (.Attribute o "split" apos) [e] [] pos) (tM1 vSplit to ta) (dM1 mSplitB dO da) := qe_m1 F.slot_str_split F.type_str_split mt_split rm_split ho ha hs hbase hline
/-- ints, lists, tuples some times -/
def oMulT (x y : D) (M : Mem) (k : DK) : Prop := match x, y with
  | .tup a, .int j => (2 ≤ j ∧ j ≤ 1000 ∧ a ≠ [] ∧ a.length ≤ 1000) ∧ k (.tup (List.replicate j.toNat a).flatten) M
  | _, _ => False
theorem qo_mulT : QO X (binaryOp .Mult) (rRepT X.K) oMulT := ⟨op_repT, fun x y a b M k I F H Q h rx ry rp kk => by
  unfold oMulT at h
  split at h
  · rename_i ds j
    obtain rfl := ry.int_inv
    obtain ⟨l, xs, rfl, h1, h2, h3⟩ := rx.tup_inv
    obtain ⟨⟨g1, g2, g3, g4⟩, h⟩ := h
    refine ⟨l, _, xs, rfl, rfl, Same.sqt rp.sub h1, fun e => g3 ?_, g1, g2, by rw [h3.len]; exact g4, fun p hp => ?_⟩
    · have := h3.len
      rw [e] at this
      cases ds with
      | nil => rfl
      | cons _ _ => simp at this
    · refine kk _ M _ _ _ h (rp.still hp _) (same_new (rp.freeI hp)) (.newT (rp.freeI hp) ?_ (h3.rep _))
      rw [rep_len, h3.len]
      have hj : j.toNat ≤ 1000 := by omega
      exact line_le (Nat.le_trans (Nat.mul_le_mul g4 hj) (show 1000 * 1000 ≤ 1000000 by decide))
  · exact h.elim⟩
end
end Qd
namespace Qd
open PySem PySem.Spec PyProof.Rows L2

theorem vo_ins {M : Mem} {C : Addr} {fs : List (Str × D)} : vo M (.ins C fs) = .ins C fs := rfl
theorem mul_t {M : Mem} {k : DK} {ds : List D} {j : Int} : oMulT (.tup ds) (.int j) M k = ((2 ≤ j ∧ j ≤ 1000 ∧ ds ≠ [] ∧ ds.length ≤ 1000) ∧ k (.tup (List.replicate j.toNat ds).flatten) M) := rfl
theorem putD_len (f : Str) (v : D) : ∀ fs : List (Str × D), (putD f v fs).length ≤ fs.length + 1
  | [] => Nat.le_refl _
  | (g, x) :: r => by
    have ih := putD_len f v r
    unfold putD
    split
    · simp
    · rw [List.length_cons, List.length_cons]; omega
/-- small data, item by item -/
inductive LtS (n : Nat) : List D → Nat → Prop
  | nil : LtS n [] 0
  | cons {d : D} {r : List D} {w W : Nat} : Lt n w d → LtS n r W → LtS n (d :: r) (w + 1 + W)
theorem LtS.all {n : Nat} {ds : List D} {W : Nat} (h : LtS n ds W) : okDs n ds = true ∧ PyData.showableAll (toPs ds) = true ∧ PyData.leavesShortAll 64 (toPs ds) = true ∧ PyData.weightAll (toPs ds) ≤ W := by
  induction h with
  | nil => exact ⟨by cases n <;> rfl, rfl, rfl, Nat.zero_le _⟩
  | @cons d r w W g _ ih =>
    obtain ⟨h1, h2, h3, h4⟩ := ih
    refine ⟨?_, ?_, ?_, ?_⟩
    · show (okD n d && okDs n r) = true
      rw [g.ok, h1]; rfl
    · show (PyData.showable (toP d) && PyData.showableAll (toPs r)) = true
      rw [g.sh, h2]; rfl
    · show (PyData.leavesShort 64 (toP d) && PyData.leavesShortAll 64 (toPs r)) = true
      rw [g.lf, h3]; rfl
    · show (toP d).weight + 1 + PyData.weightAll (toPs r) ≤ w + 1 + W
      have := g.wt
      omega
theorem LtS.tup {n : Nat} {ds : List D} {W : Nat} (h : LtS n ds W) : Lt (n + 1) W (.tup ds) := by
  obtain ⟨h1, h2, h3, h4⟩ := h.all
  exact ⟨h1, h2, h3, h4⟩
theorem LtS.lst {n : Nat} {ds : List D} {W : Nat} (h : LtS n ds W) : Lt (n + 1) W (.lst ds) := by
  obtain ⟨h1, h2, h3, h4⟩ := h.all
  exact ⟨h1, h2, h3, h4⟩
/-! ### what was there stays, the purse at p aside -/
def Pres (p : Addr) (M M' : Mem) : Prop := ∀ q o, q ≠ p → M q = some o → M' q = some o
theorem Pres.refl {p : Addr} {M : Mem} : Pres p M M := fun _ _ _ h => h
theorem Pres.trans {p : Addr} {M M1 M2 : Mem} (a : Pres p M M1) (b : Pres p M1 M2) : Pres p M M2 := fun q o h e => b q o h (a q o h e)
theorem Pres.coin {p : Addr} {M M1 M2 : Mem} (a : Pres p M M1) (h : ∀ q, q ≠ p → M2 q = M1 q) : Pres p M M2 := fun q o hq e => (h q hq).trans (a q o hq e)
theorem Pres.off {p s : Addr} {M M1 : Mem} (a : Pres p M M1) (hs : s ≠ p) (h : M1 s = none) : M s = none := by
  cases e : M s with
  | none => rfl
  | some o => rw [a s o hs e] at h; cases h
theorem Pres.set {p s : Addr} {M M1 : Mem} {u : MO} (a : Pres p M M1) (hs : M s = none) : Pres p M (mset M1 s u) := fun q o hq e => by
  rw [mset_ne (fun z => by subst z; rw [hs] at e; cases e)]
  exact a q o hq e
theorem Pur.ne {M : Mem} {p s : Addr} {N : Nat} (h : Pur M p N) (hs : M s = none) : s ≠ p := fun e => by
  obtain ⟨a, b, c, hM, _⟩ := h
  rw [e, hM] at hs
  cases hs
theorem Pur.set {M : Mem} {p s : Addr} {N : Nat} {u : MO} (h : Pur M p N) (hs : s ≠ p) : Pur (mset M s u) p N := by
  obtain ⟨a, b, c, hM, r⟩ := h
  exact ⟨a, b, c, by rw [mset_ne (Ne.symm hs)]; exact hM, r⟩
theorem kit_self {K : PySem.W.Frag} {C : Addr} : PySem.W.kitOne K (.ref C) (.ref C) = some true := by
  unfold PySem.W.kitOne
  exact if_pos (beq_self_eq_true _)
/-! ### methods that may be called -/
structure CalF (P : Program) (w : World) (K : PySem.W.Frag) (mg : Str → Option Value) (base : Heap) (k : Nat) (fact : Addr → Addr → Prop) (ps : List Str) (W : DW) where
  f : Addr
  q : Addr
  fd : FuncData
  ok : FnOk P w K mg base CX0 k f fd ps (spD K ps.length W)
  fk : fact f q
  bd : Binds K fd ps []
abbrev FInit (K : PySem.W.Frag) (C : Addr) : Addr → Addr → Prop := fun f _ => Mk K C f
abbrev FSpec (K : PySem.W.Frag) (C : Addr) (n : Str) : Addr → Addr → Prop := fun f _ => PySem.W.findIn K (.ref C) n = some (some (.ref f)) ∧ PySem.W.isFn K (.ref f) = true
abbrev FProp (K : PySem.W.Frag) (C : Addr) (x : Str) : Addr → Addr → Prop := fun g p => PropOf K C x p g
abbrev FCls (K : PySem.W.Frag) (C : Addr) (m : Str) : Addr → Addr → Prop := fun g p => ClX.CMet K C (.type "type") m p g
abbrev FMeth (K : PySem.W.Frag) (C : Addr) (m : Str) : Addr → Addr → Prop := fun f _ => Meth K C m f
section
variable {P : Program} {w : World} {K : PySem.W.Frag} {mg : Str → Option Value} {base : Heap}
/-- a def with defaults -/
theorem fnDd {x qual : Str} {st : Stmt} {f : Addr} {fd : FuncData} {N ps : List Str} {k : Nat} {W : DW} {dvs : List V} {kws : List (Str × V)} (Fn : FunD K x qual (defArgs st) (defBody st) (defScope st) dvs kws f fd) (S : FnScope N ps (defScope st))
    (hb : ∀ (cdv : Value) (A : Around) (outer : List Env) (s : Shared) (H : Hp) (E : XK), Room k (A.deeper (envOfC qual (defScope st) s.heap.objs.size f cdv)) →
      ∃ ts ds, QSs (cxOf CX0 P w K mg base N qual (defScope st) f cdv A outer s H E).nox (defBody st) ts ds ∧ ∀ as M kk, as.length = ps.length → W as M kk → ds { nx := fun _ M => lets kk .non M, rt := lets kk } (estart N as) M) :
    FnOk P w K mg base CX0 (k + 1) f fd ps (spD K ps.length W) := by
  refine Fn.ok S (fun vs H Q E h => ?_) (fun cdv A outer s H vs Q E hr h => ?_)
  · obtain ⟨I, F, M, ds, kk, rp, r, hl, _⟩ := h
    rw [r.len, hl]
  · obtain ⟨I, F, M, as, kk, rp, r, hl, hw, hq⟩ := h
    obtain ⟨ts, ds, hS, hD⟩ := hb cdv A outer s H E hr
    have hq2 := lets_end hq
    refine ⟨ts, hS.pss.nox, hS.sim _ _ M _ I F H _ (hD as M kk hl hw) (er_start r) rp ⟨?_, ?_, ?_, ?_⟩⟩
    · exact fun E' M' σ' I' H' a b c d => hq2 .non M' .non I' H' a c d .non
    · exact fun d M' v I' H' a b c e => hq2 d M' v I' H' a b c e
    · exact fun E' M' σ' I' H' a b c d => a.elim
    · exact fun E' M' σ' I' H' a b c d => a.elim
/-- all parameters of a def with n defaults are given -/
theorem bindsD {x qual : Str} {st : Stmt} {f : Addr} {fd : FuncData} {ps : List Str} {dvs : List V} (F : FunD K x qual (defArgs st) (defBody st) (defScope st) dvs [] f fd) (hd : dvs ≠ [])
    (h : ∀ (T : Addr) (kV doc pm : Value) (an : Option Addr) (cdv ct : Value) (us its : List Value), us.length = ps.length → its.length = dvs.length →
      ∃ k, bindArgs (PySem.W.fnOf x qual (defArgs st) (defBody st) (defScope st) (.ref T) kV doc pm an cdv ct) ⟨us, []⟩ = seqItems? (.ref T) >>= k ∧ k (some its.toArray) = pure (ps.zip us)) : Binds K fd ps [] := by
  obtain ⟨ds, h1, h2⟩ := F.binds1 (ps := ps) ps.length dvs.length hd (by rw [Nat.sub_self, Nat.add_zero]) fun T kV doc pm an cdv ct us its hu hi => by
    obtain ⟨k, e1, e2⟩ := h T kV doc pm an cdv ct us its hu hi
    exact ⟨k, e1, by rw [e2, ← hi, List.drop_length, List.append_nil]⟩
  rw [List.drop_length] at h1
  cases h1
  exact h2
theorem funD_mk {x qual : Str} {st : Stmt} {f Td : Addr} {oc : Value} {od an : Option Addr} {osl slT : Array (Option Value)} {kV doc pm cdv ct cT : Value} {dT : Option Addr} {its : List Value} {nT : Nat} {dvs : List V}
    (l : K.lookup f = some ⟨oc, od, .func (PySem.W.fnOf x qual (defArgs st) (defBody st) (defScope st) (.ref Td) kV doc pm an cdv ct), osl⟩) (c : PySem.W.codeIn K cdv qual = true) (k : PySem.W.keepIn K (.ref f) = true)
    (lT : K.lookup Td = some ⟨cT, dT, .seq its.toArray nT, slT⟩) (hv : Vals dvs its) (hn : dvs ≠ []) : FunD K x qual (defArgs st) (defBody st) (defScope st) dvs [] f (PySem.W.fnOf x qual (defArgs st) (defBody st) (defScope st) (.ref Td) kV doc pm an cdv ct) :=
  ⟨⟨oc, od, _, kV, doc, pm, an, cdv, ct, osl, rfl, l, c, .inr ⟨hn, Td, _, its, nT, rfl, lT, rfl, hv⟩, .inl rfl⟩, k⟩
end
end Qd
local macro_rules | `(tactic| walk_at "dw") => `(tactic| simp only [Qd.dSeq, Qd.dNext, Qd.dBreak, Qd.dCont, Qd.dDrop, Qd.dRet, Qd.dRetN, Qd.dIfS, Qd.dNever, Qd.dAsg, Qd.dPar, Qd.dgName, Qd.dgNil, Qd.dgCons, Qd.dgTup, Qd.dVar, Qd.dC, Qd.dOp, Qd.dUn, Qd.dTest, Qd.dAnd, Qd.dOr, Qd.dNot, Qd.dAndV, Qd.dOrV, Qd.dNotV, Qd.dIf, Qd.dNil, Qd.dCons, Qd.dTup, Qd.dLst, Qd.dLstM, Qd.dChain, Qd.dCB, Qd.dYes, Qd.dCall, Qd.dCallP, Qd.dSub, Qd.dApp, Qd.dM1, Qd.dSl, Qd.dRev, Qd.dNoPart, Qd.dPart, Qd.dRg1, Qd.dRg2, Qd.dRg1M,
  Qd.nth, Qd.est, Qd.ewipe, Qd.estart, List.map, List.replicate, List.length_cons, List.length_nil, List.cons_append, List.nil_append, List.append_nil, Nat.reduceAdd, Nat.reduceSub, Nat.zero_add, Nat.reduceEqDiff,
  Qd.bIsi, Qd.pick, List.filterMap_cons, List.filterMap_nil, List.getElem?_cons_zero, List.getElem?_cons_succ, Qd.vwn, Qd.vwb, Qd.vwi, Qd.vws, Qd.vwl, Qd.vwt, Qd.vwsc, Qd.tyD, Qd.isT, ne_eq, not_false_eq_true, not_true_eq_false, true_and, and_true, or_true, true_or, false_or, or_false, false_and, and_false, if_true, if_false, Bool.not_true, Bool.not_false, Bool.false_eq_true, ↓reduceIte, String.reduceEq, String.reduceBEq, String.reduceNe, beq_self_eq_true, Bool.or_false, Bool.or_true, Bool.true_or, Bool.false_or, Bool.and_true, Bool.true_and, Bool.and_false, Bool.false_and, decide_true, decide_false, Bool.not_not, Bool.not_eq_true, reduceCtorEq, Qd.W_coin, Qd.W_purse, Int.reduceToNat, Int.reducePow, Int.reduceAdd, Int.reduceSub, Int.reduceMul, Int.reduceNeg, Int.reduceLT, Int.reduceLE, Int.reduceEq, Int.reduceGT, Int.reduceGE, gt_iff_lt, ge_iff_le, Qd.add_i, Qd.add_s, Qd.add_l, Qd.add_t, Qd.sub_i, Qd.mul_i, Qd.mul_l, Qd.div_i, Qd.mod_i, Qd.pow_i, Qd.neg_i, Qd.cmp_i, Qd.is_n, Qd.isn_n, Qd.isn_i, Qd.isn_b, Qd.isn_s, Qd.isn_l, Qd.isn_t, Qd.isn_r, Qd.eq_i, Qd.eq_s, Qd.eq_b, Qd.eq_l, Qd.eq_t, Qd.in_l, Qd.in_t, Qd.in_s, Qd.ix_l, Qd.ix_t, Qd.ix_c, Qd.ix_s, Qd.sl_l, Qd.sl_t, Qd.sl_s, Qd.len_l, Qd.len_t, Qd.len_c, Qd.len_s, Qd.tup_l, Qd.tup_t, Qd.lst_l, Qd.lst_t, Qd.abs_i, Qd.max_i, Qd.min_i, eq_self, List.flatten_cons, List.flatten_nil, Qd.dFld, Qd.dSetF, Qd.dProp, Qd.dMeth, Qd.dCMeth, Qd.dMake, Qd.dMakeM, Qd.dMakeV, Qd.bIsC, Qd.bLenO, Qd.oEqO, Qd.dgStar, Qd.vo_ins, Qd.mul_t, Qd.mSplitB, Qd.bStr, Qd.mJoin])

namespace QLaw
open PySem PySem.Spec PyProof.Rows L2 Qd
def topS (i : Nat) : Stmt := PySem.Challenge.pw_checkdigits_k55_weights_written.main.body.getD i (.Pass ⟨0, 0, 0, 0⟩)
abbrev s_is_integer : Stmt := topS 13
theorem sc_is_integer : FnScope ["value", "low", "high"] ["value", "low", "high"] (defScope s_is_integer) := ⟨rfl, rfl, rfl, by decide +kernel, rfl, by decide +kernel, by decide +kernel⟩
abbrev s_is_row : Stmt := topS 14
theorem sc_is_row : FnScope ["value", "length", "modulus", "x"] ["value", "length", "modulus"] (defScope s_is_row) := ⟨rfl, rfl, rfl, by decide +kernel, rfl, by decide +kernel, by decide +kernel⟩
abbrev s_are_rows : Stmt := topS 15
theorem sc_are_rows : FnScope ["value", "modulus", "length", "row"] ["value", "modulus"] (defScope s_are_rows) := ⟨rfl, rfl, rfl, by decide +kernel, rfl, by decide +kernel, by decide +kernel⟩
abbrev s_require_base : Stmt := topS 16
theorem sc_require_base : FnScope ["value"] ["value"] (defScope s_require_base) := ⟨rfl, rfl, rfl, by decide +kernel, rfl, by decide +kernel, by decide +kernel⟩
abbrev s_require_modulus : Stmt := topS 17
theorem sc_require_modulus : FnScope ["value"] ["value"] (defScope s_require_modulus) := ⟨rfl, rfl, rfl, by decide +kernel, rfl, by decide +kernel, by decide +kernel⟩
abbrev s_require_weights : Stmt := topS 18
theorem sc_require_weights : FnScope ["value", "weight"] ["value"] (defScope s_require_weights) := ⟨rfl, rfl, rfl, by decide +kernel, rfl, by decide +kernel, by decide +kernel⟩
abbrev s_require_remainder : Stmt := topS 19
theorem sc_require_remainder : FnScope ["value", "modulus"] ["value", "modulus"] (defScope s_require_remainder) := ⟨rfl, rfl, rfl, by decide +kernel, rfl, by decide +kernel, by decide +kernel⟩
abbrev s_weighted_rows : Stmt := topS 20
theorem sc_weighted_rows : FnScope ["base", "modulus", "weights", "weight", "digit"] ["base", "modulus", "weights"] (defScope s_weighted_rows) := ⟨rfl, rfl, rfl, by decide +kernel, rfl, by decide +kernel, by decide +kernel⟩
abbrev s_Rule___init__ : Stmt := inClass (topS 21) 1
theorem sc_Rule___init__ : FnScope ["self", "modulus", "rows", "remainder"] ["self", "modulus", "rows", "remainder"] (defScope s_Rule___init__) := ⟨rfl, rfl, rfl, by decide +kernel, rfl, by decide +kernel, by decide +kernel⟩
abbrev s_Rule_weighted : Stmt := inClass (topS 21) 2
theorem sc_Rule_weighted : FnScope ["cls", "base", "modulus", "weights", "remainder"] ["cls", "base", "modulus", "weights", "remainder"] (defScope s_Rule_weighted) := ⟨rfl, rfl, rfl, by decide +kernel, rfl, by decide +kernel, by decide +kernel⟩
abbrev s_Rule_modulus : Stmt := inClass (topS 21) 3
theorem sc_Rule_modulus : FnScope ["self"] ["self"] (defScope s_Rule_modulus) := ⟨rfl, rfl, rfl, by decide +kernel, rfl, by decide +kernel, by decide +kernel⟩
abbrev s_Rule_rows : Stmt := inClass (topS 21) 4
theorem sc_Rule_rows : FnScope ["self"] ["self"] (defScope s_Rule_rows) := ⟨rfl, rfl, rfl, by decide +kernel, rfl, by decide +kernel, by decide +kernel⟩
abbrev s_Rule_remainder : Stmt := inClass (topS 21) 5
theorem sc_Rule_remainder : FnScope ["self"] ["self"] (defScope s_Rule_remainder) := ⟨rfl, rfl, rfl, by decide +kernel, rfl, by decide +kernel, by decide +kernel⟩
abbrev s_Rule_base : Stmt := inClass (topS 21) 6
theorem sc_Rule_base : FnScope ["self"] ["self"] (defScope s_Rule_base) := ⟨rfl, rfl, rfl, by decide +kernel, rfl, by decide +kernel, by decide +kernel⟩
abbrev s_Rule___len__ : Stmt := inClass (topS 21) 7
theorem sc_Rule___len__ : FnScope ["self"] ["self"] (defScope s_Rule___len__) := ⟨rfl, rfl, rfl, by decide +kernel, rfl, by decide +kernel, by decide +kernel⟩
abbrev s_Rule___eq__ : Stmt := inClass (topS 21) 11
theorem sc_Rule___eq__ : FnScope ["self", "other"] ["self", "other"] (defScope s_Rule___eq__) := ⟨rfl, rfl, rfl, by decide +kernel, rfl, by decide +kernel, by decide +kernel⟩
abbrev s_number_in : Stmt := topS 29
theorem sc_number_in : FnScope ["word", "most", "sign"] ["word", "most"] (defScope s_number_in) := ⟨rfl, rfl, rfl, by decide +kernel, rfl, by decide +kernel, by decide +kernel⟩
abbrev s_read_weights : Stmt := topS 30
theorem sc_read_weights : FnScope ["text", "found", "index", "word", "number", "low", "high"] ["text"] (defScope s_read_weights) := ⟨rfl, rfl, rfl, by decide +kernel, rfl, by decide +kernel, by decide +kernel⟩
abbrev s_rule_of_numbers : Stmt := topS 31
theorem sc_rule_of_numbers : FnScope ["numbers", "base", "modulus", "remainder", "weights"] ["numbers"] (defScope s_rule_of_numbers) := ⟨rfl, rfl, rfl, by decide +kernel, rfl, by decide +kernel, by decide +kernel⟩
abbrev s_format_weights : Stmt := topS 32
theorem sc_format_weights : FnScope ["base", "modulus", "weights", "remainder", "numbers", "weight", "number"] ["base", "modulus", "weights", "remainder"] (defScope s_format_weights) := ⟨rfl, rfl, rfl, by decide +kernel, rfl, by decide +kernel, by decide +kernel⟩
abbrev s_parse_weights : Stmt := topS 33
theorem sc_parse_weights : FnScope ["text", "numbers", "fault"] ["text"] (defScope s_parse_weights) := ⟨rfl, rfl, rfl, by decide +kernel, rfl, by decide +kernel, by decide +kernel⟩
abbrev s__law_purse : Stmt := topS 35
theorem sc__law_purse : FnScope ["script", "k", "cell"] ["script", "k"] (defScope s__law_purse) := ⟨rfl, rfl, rfl, by decide +kernel, rfl, by decide +kernel, by decide +kernel⟩
abbrev s__law_coin : Stmt := topS 36
theorem sc__law_coin : FnScope ["purse", "many", "digit", "mixed"] ["purse", "many"] (defScope s__law_coin) := ⟨rfl, rfl, rfl, by decide +kernel, rfl, by decide +kernel, by decide +kernel⟩
abbrev s__law_numbers : Stmt := topS 37
theorem sc__law_numbers : FnScope ["purse", "wide", "most", "found", "turn", "some"] ["purse"] (defScope s__law_numbers) := ⟨rfl, rfl, rfl, by decide +kernel, rfl, by decide +kernel, by decide +kernel⟩
abbrev s__law_page : Stmt := topS 38
theorem sc__law_page : FnScope ["numbers", "wide", "most", "loads", "wanted_here", "parts", "load", "part"] ["numbers"] (defScope s__law_page) := ⟨rfl, rfl, rfl, by decide +kernel, rfl, by decide +kernel, by decide +kernel⟩
abbrev s__law_lines : Stmt := topS 39
theorem sc__law_lines : FnScope ["numbers", "wide", "most", "loads", "wanted_here", "found", "load", "digit"] ["numbers"] (defScope s__law_lines) := ⟨rfl, rfl, rfl, by decide +kernel, rfl, by decide +kernel, by decide +kernel⟩
abbrev s__law_right : Stmt := topS 40
theorem sc__law_right : FnScope ["numbers", "wide", "most", "loads", "wanted_here", "page", "due", "kept", "told", "a", "b", "c", "d", "frame", "found", "other"] ["numbers"] (defScope s__law_right) := ⟨rfl, rfl, rfl, by decide +kernel, rfl, by decide +kernel, by decide +kernel⟩
abbrev s_law : Stmt := topS 41
theorem sc_law : FnScope ["script", "k", "purse", "turn"] ["script"] (defScope s_law) := ⟨rfl, rfl, rfl, by decide +kernel, rfl, by decide +kernel, by decide +kernel⟩
structure Txt (mg : Str → Option Value) : Prop where
  b_isinstance : mg "isinstance" = none
  b_int : mg "int" = none
  b_bool : mg "bool" = none
  b_tuple : mg "tuple" = none
  b_len : mg "len" = none
  b_all : mg "all" = none
  b_range : mg "range" = none
  b_enumerate : mg "enumerate" = none
  b_str : mg "str" = none
  b_max : mg "max" = none
  b_abs : mg "abs" = none
  b_repr : mg "repr" = none
  b_min : mg "min" = none
  c_MOST_PLACES : ∃ t, mg "MOST_PLACES" = some (.int 30 t)
  c_GREATEST_BASE : ∃ t, mg "GREATEST_BASE" = some (.int 36 t)
  c_GREATEST_MODULUS : ∃ t, mg "GREATEST_MODULUS" = some (.int 200 t)
  c_FIGURES : ∃ t, mg "FIGURES" = some (.str "0123456789" t)
  c_MOST_FIGURES : ∃ t, mg "MOST_FIGURES" = some (.int 3 t)
  c_HEAD : ∃ t, mg "HEAD" = some (.int 3 t)
structure Cf_Rule (K : PySem.W.Frag) (mg : Str → Option Value) (C : Addr) : Prop where
  cl : Cls K C
  mg : mg "Rule" = some (.ref C)
  ic : C8.InsC K C
  rd : ClX.CRead K C (.type "type")
  n_divisor : NoAttr K C "divisor"
  n_lines : NoAttr K C "lines"
  n_wanted : NoAttr K C "wanted"

/-! ### promises -/
abbrev FIG : Str := "0123456789"
def loB (lo : D) (i : Int) : Bool := match lo with
  | .int l => decide (l ≤ i)
  | _ => true
def hiB (hi : D) (i : Int) : Bool := match hi with
  | .int h => decide (i ≤ h)
  | _ => true
def isI (v lo hi : D) : Bool := match v with
  | .int i => loB lo i && hiB hi i
  | _ => false
def W_is_integer : DW := fun as M k => match as with
  | [v, lo, hi] => tyD (vw M v) ≠ "" ∧ (lo = .non ∨ ∃ l, lo = .int l) ∧ (hi = .non ∨ ∃ h, hi = .int h) ∧ k (.bl (isI v lo hi)) M
  | _ => False
theorem isI_t {i l h : Int} (h1 : l ≤ i) (h2 : i ≤ h) : isI (.int i) (.int l) (.int h) = true := by
  simp only [isI, loB, hiB, Bool.and_eq_true, decide_eq_true_eq]
  exact ⟨h1, h2⟩
/-- numbers of a rule: base, modulus, remainder, weights -/
structure NumOk (b m r : Nat) (ws : List Int) : Prop where
  b2 : 2 ≤ b
  b36 : b ≤ 36
  m2 : 2 ≤ m
  m200 : m ≤ 200
  rm : r < m
  w1 : 1 ≤ ws.length
  w30 : ws.length ≤ 30
def wD (ws : List Int) : D := .tup (ws.map D.int)
def rowL (b m : Nat) (w : Int) : List D := (List.range b).map fun d => D.int (w * ((d : Nat) : Int) % ((m : Nat) : Int))
def rowsL (b m : Nat) (ws : List Int) : List D := ws.map fun w => D.tup (rowL b m w)
def rowsD (b m : Nat) (ws : List Int) : D := .tup (rowsL b m ws)
def fsD (b m r : Nat) (ws : List Int) : List (Str × D) := putD "wanted" (.int (r : Nat)) (putD "lines" (rowsD b m ws) (putD "divisor" (.int (m : Nat)) []))
def W_is_row : DW := fun as M k => match as with
  | [v, ln, md] => ∃ (b m : Nat) (w : Int), (v = .tup (rowL b m w) ∧ ln = .int b ∧ md = .int m) ∧ 2 ≤ m ∧ k (.bl true) M
  | _ => False
def W_are_rows : DW := fun as M k => match as with
  | [v, md] => ∃ (b m r : Nat) (ws : List Int), (v = rowsD b m ws ∧ md = .int m) ∧ NumOk b m r ws ∧ k (.bl true) M
  | _ => False
def W_require_base : DW := fun as M k => match as with
  | [.int i] => 2 ≤ i ∧ i ≤ 36 ∧ k .non M
  | _ => False
def W_require_modulus : DW := fun as M k => match as with
  | [.int i] => 2 ≤ i ∧ i ≤ 200 ∧ k .non M
  | _ => False
def W_require_weights : DW := fun as M k => match as with
  | [d] => ∃ ws : List Int, d = wD ws ∧ 1 ≤ ws.length ∧ ws.length ≤ 30 ∧ k .non M
  | _ => False
def W_require_remainder : DW := fun as M k => match as with
  | [.int i, .int m] => 0 ≤ i ∧ i < m ∧ k .non M
  | _ => False
def Small (ws : List Int) : Prop := ∀ w ∈ ws, w.natAbs < 10 ^ 60
def W_weighted_rows : DW := fun as M k => match as with
  | [bs, md, d] => ∃ (b m r : Nat) (ws : List Int), (bs = .int b ∧ md = .int m ∧ d = wD ws) ∧ NumOk b m r ws ∧ Small ws ∧ k (rowsD b m ws) M
  | _ => False
def W_init (C : Addr) : DW := fun as M k => match as with
  | [.ref x, md, rows, rm] => ∃ (b m r : Nat) (ws : List Int), (md = .int m ∧ rows = rowsD b m ws ∧ rm = .int r) ∧ NumOk b m r ws ∧ M x = some (.ins C []) ∧ k .non (mset M x (.ins C (fsD b m r ws)))
  | _ => False
def W_weighted (C : Addr) : DW := fun as M k => match as with
  | [.ref p, bs, md, d, rm] => ∃ (b m r : Nat) (ws : List Int), (p = C ∧ bs = .int b ∧ md = .int m ∧ d = wD ws ∧ rm = .int r) ∧ NumOk b m r ws ∧ Small ws ∧ k (.ins C (fsD b m r ws)) M
  | _ => False
def W_get (C : Addr) (f : Nat → Nat → Nat → List Int → D) : DW := fun as M k => match as with
  | [d] => ∃ (b m r : Nat) (ws : List Int), d = .ins C (fsD b m r ws) ∧ NumOk b m r ws ∧ k (f b m r ws) M
  | _ => False
def W_eq (C : Addr) : DW := fun as M k => match as with
  | [d, e] => ∃ (b m r : Nat) (ws : List Int), (d = .ins C (fsD b m r ws) ∧ e = .ins C (fsD b m r ws)) ∧ NumOk b m r ws ∧ k (.bl true) M
  | _ => False
theorem rowL_len (b m : Nat) (w : Int) : (rowL b m w).length = b := by unfold rowL; rw [List.length_map, List.length_range]
theorem rowsL_len (b m : Nat) (ws : List Int) : (rowsL b m ws).length = ws.length := by unfold rowsL; rw [List.length_map]
theorem rowL_inv {b m i : Nat} {w : Int} {d : D} (h : (rowL b m w)[i]? = some d) : d = .int (w * ((i : Nat) : Int) % ((m : Nat) : Int)) := by
  unfold rowL at h
  rw [List.getElem?_map] at h
  by_cases hi : i < b
  · rw [List.getElem?_range hi] at h
    exact (Option.some.inj h).symm
  · rw [List.getElem?_eq_none (by simpa using hi)] at h
    cases h
theorem fs_div (b m r : Nat) (ws : List Int) : (fsD b m r ws).lookup ("divisor" : Str) = some (.int (m : Nat)) := by rfl
theorem fs_lin (b m r : Nat) (ws : List Int) : (fsD b m r ws).lookup ("lines" : Str) = some (rowsD b m ws) := by rfl
theorem fs_wan (b m r : Nat) (ws : List Int) : (fsD b m r ws).lookup ("wanted" : Str) = some (.int (r : Nat)) := by rfl
theorem ok_row (b m : Nat) (w : Int) (n : Nat) : okD (n + 1) (.tup (rowL b m w)) = true := okDs_of fun d hd => by
  unfold rowL at hd
  obtain ⟨x, _, rfl⟩ := List.mem_map.mp hd
  cases n <;> rfl
theorem ok_rows (b m : Nat) (ws : List Int) (n : Nat) : okD (n + 2) (rowsD b m ws) = true := okDs_of fun d hd => by
  unfold rowsL at hd
  obtain ⟨x, _, rfl⟩ := List.mem_map.mp hd
  exact ok_row b m x n

/-! ### numbers as words -/
abbrev SP : Str := " "
def wS (n : Nat) : Str := toString ((n : Nat) : Int)
def chk (n : Nat) : Bool := decide (1 ≤ (wS n).length) && decide ((wS n).length ≤ 3) && (wS n).cps.toList.all (fun c => inStr ⟨#[c]⟩ FIG && c != 32) &&
  (match (wS n).cps.toList with
  | [] => false
  | c :: _ => !(decide ((⟨#[c]⟩ : Str) = ("0" : Str)) && !decide (wS n = ("0" : Str))))
theorem chk_all : ∀ n ≤ 200, chk n = true := by decide +kernel
theorem int_all : ∀ n ≤ 200, PySem.intText? (wS n) = some ((n : Nat) : Int) := by decide +kernel
structure Word (z : Str) (n : Nat) : Prop where
  l1 : 1 ≤ z.length
  l3 : z.length ≤ 3
  fg : ∀ c ∈ z.cps.toList, inStr ⟨#[c]⟩ FIG = true ∧ c ≠ 32
  hd : ∃ c r, z.cps.toList = c :: r ∧ (decide ((⟨#[c]⟩ : Str) = ("0" : Str)) && !decide (z = ("0" : Str))) = false
  it : PySem.intText? z = some ((n : Nat) : Int)
theorem word_of {n : Nat} (h : n ≤ 200) : Word (wS n) n := by
  have c := chk_all n h
  unfold chk at c
  simp only [Bool.and_eq_true, decide_eq_true_eq, List.all_eq_true] at c
  obtain ⟨⟨⟨c1, c2⟩, c3⟩, c4⟩ := c
  refine ⟨c1, c2, fun x hx => ⟨(c3 x hx).1, by have := (c3 x hx).2; simpa using this⟩, ?_, int_all n h⟩
  cases e : (wS n).cps.toList with
  | nil => rw [e] at c4; cases c4
  | cons x r =>
    rw [e] at c4
    refine ⟨x, r, rfl, ?_⟩
    cases q : (decide ((⟨#[x]⟩ : Str) = ("0" : Str)) && !decide (wS n = ("0" : Str))) with
    | false => rfl
    | true =>
      have c5 : (!(decide ((⟨#[x]⟩ : Str) = ("0" : Str)) && !decide (wS n = ("0" : Str)))) = true := c4
      rw [q] at c5
      cases c5
def numsL (b m r : Nat) (ws : List Int) : List Nat := b :: m :: r :: ws.map fun w => (w % ((m : Nat) : Int)).toNat
def nD (n : Nat) : D := .int (n : Nat)
def ptext (ns : List Nat) : Str := Txt.join SP (ns.map wS)
theorem nums_le {b m r : Nat} {ws : List Int} (hN : NumOk b m r ws) : ∀ n ∈ numsL b m r ws, n ≤ 200 := fun n hn => by
  have h1 := hN.b36; have h2 := hN.m200; have h3 := hN.rm; have h4 := hN.m2
  rcases List.mem_cons.mp hn with rfl | hn
  · omega
  rcases List.mem_cons.mp hn with rfl | hn
  · omega
  rcases List.mem_cons.mp hn with rfl | hn
  · omega
  obtain ⟨w, _, rfl⟩ := List.mem_map.mp hn
  have := Int.emod_lt_of_pos w (show (0 : Int) < ((m : Nat) : Int) by omega)
  omega
theorem nums_len {b m r : Nat} {ws : List Int} : (numsL b m r ws).length = ws.length + 3 := by unfold numsL; simp
theorem split_text {ns : List Nat} (hne : ns ≠ []) (h : ∀ n ∈ ns, n ≤ 200) : Txt.split (ptext ns) SP = ns.map wS := by
  refine TL.split_join (s := 32) (S := []) (by decide +kernel) (by decide +kernel) (by simpa using hne) fun p hp => ?_
  obtain ⟨n, hn, rfl⟩ := List.mem_map.mp hp
  intro hc
  exact ((word_of (h n hn)).fg 32 hc).2 rfl
theorem sum_le {α : Type} (f : α → Nat) (c : Nat) : ∀ l : List α, (∀ x ∈ l, f x ≤ c) → (l.map f).sum ≤ c * l.length
  | [], _ => Nat.le_refl _
  | x :: r, h => by
    have ih := sum_le f c r fun y hy => h y (List.mem_cons_of_mem _ hy)
    have hx := h x List.mem_cons_self
    rw [List.map_cons, List.sum_cons, List.length_cons, Nat.mul_succ]
    omega
theorem words_sum {ns : List Nat} (h : ∀ n ∈ ns, n ≤ 200) (hl : ns.length ≤ 33) : (((ns.map wS).map (·.length)).sum + (ns.map wS).length * SP.length) ≤ 200 := by
  have h1 := sum_le (fun x : Str => x.length) 3 (ns.map wS) fun z hz => by
    obtain ⟨n, hn, rfl⟩ := List.mem_map.mp hz
    exact (word_of (h n hn)).l3
  have e : SP.length = 1 := by decide +kernel
  rw [List.length_map] at h1
  rw [List.length_map, e]
  omega
theorem ptext_len {ns : List Nat} (h : ∀ n ∈ ns, n ≤ 200) (hl : ns.length ≤ 33) : (ptext ns).length ≤ 200 := Nat.le_trans (join_len SP (ns.map wS)) (words_sum h hl)
def W_number_in : DW := fun as M k => match as with
  | [.str z, .int most] => ∃ n : Nat, Word z n ∧ most = 3 ∧ k (.int (n : Nat)) M
  | _ => False
def W_read_weights : DW := fun as M k => match as with
  | [d] => ∃ (b m r : Nat) (ws : List Int), d = .str (ptext (numsL b m r ws)) ∧ NumOk b m r ws ∧ ∀ p, M p = none → k (.tup [.ref p, .non]) (mset M p (.lst ((numsL b m r ws).map nD)))
  | _ => False
def W_rule_of (C : Addr) : DW := fun as M k => match as with
  | [.ref p] => ∃ (b m r : Nat) (ws : List Int), M p = some (.lst ((numsL b m r ws).map nD)) ∧ NumOk b m r ws ∧ k (.ins C (fsD b m r ws)) M
  | _ => False
def W_parse (C : Addr) : DW := fun as M k => match as with
  | [d] => ∃ (b m r : Nat) (ws : List Int), d = .str (ptext (numsL b m r ws)) ∧ NumOk b m r ws ∧ k (.ins C (fsD b m r ws)) M
  | _ => False
def W_format : DW := fun as M k => match as with
  | [bs, md, d, rm] => ∃ (b m r : Nat) (ws : List Int), (bs = .int b ∧ md = .int m ∧ d = wD ws ∧ rm = .int r) ∧ NumOk b m r ws ∧ k (.str (ptext (numsL b m r ws))) M
  | _ => False
def numbersD (b m r : Nat) (ws : List Int) : D := .tup [.int (b : Nat), .int (m : Nat), wD ws, .int (r : Nat)]
def W_page : DW := fun as M k => match as with
  | [d] => ∃ (b m r : Nat) (ws : List Int), d = numbersD b m r ws ∧ NumOk b m r ws ∧ k (.str (ptext (numsL b m r ws))) M
  | _ => False
theorem tail_rows {b m r : Nat} {ws : List Int} (hN : NumOk b m r ws) : rowsL b m ((ws.map fun w => (w % ((m : Nat) : Int)).toNat).map fun n : Nat => ((n : Nat) : Int)) = rowsL b m ws := by
  unfold rowsL
  rw [List.map_map, List.map_map]
  refine List.map_congr_left fun w _ => ?_
  show D.tup (rowL b m _) = D.tup (rowL b m w)
  congr 1
  unfold rowL
  refine List.map_congr_left fun d _ => ?_
  congr 1
  have hm := hN.m2
  have h0 := Int.emod_nonneg w (show ((m : Nat) : Int) ≠ 0 by omega)
  show (((w % ((m : Nat) : Int)).toNat : Nat) : Int) * _ % _ = _
  rw [Int.toNat_of_nonneg h0, Int.mul_emod, Int.emod_emod_of_dvd w (Int.dvd_refl _), ← Int.mul_emod]
def W_lines : DW := fun as M k => match as with
  | [d] => ∃ (b m r : Nat) (ws : List Int), d = numbersD b m r ws ∧ NumOk b m r ws ∧ Small ws ∧ k (rowsD b m ws) M
  | _ => False
def W_numbers : DW := fun as M k => match as with
  | [.ref p] => ∃ N, Pur M p N ∧ N ≤ 1000000 ∧ ∀ (b m r : Nat) (ws : List Int) (M' : Mem) (N' : Nat), NumOk b m r ws → Small ws → Pur M' p N' → N' ≤ N + 200 → Pres p M M' → k (numbersD b m r ws) M'
  | _ => False
def W_right : DW := fun as M k => match as with
  | [d] => ∃ (b m r : Nat) (ws : List Int), d = numbersD b m r ws ∧ NumOk b m r ws ∧ Small ws ∧ k (.bl true) M
  | _ => False
theorem lt_nat {n i : Nat} (h : i ≤ 200) : Lt n 9 (.int ((i : Nat) : Int)) := Lt.sm (by rw [Int.natAbs_natCast]; omega)
theorem lt_ws {ws : List Int} (hS : Small ws) (hl : ws.length ≤ 30) (n : Nat) : Lt (n + 1) 6060 (.tup (ws.map D.int)) :=
  (Lt.tup (w := 201) fun d hd => by
    obtain ⟨w, hw, rfl⟩ := List.mem_map.mp hd
    exact Lt.big (hS w hw)).mono (by rw [List.length_map]; omega)
theorem lt_numbers {b m r : Nat} {ws : List Int} (hN : NumOk b m r ws) (hS : Small ws) : Lt 20 6091 (numbersD b m r ws) := by
  have h1 := hN.b36; have h2 := hN.m200; have h3 := hN.rm
  exact (LtS.cons (lt_nat (by omega)) (.cons (lt_nat h2) (.cons (lt_ws hS hN.w30 18) (.cons (lt_nat (by omega)) .nil)))).tup.mono (by decide)
theorem str_ok_of {z : Str} (h : z.cps.toList.all (fun c => decide (c < 0x110000)) = true) : PyData.strOk z = true := by
  show (z.cps.all (· < 0x110000)) = true
  rw [← Array.all_toList]
  exact h
theorem ok_word : ∀ n ≤ 200, ((wS n).cps.toList.all fun c => decide (c < 0x110000)) = true := by decide +kernel
theorem ok_join : ∀ ns : List Nat, (∀ n ∈ ns, n ≤ 200) → ∀ c ∈ TL.joinL [32] ((ns.map wS).map TL.tl), c < 0x110000
  | [], _, c, h => by cases h
  | [n], hn, c, h => by
    have := ok_word n (hn n List.mem_cons_self)
    rw [List.all_eq_true] at this
    exact of_decide_eq_true (this c h)
  | n :: k :: r, hn, c, h => by
    have h' : c ∈ TL.tl (wS n) ++ ([32] ++ TL.joinL [32] (((k :: r).map wS).map TL.tl)) := h
    rcases List.mem_append.mp h' with h' | h'
    · have := ok_word n (hn n List.mem_cons_self)
      rw [List.all_eq_true] at this
      exact of_decide_eq_true (this c h')
    · rcases List.mem_append.mp h' with h' | h'
      · rw [List.mem_singleton.mp h']; decide
      · exact ok_join (k :: r) (fun x hx => hn x (List.mem_cons_of_mem _ hx)) c h'
theorem ptext_ok {ns : List Nat} (h : ∀ n ∈ ns, n ≤ 200) : PyData.strOk (ptext ns) = true := str_ok_of (by
  rw [List.all_eq_true]
  intro c hc
  refine decide_eq_true ?_
  have e : TL.tl (ptext ns) = TL.joinL [32] ((ns.map wS).map TL.tl) := by
    unfold ptext
    rw [TL.join_eq, TL.tl_join]
    rw [show TL.tl SP = [32] by decide +kernel]
  have hc' : c ∈ TL.tl (ptext ns) := hc
  rw [e] at hc'
  exact ok_join ns h c hc')
theorem lt_pages {b m r : Nat} {ws : List Int} (hN : NumOk b m r ws) : Lt 20 402 (.lst [.str (ptext (numsL b m r ws)), .str (ptext (numsL b m r ws))]) := by
  have hle := nums_le hN
  have hln : (numsL b m r ws).length ≤ 33 := by rw [nums_len]; have := hN.w30; omega
  have h := (Lt.str (n := 19) (ptext_ok hle)).mono (ptext_len hle hln)
  exact (LtS.cons h (.cons h .nil)).lst
theorem lt_rows {b m r : Nat} {ws : List Int} (hN : NumOk b m r ws) (n : Nat) : Lt (n + 2) 10830 (rowsD b m ws) := by
  have hb := hN.b36; have hm := hN.m2; have hm2 := hN.m200; have hl := hN.w30
  refine (Lt.tup (n := n + 1) (w := 360) fun d hd => ?_).mono (by rw [rowsL_len]; omega)
  unfold rowsL at hd
  obtain ⟨w, _, rfl⟩ := List.mem_map.mp hd
  refine (Lt.tup (n := n) (w := 9) fun d hd => ?_).mono (by rw [rowL_len]; omega)
  unfold rowL at hd
  obtain ⟨x, _, rfl⟩ := List.mem_map.mp hd
  have h1 := Int.emod_lt_of_pos (w * ((x : Nat) : Int)) (show (0 : Int) < ((m : Nat) : Int) by omega)
  have h2 := Int.emod_nonneg (w * ((x : Nat) : Int)) (show ((m : Nat) : Int) ≠ 0 by omega)
  exact Lt.sm (by omega)
theorem lt_found {b m r : Nat} {ws : List Int} (hN : NumOk b m r ws) : Lt 20 10871 (.lst [.int ((m : Nat) : Int), rowsD b m ws, .int ((r : Nat) : Int), .int ((b : Nat) : Int), .int ((ws.length : Nat) : Int)]) := by
  have h1 := hN.b36; have h2 := hN.m200; have h3 := hN.rm; have h4 := hN.w30
  exact (LtS.cons (lt_nat h2) (.cons (lt_rows hN 17) (.cons (lt_nat (by omega)) (.cons (lt_nat (by omega)) (.cons (lt_nat (by omega)) .nil))))).lst
def W_law : DW := fun as M k => match as with
  | [.scr ns] => ns.length ≤ 63 ∧ ∀ M, k (.bl true) M
  | _ => False
theorem law_starts : ∀ (ns : List Int) (kk : DK), ns.length ≤ 63 → (∀ M, kk (.bl true) M) → W_law [.scr ns] (fun _ => none) kk := fun ns kk h1 h2 => ⟨h1, h2⟩

section
variable {P : Program} {w : World} {K : PySem.W.Frag} {mg : Str → Option Value} {base : Heap} {C_Rule : Addr}
set_option maxHeartbeats 0 in
theorem ok_is_integer {f : Addr} {fd : FuncData} (F : Fun K "is_integer" "is_integer" s_is_integer f fd) (T : Txt mg) : FnOk P w K mg base CX0 1 f fd ["value", "low", "high"] (spD K 3 W_is_integer) :=
 fnD F sc_is_integer fun cdv A outer s H E hr => have hu := hr.units; ⟨_, _, (qss_cons (qs_if (QW.qt (qw_or (qt_not (qtv (qe_bi qc_isi rfl T.b_isinstance bo_isinstance (qa_cons (qv 0) (qa_cons (qtyn rfl T.b_int bo_int) qa_nil))))) (qw_or1 (qtv (qe_bi qc_isi rfl T.b_isinstance bo_isinstance (qa_cons (qv 0) (qa_cons (qtyn rfl T.b_bool bo_bool) qa_nil))))))) (qss_one (qs_ret qb)) qss_nil)
  (qss_one (qs_ret (qe_and (qe_or (qcmp qo_is (qv 1) qn) (qe_one (qcmp qo_le (qv 1) (qv 0)))) (qe_one (qe_or (qcmp qo_is (qv 2) qn) (qe_one (qcmp qo_le (qv 0) (qv 2))))))))), fun as M kk hl hw => by
  clear hr hu F T
  match as, hw with
  | [v, lo, hi], hw =>
    obtain ⟨h1, h2, h3, h4⟩ := hw
    cases v with
    | ref p =>
      cases e : M p with
      | none => exact absurd (by simp only [vw, e, tyD]) h1
      | some o =>
        cases o with
        | ins C fs => exact absurd (by simp only [vw, e, tyD]) h1
        | lst ds =>
          have e2 := vw_ref e
          walk_at "dw"
          simp only [e2]
          walk_at "dw"
          exact h4
    | int n =>
      rcases h2 with rfl | ⟨l, rfl⟩ <;> rcases h3 with rfl | ⟨u, rfl⟩ <;> walk_at "dw" <;> simp only [isI, loB, hiB] at h4
      · exact h4
      · simpa only [Bool.true_and] using h4
      · cases e : decide (l ≤ n) <;> simp only [e, Bool.and_true] at h4 ⊢ <;> exact h4
      · cases e : decide (l ≤ n) <;> simp only [e, Bool.true_and, Bool.false_and] at h4 ⊢ <;> exact h4
    | non => rcases h2 with rfl | ⟨l, rfl⟩ <;> rcases h3 with rfl | ⟨u, rfl⟩ <;> walk_at "dw" <;> exact h4
    | bl b => rcases h2 with rfl | ⟨l, rfl⟩ <;> rcases h3 with rfl | ⟨u, rfl⟩ <;> walk_at "dw" <;> exact h4
    | str z => rcases h2 with rfl | ⟨l, rfl⟩ <;> rcases h3 with rfl | ⟨u, rfl⟩ <;> walk_at "dw" <;> exact h4
    | lst z => rcases h2 with rfl | ⟨l, rfl⟩ <;> rcases h3 with rfl | ⟨u, rfl⟩ <;> walk_at "dw" <;> exact h4
    | tup z => rcases h2 with rfl | ⟨l, rfl⟩ <;> rcases h3 with rfl | ⟨u, rfl⟩ <;> walk_at "dw" <;> exact h4
    | _ => exact absurd rfl h1⟩
set_option maxHeartbeats 0 in
theorem ok_is_row {f : Addr} {fd : FuncData} (F : Fun K "is_row" "is_row" s_is_row f fd) (T : Txt mg) (O_is_integer : Cal P w K mg base 1 "is_integer" ["value", "low", "high"] W_is_integer) : FnOk P w K mg base CX0 2 f fd ["value", "length", "modulus"] (spD K 3 W_is_row) :=
 fnD F sc_is_row fun cdv A outer s H E hr => have hu := hr.units; ⟨_, _, (qss_one (qs_ret (qe_and (qe_bi qc_isi rfl T.b_isinstance bo_isinstance (qa_cons (qv 0) (qa_cons (qtyn rfl T.b_tuple bo_tuple) qa_nil))) (qe_and (qcmp (qo_eq hu) (qe_bi qc_len rfl T.b_len bo_len (qa_cons (qv 0) qa_nil)) (qv 1)) (qe_one (qe_bi (qc_all rfl) rfl T.b_all bo_all (qa_cons (qe_lc rfl sc_is_row.nd (qi_seq (qv 0)) (blkOk_by (own := [("x", 3)]) (N := ["value", "length", "modulus", "x"]) (sc := defScope s_is_row) (by decide +kernel)) (fun _ _ _ _ _ => (qg_name (i := 3) sc_is_row.nd rfl (Or.inl rfl))) (fun _ _ _ _ _ => gwm1) (fun _ _ _ _ _ => qts_nil) (fun _ _ _ _ _ => (qe_call O_is_integer.ok (hr.mono (by decide)) rfl O_is_integer.mg O_is_integer.kp O_is_integer.bd .nil pass0 (fun _ _ => .nil) (qa_cons (qv 3) (qa_cons qi (qa_cons (qop qo_sub (qv 2) qi) qa_nil)))))) qa_nil))))))), fun as M kk hl hw => by
  clear hr hu F T
  match as, hw with
  | [v, ln, md], hw =>
    obtain ⟨b, m, w, ⟨rfl, rfl, rfl⟩, hm, hk⟩ := hw
    have e1 : decide ((((rowL b m w).length : Nat) : Int) = ((b : Nat) : Int)) = true := decide_eq_true (by rw [rowL_len])
    walk_at "dw"
    simp only [e1]
    refine dLc_read (rowL b m w) ((List.range b).map fun _ => .bl true) (fun R h => ?_) (by rw [rowL_len, List.length_map, List.length_range]) (fun i d y Q hd hy hQ => ?_) ?_
    · simp only [diSeq]; walk_at "dw"; exact h
    · obtain rfl := rowL_inv hd
      obtain ⟨_, _, rfl⟩ := map_inv' hy
      walk_at "dw"
      refine ⟨ty_i, .inr ⟨_, rfl⟩, .inr ⟨_, rfl⟩, ?_⟩
      rw [isI_t (Int.emod_nonneg _ (by omega)) (by have := Int.emod_lt_of_pos (w * ((i : Nat) : Int)) (show (0 : Int) < ((m : Nat) : Int) by omega); omega)]
      exact hQ
    · simp only [bAll]
      refine ⟨(List.range b).map fun _ => true, by rw [List.map_map]; rfl, ?_⟩
      have e5 : ((List.range b).map fun _ => true).all id = true := by simp
      simp only [e5]
      exact hk⟩
set_option maxHeartbeats 0 in
theorem ok_are_rows {f : Addr} {fd : FuncData} (F : Fun K "are_rows" "are_rows" s_are_rows f fd) (T : Txt mg) (O_is_row : Cal P w K mg base 2 "is_row" ["value", "length", "modulus"] W_is_row) : FnOk P w K mg base CX0 3 f fd ["value", "modulus"] (spD K 2 W_are_rows) :=
 fnD F sc_are_rows fun cdv A outer s H E hr => have hu := hr.units; ⟨_, _, (qss_cons (qs_if (QW.qt (qw_or (qt_not (qtv (qe_bi qc_isi rfl T.b_isinstance bo_isinstance (qa_cons (qv 0) (qa_cons (qtyn rfl T.b_tuple bo_tuple) qa_nil))))) (qw_or (qt_not (qt_chain qo_le qo_le qi (qe_bi qc_len rfl T.b_len bo_len (qa_cons (qv 0) qa_nil)) (qgi (n := 30) T.c_MOST_PLACES))) (qw_or1 (qt_not (qtv (qe_bi qc_isi rfl T.b_isinstance bo_isinstance (qa_cons (qix qx_seq (qv 0) qi) (qa_cons (qtyn rfl T.b_tuple bo_tuple) qa_nil))))))))) (qss_one (qs_ret qb)) qss_nil)
  (qss_cons (qs_set (i := 2) sc_are_rows.nd rfl (Or.inr rfl) (qe_bi qc_len rfl T.b_len bo_len (qa_cons (qix qx_seq (qv 0) qi) qa_nil)))
  (qss_one (qs_ret (qe_and (qe_chain qo_le qo_le qi (qv 2) (qgi (n := 36) T.c_GREATEST_BASE)) (qe_one (qe_bi (qc_all rfl) rfl T.b_all bo_all (qa_cons (qe_lc rfl sc_are_rows.nd (qi_seq (qv 0)) (blkOk_by (own := [("row", 3)]) (N := ["value", "modulus", "length", "row"]) (sc := defScope s_are_rows) (by decide +kernel)) (fun _ _ _ _ _ => (qg_name (i := 3) sc_are_rows.nd rfl (Or.inl rfl))) (fun _ _ _ _ _ => gwm1) (fun _ _ _ _ _ => qts_nil) (fun _ _ _ _ _ => (qe_call O_is_row.ok (hr.mono (by decide)) rfl O_is_row.mg O_is_row.kp O_is_row.bd .nil pass0 (fun _ _ => .nil) (qa_cons (qv 3) (qa_cons (qv 2) (qa_cons (qv 1) qa_nil)))))) qa_nil)))))))), fun as M kk hl hw => by
  clear hr hu F T
  match as, hw with
  | [v, md], hw =>
    obtain ⟨b, m, r, ws, ⟨rfl, rfl⟩, hN, hk⟩ := hw
    have hl := rowsL_len b m ws
    have h1 := hN.w1
    have h30 := hN.w30
    have e1 : decide ((1 : Int) ≤ (((rowsL b m ws).length : Nat) : Int)) = true := decide_eq_true (by rw [hl]; omega)
    have e2 : decide ((((rowsL b m ws).length : Nat) : Int) ≤ 30) = true := decide_eq_true (by rw [hl]; omega)
    obtain ⟨w0, wr, rfl⟩ : ∃ w0 wr, ws = w0 :: wr := by
      cases ws with
      | nil => exact absurd h1 (by decide)
      | cons a r => exact ⟨a, r, rfl⟩
    have g0 : atI (rowsL b m (w0 :: wr)) 0 = some (.tup (rowL b m w0)) := atI_nat (j := 0) rfl
    have e3 : decide ((2 : Int) ≤ (((rowL b m w0).length : Nat) : Int)) = true := decide_eq_true (by rw [rowL_len]; have := hN.b2; omega)
    have e4 : decide ((((rowL b m w0).length : Nat) : Int) ≤ 36) = true := decide_eq_true (by rw [rowL_len]; have := hN.b36; omega)
    unfold rowsD
    walk_at "dw"
    simp only [e1, e2]
    walk_at "dw"
    refine ⟨_, g0, ?_⟩
    walk_at "dw"
    refine ⟨_, g0, ?_⟩
    walk_at "dw"
    simp only [e3, e4]
    refine dLc_read (rowsL b m (w0 :: wr)) ((w0 :: wr).map fun _ => .bl true) (fun R h => ?_) (by rw [hl, List.length_map]) (fun i d y Q hd hy hQ => ?_) ?_
    · simp only [diSeq]; walk_at "dw"; exact h
    · obtain ⟨w, _, rfl⟩ := map_inv' hd
      obtain ⟨_, _, rfl⟩ := map_inv' hy
      walk_at "dw"
      exact ⟨b, m, w, ⟨rfl, by rw [rowL_len], rfl⟩, hN.m2, hQ⟩
    · simp only [bAll]
      refine ⟨(w0 :: wr).map fun _ => true, by rw [List.map_map]; rfl, ?_⟩
      have e5 : ((w0 :: wr).map fun _ => true).all id = true := by simp
      simp only [e5]
      exact hk⟩
set_option maxHeartbeats 0 in
theorem ok_require_base {f : Addr} {fd : FuncData} (F : Fun K "require_base" "require_base" s_require_base f fd) (T : Txt mg) (O_is_integer : Cal P w K mg base 1 "is_integer" ["value", "low", "high"] W_is_integer) : FnOk P w K mg base CX0 2 f fd ["value"] (spD K 1 W_require_base) :=
 fnD F sc_require_base fun cdv A outer s H E hr => have hu := hr.units; ⟨_, _, (qss_one (qs_if (qt_not (qtv (qe_call O_is_integer.ok (hr.mono (by decide)) rfl O_is_integer.mg O_is_integer.kp O_is_integer.bd .nil pass0 (fun _ _ => .nil) (qa_cons (qv 0) (qa_cons qi (qa_cons (qgi (n := 36) T.c_GREATEST_BASE) qa_nil)))))) (qss_one qs_never) qss_nil)), fun as M kk hl hw => by
  clear hr hu F T
  match as, hw with
  | [.int i], hw =>
    obtain ⟨h1, h2, h3⟩ := hw
    walk_at "dw"
    refine ⟨ty_i, .inr ⟨_, rfl⟩, .inr ⟨_, rfl⟩, ?_⟩
    simp only [isI, loB, hiB, decide_eq_true h1, decide_eq_true h2]
    walk_at "dw"
    exact h3⟩
set_option maxHeartbeats 0 in
theorem ok_require_modulus {f : Addr} {fd : FuncData} (F : Fun K "require_modulus" "require_modulus" s_require_modulus f fd) (T : Txt mg) (O_is_integer : Cal P w K mg base 1 "is_integer" ["value", "low", "high"] W_is_integer) : FnOk P w K mg base CX0 2 f fd ["value"] (spD K 1 W_require_modulus) :=
 fnD F sc_require_modulus fun cdv A outer s H E hr => have hu := hr.units; ⟨_, _, (qss_one (qs_if (qt_not (qtv (qe_call O_is_integer.ok (hr.mono (by decide)) rfl O_is_integer.mg O_is_integer.kp O_is_integer.bd .nil pass0 (fun _ _ => .nil) (qa_cons (qv 0) (qa_cons qi (qa_cons (qgi (n := 200) T.c_GREATEST_MODULUS) qa_nil)))))) (qss_one qs_never) qss_nil)), fun as M kk hl hw => by
  clear hr hu F T
  match as, hw with
  | [.int i], hw =>
    obtain ⟨h1, h2, h3⟩ := hw
    walk_at "dw"
    refine ⟨ty_i, .inr ⟨_, rfl⟩, .inr ⟨_, rfl⟩, ?_⟩
    simp only [isI, loB, hiB, decide_eq_true h1, decide_eq_true h2]
    walk_at "dw"
    exact h3⟩
set_option maxHeartbeats 0 in
theorem ok_require_weights {f : Addr} {fd : FuncData} (F : Fun K "require_weights" "require_weights" s_require_weights f fd) (T : Txt mg) (O_is_integer : Cal P w K mg base 1 "is_integer" ["value", "low", "high"] W_is_integer) : FnOk P w K mg base CX0 2 f fd ["value"] (spD K 1 W_require_weights) :=
 fnD F sc_require_weights fun cdv A outer s H E hr => have hu := hr.units; ⟨_, _, (qss_cons (qs_if (QW.qt (qw_or (qt_not (qtv (qe_bi qc_isi rfl T.b_isinstance bo_isinstance (qa_cons (qv 0) (qa_cons (qtyn rfl T.b_tuple bo_tuple) qa_nil))))) (qw_or1 (qt_not (qt_chain qo_le qo_le qi (qe_bi qc_len rfl T.b_len bo_len (qa_cons (qv 0) qa_nil)) (qgi (n := 30) T.c_MOST_PLACES)))))) (qss_one qs_never) qss_nil)
  (qss_one (qs_if (qt_not (qtv (qe_bi (qc_all rfl) rfl T.b_all bo_all (qa_cons (qe_lc rfl sc_require_weights.nd (qi_seq (qv 0)) (blkOk_by (own := [("weight", 1)]) (N := ["value", "weight"]) (sc := defScope s_require_weights) (by decide +kernel)) (fun _ _ _ _ _ => (qg_name (i := 1) sc_require_weights.nd rfl (Or.inl rfl))) (fun _ _ _ _ _ => gwm1) (fun _ _ _ _ _ => qts_nil) (fun _ _ _ _ _ => (qe_call O_is_integer.ok (hr.mono (by decide)) rfl O_is_integer.mg O_is_integer.kp O_is_integer.bd .nil pass0 (fun _ _ => .nil) (qa_cons (qv 1) (qa_cons qn (qa_cons qn qa_nil)))))) qa_nil)))) (qss_one qs_never) qss_nil))), fun as M kk hl hw => by
  clear hr hu F T
  match as, hw with
  | [d], hw =>
    obtain ⟨ws, rfl, h1, h30, hk⟩ := hw
    have e1 : decide ((1 : Int) ≤ (((ws.map D.int).length : Nat) : Int)) = true := decide_eq_true (by rw [List.length_map]; omega)
    have e2 : decide ((((ws.map D.int).length : Nat) : Int) ≤ 30) = true := decide_eq_true (by rw [List.length_map]; omega)
    unfold wD
    walk_at "dw"
    simp only [e1, e2]
    walk_at "dw"
    refine dLc_read (ws.map D.int) (ws.map fun _ => .bl true) (fun R h => ?_) (by rw [List.length_map, List.length_map]) (fun i d y Q hd hy hQ => ?_) ?_
    · simp only [diSeq]; walk_at "dw"; exact h
    · obtain ⟨w, _, rfl⟩ := map_inv' hd
      obtain ⟨_, _, rfl⟩ := map_inv' hy
      walk_at "dw"
      exact ⟨ty_i, .inl rfl, .inl rfl, hQ⟩
    · simp only [bAll]
      refine ⟨ws.map fun _ => true, by rw [List.map_map]; rfl, ?_⟩
      have e5 : (ws.map fun _ => true).all id = true := by simp
      simp only [e5]
      walk_at "dw"
      exact hk⟩
set_option maxHeartbeats 0 in
theorem ok_require_remainder {f : Addr} {fd : FuncData} (F : Fun K "require_remainder" "require_remainder" s_require_remainder f fd) (T : Txt mg) (O_is_integer : Cal P w K mg base 1 "is_integer" ["value", "low", "high"] W_is_integer) : FnOk P w K mg base CX0 2 f fd ["value", "modulus"] (spD K 2 W_require_remainder) :=
 fnD F sc_require_remainder fun cdv A outer s H E hr => have hu := hr.units; ⟨_, _, (qss_one (qs_if (qt_not (qtv (qe_call O_is_integer.ok (hr.mono (by decide)) rfl O_is_integer.mg O_is_integer.kp O_is_integer.bd .nil pass0 (fun _ _ => .nil) (qa_cons (qv 0) (qa_cons qi (qa_cons (qop qo_sub (qv 1) qi) qa_nil)))))) (qss_one qs_never) qss_nil)), fun as M kk hl hw => by
  clear hr hu F T
  match as, hw with
  | [.int i, .int m], hw =>
    obtain ⟨h1, h2, hk⟩ := hw
    walk_at "dw"
    refine ⟨ty_i, .inr ⟨_, rfl⟩, .inr ⟨_, rfl⟩, ?_⟩
    rw [isI_t h1 (by omega)]
    exact hk⟩
set_option maxHeartbeats 0 in
theorem ok_weighted_rows {f : Addr} {fd : FuncData} (F : Fun K "weighted_rows" "weighted_rows" s_weighted_rows f fd) (T : Txt mg) : FnOk P w K mg base CX0 1 f fd ["base", "modulus", "weights"] (spD K 3 W_weighted_rows) :=
 fnD F sc_weighted_rows fun cdv A outer s H E hr => have hu := hr.units; ⟨_, _, (qss_one (qs_ret (qe_ty qc_tup rfl T.b_tuple bo_tuple (qa_cons (qe_lc rfl sc_weighted_rows.nd (qi_seq (qv 2)) (blkOk_by (own := [("weight", 3)]) (N := ["base", "modulus", "weights", "weight", "digit"]) (sc := defScope s_weighted_rows) (by decide +kernel)) (fun _ _ _ _ _ => (qg_name (i := 3) sc_weighted_rows.nd rfl (Or.inr rfl))) (fun _ _ _ _ _ => gwm1) (fun _ _ _ _ _ => qts_nil) (fun _ _ _ _ _ => (qe_ty qc_tup rfl T.b_tuple bo_tuple (qa_cons (qe_lc rfl sc_weighted_rows.nd (qi_range1 rfl T.b_range (qa_cons (qv 0) qa_nil)) (blkOk_by (own := [("digit", 4)]) (N := ["base", "modulus", "weights", "weight", "digit"]) (sc := _) (by kernel_rfl)) (fun _ _ _ _ _ => (qg_name (i := 4) sc_weighted_rows.nd rfl (Or.inl rfl))) (fun _ _ _ _ _ => gwm1) (fun _ _ _ _ _ => qts_nil) (fun _ _ _ _ _ => (qop qo_mod (qop qo_mul (qv 3) (qv 4)) (qv 1)))) qa_nil)))) qa_nil)))), fun as M kk hl hw => by
  clear hr hu F T
  match as, hw with
  | [bs, md, d], hw =>
    obtain ⟨b, m, r, ws, ⟨rfl, rfl, rfl⟩, hN, hS, hk⟩ := hw
    have hb := hN.b36
    have hm := hN.m2
    unfold wD
    walk_at "dw"
    refine dLc_read (ws.map D.int) (rowsL b m ws) (fun R h => ?_) (by rw [rowsL_len, List.length_map]) (fun i d y Q hd hy hQ => ?_) ?_
    · simp only [diSeq]; walk_at "dw"; exact h
    · obtain ⟨w, hw, rfl⟩ := map_inv' hd
      have hw2 := hS w (List.mem_of_getElem? hw)
      unfold rowsL at hy
      rw [List.getElem?_map, hw] at hy
      cases hy
      walk_at "dw"
      refine dLc_read ((List.range b).map fun d => .int (d : Nat)) (rowL b m w) (fun R h => ?_) (by rw [rowL_len, List.length_map, List.length_range]) (fun j d y Q2 hd hy hQ2 => ?_) ?_
      · simp only [diRange1]; walk_at "dw"; exact ⟨by omega, by omega, by simpa using h⟩
      · obtain ⟨hj, rfl⟩ := range_inv hd
        obtain rfl := rowL_inv hy
        walk_at "dw"
        exact ⟨cmul 200 6 (Nat.lt_of_lt_of_le hw2 (by decide)) (by omega), by omega, hQ2⟩
      · walk_at "dw"
        exact hQ
    · walk_at "dw"
      exact hk⟩
set_option maxHeartbeats 0 in
theorem ok_Rule_init {f : Addr} {fd : FuncData} (F : Fun K "__init__" "Rule.__init__" s_Rule___init__ f fd) (T : Txt mg) (TC_Rule : Cf_Rule K mg C_Rule) (O_require_modulus : Cal P w K mg base 2 "require_modulus" ["value"] W_require_modulus) (O_are_rows : Cal P w K mg base 3 "are_rows" ["value", "modulus"] W_are_rows) (O_require_remainder : Cal P w K mg base 2 "require_remainder" ["value", "modulus"] W_require_remainder) : FnOk P w K mg base CX0 4 f fd ["self", "modulus", "rows", "remainder"] (spD K 4 (W_init C_Rule)) :=
 fnD F sc_Rule___init__ fun cdv A outer s H E hr => have hu := hr.units; ⟨_, _, (qss_cons (qs_expr (qe_call O_require_modulus.ok (hr.mono (by decide)) rfl O_require_modulus.mg O_require_modulus.kp O_require_modulus.bd .nil pass0 (fun _ _ => .nil) (qa_cons (qv 1) qa_nil)))
  (qss_cons (qs_if (qt_not (qtv (qe_call O_are_rows.ok (hr.mono (by decide)) rfl O_are_rows.mg O_are_rows.kp O_are_rows.bd .nil pass0 (fun _ _ => .nil) (qa_cons (qv 2) (qa_cons (qv 1) qa_nil))))) (qss_one qs_never) qss_nil)
  (qss_cons (qs_expr (qe_call O_require_remainder.ok (hr.mono (by decide)) rfl O_require_remainder.mg O_require_remainder.kp O_require_remainder.bd .nil pass0 (fun _ _ => .nil) (qa_cons (qv 3) (qa_cons (qv 1) qa_nil))))
  (qss_cons (qs_fld TC_Rule.cl TC_Rule.n_divisor (qv 0) (qv 1))
  (qss_cons (qs_fld TC_Rule.cl TC_Rule.n_lines (qv 0) (qv 2))
  (qss_one (qs_fld TC_Rule.cl TC_Rule.n_wanted (qv 0) (qv 3)))))))), fun as M kk hl hw => by
  clear hr hu F T
  match as, hw with
  | [.ref x, md, rows, rm], hw =>
    obtain ⟨b, m, r, ws, ⟨rfl, rfl, rfl⟩, hN, hx, hk⟩ := hw
    have h1 := hN.m2
    have h2 := hN.m200
    have h3 := hN.rm
    walk_at "dw"
    refine ⟨by omega, by omega, ?_⟩
    refine ⟨b, m, r, ws, ⟨rfl, rfl⟩, hN, ?_⟩
    walk_at "dw"
    refine ⟨by omega, by omega, ?_⟩
    refine ⟨_, hx, by decide, _, mset_same, Nat.lt_of_le_of_lt (putD_len _ _ _) (by decide), _, mset_same, Nat.lt_of_le_of_lt (putD_len _ _ _) (Nat.lt_of_le_of_lt (Nat.add_le_add_right (putD_len _ _ _) 1) (by decide)), ?_⟩
    rw [mset_mset, mset_mset]
    exact hk⟩
set_option maxHeartbeats 0 in
theorem ok_Rule_weighted {f : Addr} {fd : FuncData} (F : FunD K "weighted" "Rule.weighted" (defArgs s_Rule_weighted) (defBody s_Rule_weighted) (defScope s_Rule_weighted) [.int 0] [] f fd) (T : Txt mg) (O_require_base : Cal P w K mg base 2 "require_base" ["value"] W_require_base) (O_require_modulus : Cal P w K mg base 2 "require_modulus" ["value"] W_require_modulus) (O_require_weights : Cal P w K mg base 2 "require_weights" ["value"] W_require_weights) (O_require_remainder : Cal P w K mg base 2 "require_remainder" ["value", "modulus"] W_require_remainder) (O_Rule_init : CalF P w K mg base 4 (FInit K C_Rule) ["self", "modulus", "rows", "remainder"] (W_init C_Rule)) (O_weighted_rows : Cal P w K mg base 1 "weighted_rows" ["base", "modulus", "weights"] W_weighted_rows) : FnOk P w K mg base CX0 6 f fd ["cls", "base", "modulus", "weights", "remainder"] (spD K 5 (W_weighted C_Rule)) :=
 fnDd F sc_Rule_weighted fun cdv A outer s H E hr => have hu := hr.units; ⟨_, _, (qss_cons (qs_expr (qe_call O_require_base.ok (hr.mono (by decide)) rfl O_require_base.mg O_require_base.kp O_require_base.bd .nil pass0 (fun _ _ => .nil) (qa_cons (qv 1) qa_nil)))
  (qss_cons (qs_expr (qe_call O_require_modulus.ok (hr.mono (by decide)) rfl O_require_modulus.mg O_require_modulus.kp O_require_modulus.bd .nil pass0 (fun _ _ => .nil) (qa_cons (qv 2) qa_nil)))
  (qss_cons (qs_expr (qe_call O_require_weights.ok (hr.mono (by decide)) rfl O_require_weights.mg O_require_weights.kp O_require_weights.bd .nil pass0 (fun _ _ => .nil) (qa_cons (qv 3) qa_nil)))
  (qss_cons (qs_expr (qe_call O_require_remainder.ok (hr.mono (by decide)) rfl O_require_remainder.mg O_require_remainder.kp O_require_remainder.bd .nil pass0 (fun _ _ => .nil) (qa_cons (qv 4) (qa_cons (qv 2) qa_nil))))
  (qss_one (qs_ret (qe_makeV (i := 0) O_Rule_init.fk O_Rule_init.ok (hr.mono (by decide)) O_Rule_init.bd .nil (fun _ _ => .nil) (qa_cons (qv 2) (qa_cons (qe_call O_weighted_rows.ok (hr.mono (by decide)) rfl O_weighted_rows.mg O_weighted_rows.kp O_weighted_rows.bd .nil pass0 (fun _ _ => .nil) (qa_cons (qv 1) (qa_cons (qv 2) (qa_cons (qv 3) qa_nil)))) (qa_cons (qv 4) qa_nil)))))))))), fun as M kk hl hw => by
  clear hr hu F T
  match as, hw with
  | [.ref p, bs, md, d, rm], hw =>
    obtain ⟨b, m, r, ws, ⟨rfl, rfl, rfl, rfl, rfl⟩, hN, hS, hk⟩ := hw
    have h1 := hN.m2
    have h2 := hN.m200
    have h3 := hN.rm
    have h4 := hN.b2
    have h5 := hN.b36
    walk_at "dw"
    refine ⟨by omega, by omega, by omega, by omega, ws, rfl, hN.w1, hN.w30, ?_⟩
    walk_at "dw"
    refine ⟨by omega, by omega, ?_⟩
    refine ⟨b, m, r, ws, ⟨rfl, rfl, rfl⟩, hN, hS, fun x hx => ?_⟩
    refine ⟨b, m, r, ws, ⟨rfl, rfl, rfl⟩, hN, mset_same, ?_⟩
    rw [mset_mset]
    refine ⟨rfl, ?_⟩
    rw [mset_same]
    show lets kk _ _
    rw [mdel_mset hx]
    exact lets_me hk⟩
set_option maxHeartbeats 0 in
theorem ok_Rule_modulus {f : Addr} {fd : FuncData} (F : Fun K "modulus" "Rule.modulus" s_Rule_modulus f fd) (T : Txt mg) (TC_Rule : Cf_Rule K mg C_Rule) : FnOk P w K mg base CX0 1 f fd ["self"] (spD K 1 (W_get C_Rule fun _ m _ _ => .int (m : Nat))) :=
 fnD F sc_Rule_modulus fun cdv A outer s H E hr => have hu := hr.units; ⟨_, _, (qss_one (qs_ret (qe_fld TC_Rule.cl TC_Rule.n_divisor (qv 0)))), fun as M kk hl hw => by
  clear hr hu F T
  match as, hw with
  | [d], hw =>
    obtain ⟨b, m, r, ws, rfl, hN, hk⟩ := hw
    walk_at "dw"
    exact ⟨_, fs_div b m r ws, hk⟩⟩
set_option maxHeartbeats 0 in
theorem ok_Rule_rows {f : Addr} {fd : FuncData} (F : Fun K "rows" "Rule.rows" s_Rule_rows f fd) (T : Txt mg) (TC_Rule : Cf_Rule K mg C_Rule) : FnOk P w K mg base CX0 1 f fd ["self"] (spD K 1 (W_get C_Rule fun b m _ ws => rowsD b m ws)) :=
 fnD F sc_Rule_rows fun cdv A outer s H E hr => have hu := hr.units; ⟨_, _, (qss_one (qs_ret (qe_fld TC_Rule.cl TC_Rule.n_lines (qv 0)))), fun as M kk hl hw => by
  clear hr hu F T
  match as, hw with
  | [d], hw =>
    obtain ⟨b, m, r, ws, rfl, hN, hk⟩ := hw
    walk_at "dw"
    exact ⟨_, fs_lin b m r ws, hk⟩⟩
set_option maxHeartbeats 0 in
theorem ok_Rule_remainder {f : Addr} {fd : FuncData} (F : Fun K "remainder" "Rule.remainder" s_Rule_remainder f fd) (T : Txt mg) (TC_Rule : Cf_Rule K mg C_Rule) : FnOk P w K mg base CX0 1 f fd ["self"] (spD K 1 (W_get C_Rule fun _ _ r _ => .int (r : Nat))) :=
 fnD F sc_Rule_remainder fun cdv A outer s H E hr => have hu := hr.units; ⟨_, _, (qss_one (qs_ret (qe_fld TC_Rule.cl TC_Rule.n_wanted (qv 0)))), fun as M kk hl hw => by
  clear hr hu F T
  match as, hw with
  | [d], hw =>
    obtain ⟨b, m, r, ws, rfl, hN, hk⟩ := hw
    walk_at "dw"
    exact ⟨_, fs_wan b m r ws, hk⟩⟩
set_option maxHeartbeats 0 in
theorem ok_Rule_base {f : Addr} {fd : FuncData} (F : Fun K "base" "Rule.base" s_Rule_base f fd) (T : Txt mg) (TC_Rule : Cf_Rule K mg C_Rule) : FnOk P w K mg base CX0 1 f fd ["self"] (spD K 1 (W_get C_Rule fun b _ _ _ => .int (b : Nat))) :=
 fnD F sc_Rule_base fun cdv A outer s H E hr => have hu := hr.units; ⟨_, _, (qss_one (qs_ret (qe_bi qc_len rfl T.b_len bo_len (qa_cons (qix qx_seq (qe_fld TC_Rule.cl TC_Rule.n_lines (qv 0)) qi) qa_nil)))), fun as M kk hl hw => by
  clear hr hu F T
  match as, hw with
  | [d], hw =>
    obtain ⟨b, m, r, ws, rfl, hN, hk⟩ := hw
    have h1 := hN.w1
    obtain ⟨w0, wr, rfl⟩ : ∃ w0 wr, ws = w0 :: wr := by
      cases ws with
      | nil => exact absurd h1 (by decide)
      | cons a r => exact ⟨a, r, rfl⟩
    have g0 : atI (rowsL b m (w0 :: wr)) 0 = some (.tup (rowL b m w0)) := atI_nat (j := 0) rfl
    walk_at "dw"
    refine ⟨_, fs_lin b m r (w0 :: wr), ?_⟩
    unfold rowsD
    walk_at "dw"
    refine ⟨_, g0, ?_⟩
    walk_at "dw"
    rw [rowL_len]
    exact hk⟩
set_option maxHeartbeats 0 in
theorem ok_Rule_len {f : Addr} {fd : FuncData} (F : Fun K "__len__" "Rule.__len__" s_Rule___len__ f fd) (T : Txt mg) (TC_Rule : Cf_Rule K mg C_Rule) : FnOk P w K mg base CX0 1 f fd ["self"] (spD K 1 (W_get C_Rule fun _ _ _ ws => .int (ws.length : Nat))) :=
 fnD F sc_Rule___len__ fun cdv A outer s H E hr => have hu := hr.units; ⟨_, _, (qss_one (qs_ret (qe_bi qc_len rfl T.b_len bo_len (qa_cons (qe_fld TC_Rule.cl TC_Rule.n_lines (qv 0)) qa_nil)))), fun as M kk hl hw => by
  clear hr hu F T
  match as, hw with
  | [d], hw =>
    obtain ⟨b, m, r, ws, rfl, hN, hk⟩ := hw
    walk_at "dw"
    refine ⟨_, fs_lin b m r ws, ?_⟩
    unfold rowsD
    walk_at "dw"
    rw [rowsL_len]
    exact hk⟩
set_option maxHeartbeats 0 in
theorem ok_Rule_eq {f : Addr} {fd : FuncData} (F : Fun K "__eq__" "Rule.__eq__" s_Rule___eq__ f fd) (T : Txt mg) (TC_Rule : Cf_Rule K mg C_Rule) : FnOk P w K mg base CX0 1 f fd ["self", "other"] (spD K 2 (W_eq C_Rule)) :=
 fnD F sc_Rule___eq__ fun cdv A outer s H E hr => have hu := hr.units; ⟨_, _, (qss_cons (qs_if (qt_not (qtv (qe_bi (qc_isC TC_Rule.ic) rfl T.b_isinstance bo_isinstance (qa_cons (qv 1) (qa_cons (qgc TC_Rule.mg) qa_nil))))) (qss_one (qs_ret qb)) qss_nil)
  (qss_one (qs_ret (qe_and (qcmp (qo_eq hu) (qe_fld TC_Rule.cl TC_Rule.n_divisor (qv 0)) (qe_fld TC_Rule.cl TC_Rule.n_divisor (qv 1))) (qe_and (qcmp (qo_eq hu) (qe_fld TC_Rule.cl TC_Rule.n_lines (qv 0)) (qe_fld TC_Rule.cl TC_Rule.n_lines (qv 1))) (qe_one (qcmp (qo_eq hu) (qe_fld TC_Rule.cl TC_Rule.n_wanted (qv 0)) (qe_fld TC_Rule.cl TC_Rule.n_wanted (qv 1))))))))), fun as M kk hl hw => by
  clear hr hu F T
  match as, hw with
  | [d, e], hw =>
    obtain ⟨b, m, r, ws, ⟨rfl, rfl⟩, hN, hk⟩ := hw
    walk_at "dw"
    refine ⟨_, fs_div b m r ws, _, fs_div b m r ws, ?_⟩
    walk_at "dw"
    refine ⟨_, fs_lin b m r ws, _, fs_lin b m r ws, ?_⟩
    have ok := ok_rows b m ws 18
    have er := eqD_refl ok
    unfold rowsD at ok er ⊢
    walk_at "dw"
    refine ⟨⟨ok, ok⟩, ?_⟩
    rw [er]
    walk_at "dw"
    refine ⟨_, fs_wan b m r ws, _, fs_wan b m r ws, ?_⟩
    walk_at "dw"
    exact hk⟩
set_option maxHeartbeats 0 in
theorem ok_number_in {f : Addr} {fd : FuncData} (F : Fun K "number_in" "number_in" s_number_in f fd) (T : Txt mg) : FnOk P w K mg base CX0 1 f fd ["word", "most"] (spD K 2 W_number_in) :=
 fnD F sc_number_in fun cdv A outer s H E hr => have hu := hr.units; ⟨_, _, (qss_cons (qs_if (QW.qt (qw_or (qt_not (qt_chain qo_le qo_le qi (qe_bi qc_len rfl T.b_len bo_len (qa_cons (qv 0) qa_nil)) (qv 1))) (qw_or1 (qt_not (qtv (qe_bi (qc_all rfl) rfl T.b_all bo_all (qa_cons (qe_lc rfl sc_number_in.nd (qi_seq (qv 0)) (blkOk_by (own := [("sign", 2)]) (N := ["word", "most", "sign"]) (sc := defScope s_number_in) (by decide +kernel)) (fun _ _ _ _ _ => (qg_name (i := 2) sc_number_in.nd rfl (Or.inl rfl))) (fun _ _ _ _ _ => gwm1) (fun _ _ _ _ _ => qts_nil) (fun _ _ _ _ _ => (qcmp qo_in (qv 2) (qgs (z := "0123456789") T.c_FIGURES)))) qa_nil))))))) (qss_one (qs_ret qn)) qss_nil)
  (qss_one (qs_ret (qe_if (QW.qt (qw_and (qtcmp (qo_eq hu) (qix qx_seq (qv 0) qi) qs) (qw_and1 (qtcmp (qo_ne hu) (qv 0) qs)))) qn (qe_ty qc_int rfl T.b_int bo_int (qa_cons (qv 0) qa_nil)))))), fun as M kk hl hw => by
  clear hr hu F T
  match as, hw with
  | [.str z, .int most], hw =>
    obtain ⟨n, hz, rfl, hk⟩ := hw
    have e1 : decide ((1 : Int) ≤ ((z.length : Nat) : Int)) = true := decide_eq_true (by have := hz.l1; omega)
    have e2 : decide (((z.length : Nat) : Int) ≤ 3) = true := decide_eq_true (by have := hz.l3; omega)
    obtain ⟨c, r, hc, hz0⟩ := hz.hd
    have g0 : atI z.cps.toList 0 = some c := atI_nat (j := 0) (by rw [hc]; rfl)
    walk_at "dw"
    simp only [e1, e2]
    walk_at "dw"
    refine dLc_read (z.cps.toList.map fun c => .str ⟨#[c]⟩) (z.cps.toList.map fun _ => .bl true) (fun R h => ?_) (by rw [List.length_map, List.length_map]) (fun i d y Q hd hy hQ => ?_) ?_
    · simp only [diSeq]; walk_at "dw"; exact h
    · obtain ⟨x, hx, rfl⟩ := map_inv' hd
      obtain ⟨_, _, rfl⟩ := map_inv' hy
      have e3 := (hz.fg x (List.mem_of_getElem? hx)).1
      walk_at "dw"
      rw [e3]
      exact hQ
    · simp only [bAll]
      refine ⟨z.cps.toList.map fun _ => true, by rw [List.map_map]; rfl, ?_⟩
      have e5 : (z.cps.toList.map fun _ => true).all id = true := by simp
      simp only [e5]
      walk_at "dw"
      refine ⟨c, g0, ?_⟩
      have fin : bInt [.str z] M kk := ⟨_, ⟨hz.it, by have := hz.l3; omega⟩, hk⟩
      cases e6 : decide ((⟨#[c]⟩ : Str) = Str.ofString "0") with
      | false => simp only; exact fin
      | true =>
        cases e7 : decide (z = Str.ofString "0") with
        | false =>
          rw [show (("0" : Str)) = Str.ofString "0" from rfl, e6, e7] at hz0
          cases hz0
        | true => simp only [Bool.not_true]; exact fin⟩
set_option maxHeartbeats 0 in
theorem ok_read_weights {f : Addr} {fd : FuncData} (F : Fun K "read_weights" "read_weights" s_read_weights f fd) (T : Txt mg) (O_number_in : Cal P w K mg base 1 "number_in" ["word", "most"] W_number_in) (O_is_integer : Cal P w K mg base 1 "is_integer" ["value", "low", "high"] W_is_integer) : FnOk P w K mg base CX0 2 f fd ["text"] (spD K 1 W_read_weights) :=
 fnDl F sc_read_weights fun cdv A outer s H E hr => have hu := hr.units; ⟨_, _, (qss_cons (qs_set (i := 1) sc_read_weights.nd rfl (Or.inl rfl) (qe_lstM qa_nil))
  (qss_cons (qs_for PassesOwn.never rfl (qi_enum rfl T.b_enumerate (qa_cons (qe_split (qv 0) qs) qa_nil)) (qg_tup (n := 2) rfl (qgs_cons (qg_name (i := 2) sc_read_weights.nd rfl (Or.inl rfl)) (qgs_cons (qg_name (i := 3) sc_read_weights.nd rfl (Or.inl rfl)) qgs_nil))) (qss_cons (qs_set (i := 4) sc_read_weights.nd rfl (Or.inl rfl) (qe_call O_number_in.ok (hr.mono (by decide)) rfl O_number_in.mg O_number_in.kp O_number_in.bd .nil pass0 (fun _ _ => .nil) (qa_cons (qv 3) (qa_cons (qgi (n := 3) T.c_MOST_FIGURES) qa_nil))))
  (qss_cons (qs_if (QW.qt (qw_or (qtcmp qo_is (qv 4) qn) (qw_or1 (qtcmp (qo_eq hu) (qv 2) (qop qo_add (qgi (n := 3) T.c_HEAD) (qgi (n := 30) T.c_MOST_PLACES)))))) (qss_one (qs_ret (qe_tup (qa_cons (qv 1) (qa_cons (qv 2) qa_nil))))) qss_nil)
  (qss_cons (qs_asg (qe_if (qtcmp qo_lt (qv 2) qi) (qe_tup (qa_cons qi (qa_cons (qix qx_seq (qe_lst (qa_cons (qgi (n := 36) T.c_GREATEST_BASE) (qa_cons (qgi (n := 200) T.c_GREATEST_MODULUS) qa_nil))) (qv 2)) qa_nil))) (qe_tup (qa_cons qi (qa_cons (qop qo_sub (qix qx_seq (qv 1) qi) qi) qa_nil)))) (qg_tup (n := 2) rfl (qgs_cons (qg_name (i := 5) sc_read_weights.nd rfl (Or.inl rfl)) (qgs_cons (qg_name (i := 6) sc_read_weights.nd rfl (Or.inl rfl)) qgs_nil))))
  (qss_cons (qs_if (qt_not (qtv (qe_call O_is_integer.ok (hr.mono (by decide)) rfl O_is_integer.mg O_is_integer.kp O_is_integer.bd .nil pass0 (fun _ _ => .nil) (qa_cons (qv 4) (qa_cons (qv 5) (qa_cons (qv 6) qa_nil)))))) (qss_one (qs_ret (qe_tup (qa_cons (qv 1) (qa_cons (qv 2) qa_nil))))) qss_nil)
  (qss_one (qs_expr (qe_app (qv 1) (qv 4)))))))))
  (qss_one (qs_ret (qe_tup (qa_cons (qv 1) (qa_cons (qe_if (qtcmp qo_gt (qe_bi qc_len rfl T.b_len bo_len (qa_cons (qv 1) qa_nil)) (qgi (n := 3) T.c_HEAD)) qn (qe_bi qc_len rfl T.b_len bo_len (qa_cons (qv 1) qa_nil))) qa_nil))))))), fun as M kk hl hw => by
  clear hr hu F T
  match as, hw with
  | [d], hw =>
    obtain ⟨b, m, r, ws, rfl, hN, hk⟩ := hw
    have hle := nums_le hN
    have hne : numsL b m r ws ≠ [] := by unfold numsL; simp
    have hsp := split_text hne hle
    have hln : (numsL b m r ws).length ≤ 33 := by rw [nums_len]; have := hN.w30; omega
    have hb2 := hN.b2; have hb36 := hN.b36; have hm2 := hN.m2; have hm200 := hN.m200; have hrm := hN.rm
    walk_at "dw"
    intro p hp
    refine dFor_inv (enumD 0 ((numsL b m r ws).map fun n => .str (wS n))) (fun R h => ?_) (fun i E' M' => (∃ x2 x3 x4 x5 x6, E' = [some (.str (ptext (numsL b m r ws))), some (.ref p), x2, x3, x4, x5, x6]) ∧ M' = mset M p (.lst (((numsL b m r ws).take i).map nD))) ⟨⟨_, _, _, _, _, rfl⟩, rfl⟩ (fun i d E' M' hd hI => ?_) (fun E' M' hI => ?_)
    · simp only [diEnum]
      walk_at "dw"
      refine ⟨⟨by decide +kernel, Nat.le_trans (ptext_len hle hln) (by decide), ?_, ?_⟩, ?_⟩
      · rw [hsp, List.length_map]; omega
      · intro s hs
        rw [hsp] at hs
        obtain ⟨n, hn, rfl⟩ := List.mem_map.mp hs
        exact Nat.le_trans (word_of (hle n hn)).l3 (by decide)
      · rw [hsp, List.map_map]
        exact h
    · obtain ⟨⟨x2, x3, x4, x5, x6, rfl⟩, rfl⟩ := hI
      obtain ⟨z, hz, rfl⟩ := enum_inv hd
      obtain ⟨n, hn, rfl⟩ := map_inv' hz
      have hi : i < 33 := Nat.lt_of_lt_of_le (List.getElem?_eq_some_iff.mp hn).1 hln
      have hn200 := hle n (List.mem_of_getElem? hn)
      have e1 : decide (((i : Nat) : Int) = 33) = false := decide_eq_false (by omega)
      have hsn : ((numsL b m r ws).take i).map nD ++ [nD n] = ((numsL b m r ws).take (i + 1)).map nD := by rw [← take_snoc hn, List.map_append]; rfl
      have hln2 : (((numsL b m r ws).take i).map nD).length < 1000000 := by rw [List.length_map, List.length_take]; omega
      walk_at "dw"
      refine ⟨n, word_of hn200, rfl, ?_⟩
      walk_at "dw"
      simp only [e1]
      have fin : ∀ (lo hi : Int), lo ≤ ((n : Nat) : Int) → ((n : Nat) : Int) ≤ hi → isI (.int ((n : Nat) : Int)) (.int lo) (.int hi) = true := fun lo hi h1 h2 => isI_t h1 h2
      have done : ∀ x2 x3 x4 x5 x6, (∃ y2 y3 y4 y5 y6, [some (D.str (ptext (numsL b m r ws))), some (D.ref p), x2, x3, x4, x5, x6] = [some (.str (ptext (numsL b m r ws))), some (.ref p), y2, y3, y4, y5, y6]) := fun _ _ _ _ _ => ⟨_, _, _, _, _, rfl⟩
      have last : mset (mset M p (.lst (((numsL b m r ws).take i).map nD))) p (.lst (((numsL b m r ws).take i).map nD ++ [.int ((n : Nat) : Int)])) = mset M p (.lst (((numsL b m r ws).take (i + 1)).map nD)) := by rw [mset_mset, ← hsn]; rfl
      by_cases h0 : i = 0
      · subst h0
        have : n = b := by simpa [numsL] using hn.symm
        subst this
        have e2 : decide (((0 : Nat) : Int) < 2) = true := by decide
        simp only [e2]
        refine ⟨.int 36, atI_nat (j := 0) rfl, ?_⟩
        refine ⟨ty_i, .inr ⟨_, rfl⟩, .inr ⟨_, rfl⟩, ?_⟩
        rw [fin 2 36 (by omega) (by omega)]
        walk_at "dw"
        exact ⟨⟨_, mset_same⟩, _, mset_same, hln2, ⟨_, _, _, _, _, rfl⟩, last⟩
      · by_cases h1 : i = 1
        · subst h1
          have : n = m := by simpa [numsL] using hn.symm
          subst this
          have e2 : decide (((1 : Nat) : Int) < 2) = true := by decide
          simp only [e2]
          refine ⟨.int 200, atI_nat (j := 1) rfl, ?_⟩
          refine ⟨ty_i, .inr ⟨_, rfl⟩, .inr ⟨_, rfl⟩, ?_⟩
          rw [fin 2 200 (by omega) (by omega)]
          walk_at "dw"
          exact ⟨⟨_, mset_same⟩, _, mset_same, hln2, ⟨_, _, _, _, _, rfl⟩, last⟩
        · have e2 : decide (((i : Nat) : Int) < 2) = false := decide_eq_false (by omega)
          simp only [e2, ix_r mset_same]
          have g1 : (((numsL b m r ws).take i).map nD)[1]? = some (.int ((m : Nat) : Int)) := by
            rw [List.getElem?_map, List.getElem?_take_of_lt (by omega)]
            rfl
          have hnm : n < m := by
            obtain ⟨j, rfl⟩ : ∃ j, i = j + 2 := ⟨i - 2, by omega⟩
            have hn' : (r :: ws.map fun w => (w % ((m : Nat) : Int)).toNat)[j]? = some n := hn
            have hmem := List.mem_of_getElem? hn'
            rcases List.mem_cons.mp hmem with rfl | hmem
            · exact hrm
            · obtain ⟨w, _, rfl⟩ := List.mem_map.mp hmem
              have := Int.emod_lt_of_pos w (show (0 : Int) < ((m : Nat) : Int) by omega)
              omega
          refine ⟨_, atI_nat (j := 1) g1, ?_⟩
          walk_at "dw"
          refine ⟨ty_i, .inr ⟨_, rfl⟩, .inr ⟨_, rfl⟩, ?_⟩
          rw [fin 0 (((m : Nat) : Int) - 1) (by omega) (by omega)]
          walk_at "dw"
          exact ⟨⟨_, mset_same⟩, _, mset_same, hln2, ⟨_, _, _, _, _, rfl⟩, last⟩
    · obtain ⟨⟨x2, x3, x4, x5, x6, rfl⟩, rfl⟩ := hI
      rw [enumD_length, List.length_map, List.take_length]
      have e3 : decide ((3 : Int) < ((((numsL b m r ws).map nD).length : Nat) : Int)) = true := decide_eq_true (by rw [List.length_map, nums_len]; have := hN.w1; omega)
      walk_at "dw"
      simp only [len_r mset_same]
      walk_at "dw"
      simp only [e3]
      exact lets_me (hk p hp)⟩
set_option maxHeartbeats 0 in
theorem ok_rule_of_numbers {f : Addr} {fd : FuncData} (F : Fun K "rule_of_numbers" "rule_of_numbers" s_rule_of_numbers f fd) (T : Txt mg) (TC_Rule : Cf_Rule K mg C_Rule) (O_Rule_weighted : CalF P w K mg base 6 (FCls K C_Rule "weighted") ["cls", "base", "modulus", "weights", "remainder"] (W_weighted C_Rule)) : FnOk P w K mg base CX0 7 f fd ["numbers"] (spD K 1 (W_rule_of C_Rule)) :=
 fnD F sc_rule_of_numbers fun cdv A outer s H E hr => have hu := hr.units; ⟨_, _, (qss_cons (qs_asg (qv 0) (qg_star (i := 3) rfl (qgs_cons (qg_name (i := 1) sc_rule_of_numbers.nd rfl (Or.inl rfl)) (qgs_cons (qg_name (i := 2) sc_rule_of_numbers.nd rfl (Or.inl rfl)) (qgs_cons (qg_name (i := 3) sc_rule_of_numbers.nd rfl (Or.inl rfl)) (qgs_star (qg_name (i := 4) sc_rule_of_numbers.nd rfl (Or.inl rfl))))))))
  (qss_one (qs_ret (qe_cmeth TC_Rule.rd O_Rule_weighted.fk O_Rule_weighted.ok (hr.mono (by decide)) O_Rule_weighted.bd .nil (fun _ _ => .nil) (qgc TC_Rule.mg) (qa_cons (qv 1) (qa_cons (qv 2) (qa_cons (qe_ty qc_tup rfl T.b_tuple bo_tuple (qa_cons (qv 4) qa_nil)) (qa_cons (qv 3) qa_nil)))))))), fun as M kk hl hw => by
  clear hr hu F T
  match as, hw with
  | [.ref p], hw =>
    obtain ⟨b, m, r, ws, hM, hN, hk⟩ := hw
    have hm := hN.m2
    have e1 : ((numsL b m r ws).map nD).take 3 = [.int ((b : Nat) : Int), .int ((m : Nat) : Int), .int ((r : Nat) : Int)] := rfl
    have e2 : ((numsL b m r ws).map nD).drop 3 = ((ws.map fun w => (w % ((m : Nat) : Int)).toNat).map fun n : Nat => ((n : Nat) : Int)).map D.int := by
      rw [List.map_map]; rfl
    walk_at "dw"
    rw [vw_ref hM]
    walk_at "dw"
    rw [e1, e2]
    refine ⟨⟨by rw [List.length_map, nums_len]; omega, by rw [List.length_map, nums_len]; have := hN.w30; omega⟩, ?_⟩
    walk_at "dw"
    refine ⟨b, m, r, _, ⟨rfl, rfl, rfl, rfl, rfl⟩, ⟨hN.b2, hN.b36, hN.m2, hN.m200, hN.rm, by rw [List.length_map, List.length_map]; exact hN.w1, by rw [List.length_map, List.length_map]; exact hN.w30⟩, fun x hx => ?_, ?_⟩
    · obtain ⟨n, hn, rfl⟩ := List.mem_map.mp hx
      obtain ⟨w, _, rfl⟩ := List.mem_map.mp hn
      have h1 := Int.emod_lt_of_pos w (show (0 : Int) < ((m : Nat) : Int) by omega)
      have h2 := hN.m200
      exact Nat.lt_of_lt_of_le (show _ < 200 by omega) (by decide)
    · have e3 : fsD b m r ((ws.map fun w => (w % ((m : Nat) : Int)).toNat).map fun n : Nat => ((n : Nat) : Int)) = fsD b m r ws := by
        unfold fsD rowsD
        rw [tail_rows hN]
      rw [e3]
      exact hk⟩
set_option maxHeartbeats 0 in
theorem ok_format_weights {f : Addr} {fd : FuncData} (F : Fun K "format_weights" "format_weights" s_format_weights f fd) (T : Txt mg) (O_require_base : Cal P w K mg base 2 "require_base" ["value"] W_require_base) (O_require_modulus : Cal P w K mg base 2 "require_modulus" ["value"] W_require_modulus) (O_require_weights : Cal P w K mg base 2 "require_weights" ["value"] W_require_weights) (O_require_remainder : Cal P w K mg base 2 "require_remainder" ["value", "modulus"] W_require_remainder) : FnOk P w K mg base CX0 3 f fd ["base", "modulus", "weights", "remainder"] (spD K 4 W_format) :=
 fnD F sc_format_weights fun cdv A outer s H E hr => have hu := hr.units; ⟨_, _, (qss_cons (qs_expr (qe_call O_require_base.ok (hr.mono (by decide)) rfl O_require_base.mg O_require_base.kp O_require_base.bd .nil pass0 (fun _ _ => .nil) (qa_cons (qv 0) qa_nil)))
  (qss_cons (qs_expr (qe_call O_require_modulus.ok (hr.mono (by decide)) rfl O_require_modulus.mg O_require_modulus.kp O_require_modulus.bd .nil pass0 (fun _ _ => .nil) (qa_cons (qv 1) qa_nil)))
  (qss_cons (qs_expr (qe_call O_require_weights.ok (hr.mono (by decide)) rfl O_require_weights.mg O_require_weights.kp O_require_weights.bd .nil pass0 (fun _ _ => .nil) (qa_cons (qv 2) qa_nil)))
  (qss_cons (qs_expr (qe_call O_require_remainder.ok (hr.mono (by decide)) rfl O_require_remainder.mg O_require_remainder.kp O_require_remainder.bd .nil pass0 (fun _ _ => .nil) (qa_cons (qv 3) (qa_cons (qv 1) qa_nil))))
  (qss_cons (qs_set (i := 4) sc_format_weights.nd rfl (Or.inl rfl) (qop qo_add (qe_lst (qa_cons (qv 0) (qa_cons (qv 1) (qa_cons (qv 3) qa_nil)))) (qe_lc rfl sc_format_weights.nd (qi_seq (qv 2)) (blkOk_by (own := [("weight", 5)]) (N := ["base", "modulus", "weights", "remainder", "numbers", "weight", "number"]) (sc := defScope s_format_weights) (by decide +kernel)) (fun _ _ _ _ _ => (qg_name (i := 5) sc_format_weights.nd rfl (Or.inl rfl))) (fun _ _ _ _ _ => gwm1) (fun _ _ _ _ _ => qts_nil) (fun _ _ _ _ _ => (qop qo_mod (qv 5) (qv 1))))))
  (qss_one (qs_ret (qe_join qs (qe_lc rfl sc_format_weights.nd (qi_seq (qv 4)) (blkOk_by (own := [("number", 6)]) (N := ["base", "modulus", "weights", "remainder", "numbers", "weight", "number"]) (sc := defScope s_format_weights) (by decide +kernel)) (fun _ _ _ _ _ => (qg_name (i := 6) sc_format_weights.nd rfl (Or.inl rfl))) (fun _ _ _ _ _ => gwm1) (fun _ _ _ _ _ => qts_nil) (fun _ _ _ _ _ => (qe_ty qc_str rfl T.b_str bo_str (qa_cons (qv 6) qa_nil)))))))))))), fun as M kk hl hw => by
  clear hr hu F T
  match as, hw with
  | [bs, md, d, rm], hw =>
    obtain ⟨b, m, r, ws, ⟨rfl, rfl, rfl, rfl⟩, hN, hk⟩ := hw
    have hle := nums_le hN
    have hln : (numsL b m r ws).length ≤ 33 := by rw [nums_len]; have := hN.w30; omega
    have hws := words_sum hle hln
    have hm := hN.m2
    have ecat : [D.int ((b : Nat) : Int), .int ((m : Nat) : Int), .int ((r : Nat) : Int)] ++ (ws.map fun w => D.int (w % ((m : Nat) : Int))) = (numsL b m r ws).map nD := by
      unfold numsL
      rw [List.map_cons, List.map_cons, List.map_cons, List.map_map]
      have : (ws.map fun w => D.int (w % ((m : Nat) : Int))) = ws.map (nD ∘ fun w => (w % ((m : Nat) : Int)).toNat) := List.map_congr_left fun w _ => by
        show D.int _ = D.int _
        congr 1
        exact (Int.toNat_of_nonneg (Int.emod_nonneg w (by omega))).symm
      rw [this]
      rfl
    have h2 := hN.m200
    have h3 := hN.rm
    have h4 := hN.b2
    have h5 := hN.b36
    walk_at "dw"
    refine ⟨by omega, by omega, by omega, by omega, ws, rfl, hN.w1, hN.w30, ?_⟩
    walk_at "dw"
    refine ⟨by omega, by omega, ?_⟩
    unfold wD
    walk_at "dw"
    refine dLc_read (ws.map D.int) (ws.map fun w => .int (w % ((m : Nat) : Int))) (fun R h => ?_) (by rw [List.length_map, List.length_map]) (fun i d y Q hd hy hQ => ?_) ?_
    · simp only [diSeq]; walk_at "dw"; exact h
    · obtain ⟨w, hw, rfl⟩ := map_inv' hd
      rw [List.getElem?_map, hw] at hy
      cases hy
      walk_at "dw"
      exact ⟨by omega, hQ⟩
    · walk_at "dw"
      refine ⟨by rw [List.length_map]; have := hN.w30; omega, ?_⟩
      have ec2 := ecat
      simp only [List.cons_append, List.nil_append] at ec2
      rw [ec2]
      refine dLc_read ((numsL b m r ws).map nD) ((numsL b m r ws).map fun n => .str (wS n)) (fun R h => ?_) (by rw [List.length_map, List.length_map]) (fun i d y Q hd hy hQ => ?_) ?_
      · simp only [diSeq]; walk_at "dw"; exact h
      · obtain ⟨n, hn, rfl⟩ := map_inv' hd
        rw [List.getElem?_map, hn] at hy
        cases hy
        have hn2 := hle n (List.mem_of_getElem? hn)
        walk_at "dw"
        refine ⟨?_, hQ⟩
        have : n.log2 ≤ 8 := log2_le (show n < 2 ^ 8 by omega)
        show (((n : Nat) : Int)).natAbs.log2 < 1920
        rw [Int.natAbs_natCast]
        omega
      · refine ⟨(numsL b m r ws).map wS, by rw [List.map_map]; rfl, Nat.le_trans hws (by decide), ?_⟩
        exact hk⟩
set_option maxHeartbeats 0 in
theorem ok_parse_weights {f : Addr} {fd : FuncData} (F : Fun K "parse_weights" "parse_weights" s_parse_weights f fd) (T : Txt mg) (O_read_weights : Cal P w K mg base 2 "read_weights" ["text"] W_read_weights) (O_rule_of_numbers : Cal P w K mg base 7 "rule_of_numbers" ["numbers"] (W_rule_of C_Rule)) : FnOk P w K mg base CX0 8 f fd ["text"] (spD K 1 (W_parse C_Rule)) :=
 fnDl F sc_parse_weights fun cdv A outer s H E hr => have hu := hr.units; ⟨_, _, (qss_cons (qs_if (qt_not (qtv (qe_bi qc_isi rfl T.b_isinstance bo_isinstance (qa_cons (qv 0) (qa_cons (qtyn rfl T.b_str bo_str) qa_nil))))) (qss_one qs_never) qss_nil)
  (qss_cons (qs_asg (qe_call O_read_weights.ok (hr.mono (by decide)) rfl O_read_weights.mg O_read_weights.kp O_read_weights.bd .nil pass0 (fun _ _ => .nil) (qa_cons (qv 0) qa_nil)) (qg_tup (n := 2) rfl (qgs_cons (qg_name (i := 1) sc_parse_weights.nd rfl (Or.inl rfl)) (qgs_cons (qg_name (i := 2) sc_parse_weights.nd rfl (Or.inl rfl)) qgs_nil))))
  (qss_cons (qs_if (qtcmp qo_isnot (qv 2) qn) (qss_one qs_never) qss_nil)
  (qss_one (qs_ret (qe_call O_rule_of_numbers.ok (hr.mono (by decide)) rfl O_rule_of_numbers.mg O_rule_of_numbers.kp O_rule_of_numbers.bd .nil pass0 (fun _ _ => .nil) (qa_cons (qv 1) qa_nil))))))), fun as M kk hl hw => by
  clear hr hu F T
  match as, hw with
  | [d], hw =>
    obtain ⟨b, m, r, ws, rfl, hN, hk⟩ := hw
    walk_at "dw"
    refine ⟨b, m, r, ws, rfl, hN, fun p hp => ?_⟩
    walk_at "dw"
    exact ⟨b, m, r, ws, mset_same, hN, lets_one hp hk⟩⟩
set_option maxHeartbeats 0 in
theorem ok_l_purse {f : Addr} {fd : FuncData} (F : Fun K "_law_purse" "_law_purse" s__law_purse f fd) (T : Txt mg) : FnOk P w K mg base CX0 1 f fd ["script", "k"] (spD K 2 W_purse) :=
 fnD F sc__law_purse fun cdv A outer s H E hr => have hu := hr.units; ⟨_, _, (qss_cons (qs_set (i := 2) sc__law_purse.nd rfl (Or.inl rfl) (qe_if (qtcmp qo_lt (qv 1) (qe_bi qc_len rfl T.b_len bo_len (qa_cons (qv 0) qa_nil))) (qix qx_seq (qv 0) (qv 1)) qi))
  (qss_one (qs_ret (qe_lstM (qa_cons (qe_bi (qc_max rfl) rfl T.b_max bo_max (qa_cons qi (qa_cons (qop qo_sub (qe_bi qc_abs rfl T.b_abs bo_abs (qa_cons (qv 2) qa_nil)) (qop qo_pow qi qi)) qa_nil))) (qa_cons (qop qo_add (qop qo_add (qop qo_mul (qop qo_mod (qv 2) (qop qo_add (qop qo_pow qi qi) qi)) qi) (qop qo_mul qi (qv 1))) qi) (qa_cons qi qa_nil))))))), fun as M kk hl hw => by
  clear hr hu F T
  match as, hw with
  | [.scr ns, .int i], hw =>
    obtain ⟨h1, h2, hk⟩ := hw
    have p1 : CPowB 10 18 := cpow (by decide) (by decide) 4 (by decide)
    have p2 : CPowB 10 36 := cpow (by decide) (by decide) 4 (by decide)
    have m1 : CMulW 6007 i := cmul 13 7 (by decide) (by omega)
    have m2 : ∀ x : Int, CMulW (x % 1000000000000000000000000000000000067) 13 := fun x => cmul 130 4 (by omega) (by decide)
    have b1 : ∀ x : Int, 0 ≤ x % 1000000000000000000000000000000000067 * 13 + 6007 * i + 5 := fun x => by omega
    have b2 : ∀ x : Int, x % 1000000000000000000000000000000000067 * 13 + 6007 * i + 5 < 2 ^ 200 := fun x => by omega
    walk_at "dw"
    cases e : decide (i < ((ns.length : Nat) : Int)) <;> walk_at "dw"
    · exact ⟨p1, p2, m2 0, m1, fun p hp => hk p 0 _ hp (Int.le_refl _) (b1 0) (b2 0)⟩
    · obtain ⟨j, rfl⟩ := Int.eq_ofNat_of_zero_le h1
      have hj : j < ns.length := by have := of_decide_eq_true e; omega
      exact ⟨ns[j], atI_nat (List.getElem?_eq_getElem hj), p1, p2, m2 _, m1, fun p hp => hk p _ _ hp (by split <;> omega) (b1 _) (b2 _)⟩⟩
set_option maxHeartbeats 0 in
theorem ok_l_coin {f : Addr} {fd : FuncData} (F : Fun K "_law_coin" "_law_coin" s__law_coin f fd) (T : Txt mg) : FnOk P w K mg base CX0 1 f fd ["purse", "many"] (spD K 2 W_coin) :=
 fnD F sc__law_coin fun cdv A outer s H E hr => have hu := hr.units; ⟨_, _, (qss_cons (qs_if (qtcmp qo_gt (qix qx_seq (qv 0) qi) qi) (qss_cons (qs_set (i := 2) sc__law_coin.nd rfl (Or.inl rfl) (qop qo_mod (qix qx_seq (qv 0) qi) (qv 1)))
  (qss_cons (qs_asg (qop qo_div (qix qx_seq (qv 0) qi) (qv 1)) (qg_sub (qv 0) qi))
  (qss_one (qs_ret (qv 2))))) qss_nil)
  (qss_cons (qs_asg (qop qo_add (qix qx_seq (qv 0) qi) qi) (qg_sub (qv 0) qi))
  (qss_cons (qs_set (i := 3) sc__law_coin.nd rfl (Or.inl rfl) (qop qo_mod (qop qo_pow (qop qo_add (qix qx_seq (qv 0) qi) (qop qo_mul qi (qix qx_seq (qv 0) qi))) qi) (qop qo_add (qop qo_pow qi qi) qi)))
  (qss_cons (qs_set (i := 3) sc__law_coin.nd rfl (Or.inl rfl) (qop qo_mod (qop qo_pow (qop qo_add (qv 3) (qop qo_mul qi (qix qx_seq (qv 0) qi))) qi) (qop qo_add (qop qo_pow qi qi) qi)))
  (qss_one (qs_ret (qop qo_mod (qop qo_div (qv 3) qi) (qv 1)))))))), fun as M kk hl hw => by
  clear hr hu F T
  match as, hw with
  | [.ref p, .int many], hw =>
    obtain ⟨N, ⟨a, b, c, hM, ha, hb, hb2, hc, hcN⟩, hN, hm, hm2, hk⟩ := hw
    have hm0 : 0 < many := hm
    walk_at "dw"
    simp only [ix_r hM]
    refine ⟨.int a, rfl, ?_⟩
    walk_at "dw"
    cases e : decide ((0 : Int) < a)
    · simp only [ix_r hM]
      refine ⟨.int c, rfl, ?_⟩
      walk_at "dw"
      refine ⟨_, 2, hM, rfl, ?_⟩
      simp only [List.set_cons_succ, List.set_cons_zero, ix_r mset_same]
      refine ⟨.int b, rfl, .int (c + 1), rfl, ?_⟩
      walk_at "dw"
      refine ⟨cmul 30 50 (by decide) (by omega), cpow (by decide) (by decide) 202 (by omega), cpow (by decide) (by decide) 4 (by decide), ?_⟩
      simp only [ix_r mset_same]
      refine ⟨.int (c + 1), rfl, ?_⟩
      walk_at "dw"
      refine ⟨cmul 30 50 (by decide) (by omega), cpow (by decide) (by decide) 202 (by omega), cpow (by decide) (by decide) 4 (by decide), cdiv (by decide) 20 (by decide), hm0, ?_⟩
      exact hk _ _ (Int.emod_nonneg _ (by omega)) (Int.emod_lt_of_pos _ hm0) ⟨a, b, c + 1, mset_same, ha, hb, hb2, by omega, by omega⟩ fun q hq => mset_ne hq
    · simp only [ix_r hM]
      refine ⟨.int a, rfl, ?_⟩
      walk_at "dw"
      simp only [ix_r hM]
      refine ⟨hm0, .int a, rfl, ?_⟩
      walk_at "dw"
      refine ⟨cdiv hm0 1000 (by omega), _, 0, hM, rfl, ?_⟩
      exact hk _ _ (Int.emod_nonneg _ (by omega)) (Int.emod_lt_of_pos _ hm0) ⟨a / many, b, c, mset_same, Int.ediv_nonneg ha (by omega), hb, hb2, hc, by omega⟩ fun q hq => mset_ne hq⟩
set_option maxHeartbeats 0 in
theorem ok_l_numbers {f : Addr} {fd : FuncData} (F : Fun K "_law_numbers" "_law_numbers" s__law_numbers f fd) (T : Txt mg) (O_l_coin : Cal P w K mg base 1 "_law_coin" ["purse", "many"] W_coin) : FnOk P w K mg base CX0 2 f fd ["purse"] (spD K 1 W_numbers) :=
 fnDl F sc__law_numbers fun cdv A outer s H E hr => have hu := hr.units; ⟨_, _, (qss_cons (qs_set (i := 1) sc__law_numbers.nd rfl (Or.inl rfl) (qix qx_seq (qe_lst (qa_cons qi (qa_cons qi (qa_cons (qop qo_add qi (qe_call O_l_coin.ok (hr.mono (by decide)) rfl O_l_coin.mg O_l_coin.kp O_l_coin.bd .nil pass0 (fun _ _ => .nil) (qa_cons (qv 0) (qa_cons qi qa_nil)))) (qa_cons qi qa_nil))))) (qe_call O_l_coin.ok (hr.mono (by decide)) rfl O_l_coin.mg O_l_coin.kp O_l_coin.bd .nil pass0 (fun _ _ => .nil) (qa_cons (qv 0) (qa_cons qi qa_nil)))))
  (qss_cons (qs_set (i := 2) sc__law_numbers.nd rfl (Or.inl rfl) (qix qx_seq (qe_lst (qa_cons (qop qo_add qi (qe_call O_l_coin.ok (hr.mono (by decide)) rfl O_l_coin.mg O_l_coin.kp O_l_coin.bd .nil pass0 (fun _ _ => .nil) (qa_cons (qv 0) (qa_cons qi qa_nil)))) (qa_cons (qv 1) (qa_cons (qop qo_add qi (qe_call O_l_coin.ok (hr.mono (by decide)) rfl O_l_coin.mg O_l_coin.kp O_l_coin.bd .nil pass0 (fun _ _ => .nil) (qa_cons (qv 0) (qa_cons qi qa_nil)))) (qa_cons qi qa_nil))))) (qe_call O_l_coin.ok (hr.mono (by decide)) rfl O_l_coin.mg O_l_coin.kp O_l_coin.bd .nil pass0 (fun _ _ => .nil) (qa_cons (qv 0) (qa_cons qi qa_nil)))))
  (qss_cons (qs_set (i := 3) sc__law_numbers.nd rfl (Or.inl rfl) (qe_lstM qa_nil))
  (qss_cons (qs_for PassesOwn.never rfl (qi_range1 rfl T.b_range (qa_cons (qix qx_seq (qe_lst (qa_cons (qop qo_add qi (qe_call O_l_coin.ok (hr.mono (by decide)) rfl O_l_coin.mg O_l_coin.kp O_l_coin.bd .nil pass0 (fun _ _ => .nil) (qa_cons (qv 0) (qa_cons qi qa_nil)))) (qa_cons (qop qo_add qi (qe_call O_l_coin.ok (hr.mono (by decide)) rfl O_l_coin.mg O_l_coin.kp O_l_coin.bd .nil pass0 (fun _ _ => .nil) (qa_cons (qv 0) (qa_cons qi qa_nil)))) (qa_cons qi qa_nil)))) (qe_call O_l_coin.ok (hr.mono (by decide)) rfl O_l_coin.mg O_l_coin.kp O_l_coin.bd .nil pass0 (fun _ _ => .nil) (qa_cons (qv 0) (qa_cons qi qa_nil)))) qa_nil)) (qg_name (i := 4) sc__law_numbers.nd rfl (Or.inl rfl)) (qss_cons (qs_set (i := 5) sc__law_numbers.nd rfl (Or.inl rfl) (qe_lstM (qa_cons (qe_call O_l_coin.ok (hr.mono (by decide)) rfl O_l_coin.mg O_l_coin.kp O_l_coin.bd .nil pass0 (fun _ _ => .nil) (qa_cons (qv 0) (qa_cons (qv 2) qa_nil))) (qa_cons qi (qa_cons qi (qa_cons (qop qo_sub (qv 2) qi) (qa_cons (qv 2) (qa_cons (qop qo_sub qi (qe_call O_l_coin.ok (hr.mono (by decide)) rfl O_l_coin.mg O_l_coin.kp O_l_coin.bd .nil pass0 (fun _ _ => .nil) (qa_cons (qv 0) (qa_cons qi qa_nil)))) qa_nil))))))))
  (qss_cons (qs_expr (qe_app (qv 5) (qe_call O_l_coin.ok (hr.mono (by decide)) rfl O_l_coin.mg O_l_coin.kp O_l_coin.bd .nil pass0 (fun _ _ => .nil) (qa_cons (qv 0) (qa_cons (qop qo_pow qi qi) qa_nil)))))
  (qss_one (qs_expr (qe_app (qv 3) (qix qx_seq (qv 5) (qe_call O_l_coin.ok (hr.mono (by decide)) rfl O_l_coin.mg O_l_coin.kp O_l_coin.bd .nil pass0 (fun _ _ => .nil) (qa_cons (qv 0) (qa_cons (qe_bi qc_len rfl T.b_len bo_len (qa_cons (qv 5) qa_nil)) qa_nil))))))))))
  (qss_one (qs_ret (qe_tup (qa_cons (qv 1) (qa_cons (qv 2) (qa_cons (qe_ty qc_tup rfl T.b_tuple bo_tuple (qa_cons (qv 3) qa_nil)) (qa_cons (qix qx_seq (qe_lst (qa_cons qi (qa_cons (qe_call O_l_coin.ok (hr.mono (by decide)) rfl O_l_coin.mg O_l_coin.kp O_l_coin.bd .nil pass0 (fun _ _ => .nil) (qa_cons (qv 0) (qa_cons (qv 2) qa_nil))) qa_nil))) (qe_call O_l_coin.ok (hr.mono (by decide)) rfl O_l_coin.mg O_l_coin.kp O_l_coin.bd .nil pass0 (fun _ _ => .nil) (qa_cons (qv 0) (qa_cons qi qa_nil)))) qa_nil))))))))))), fun as M kk hl hw => by
  clear hr hu F T
  match as, hw with
  | [.ref p], hw =>
    obtain ⟨N, hP, hN6, hk⟩ := hw
    walk_at "dw"
    refine ⟨N, hP, by omega, by decide, by decide, fun r1 M1 a1 a2 hP1 c1 => ?_⟩
    have v1 : Pres p M M1 := Pres.refl.coin c1
    walk_at "dw"
    refine ⟨N + 1, hP1, by omega, by decide, by decide, fun r2 M2 b1 b2 hP2 c2 => ?_⟩
    have v2 := v1.coin c2
    walk_at "dw"
    obtain ⟨wide, hwd, hw2, hw36⟩ : ∃ wide : Nat, atI [D.int 2, .int 10, .int (2 + r1), .int 36] r2 = some (.int (wide : Nat)) ∧ 2 ≤ wide ∧ wide ≤ 36 := by
      have h3 : r2 = 0 ∨ r2 = 1 ∨ r2 = 2 ∨ r2 = 3 := by omega
      rcases h3 with rfl | rfl | rfl | rfl
      · exact ⟨2, rfl, by decide, by decide⟩
      · exact ⟨10, rfl, by decide, by decide⟩
      · exact ⟨(2 + r1).toNat, by show some (D.int (2 + r1)) = _; congr 2; omega, by omega, by omega⟩
      · exact ⟨36, rfl, by decide, by decide⟩
    refine ⟨_, hwd, ?_⟩
    refine ⟨N + 1 + 1, hP2, by omega, by decide, by decide, fun r3 M3 d1 d2 hP3 c3 => ?_⟩
    have v3 := v2.coin c3
    walk_at "dw"
    refine ⟨N + 1 + 1 + 1, hP3, by omega, by decide, by decide, fun r4 M4 e1 e2 hP4 c4 => ?_⟩
    have v4 := v3.coin c4
    walk_at "dw"
    refine ⟨N + 1 + 1 + 1 + 1, hP4, by omega, by decide, by decide, fun r5 M5 f1 f2 hP5 c5 => ?_⟩
    have v5 := v4.coin c5
    obtain ⟨most, hmo, hm2, hm200⟩ : ∃ most : Nat, atI [D.int (2 + r3), .int ((wide : Nat) : Int), .int (2 + r4), .int 200] r5 = some (.int (most : Nat)) ∧ 2 ≤ most ∧ most ≤ 200 := by
      have h3 : r5 = 0 ∨ r5 = 1 ∨ r5 = 2 ∨ r5 = 3 := by omega
      rcases h3 with rfl | rfl | rfl | rfl
      · exact ⟨(2 + r3).toNat, by show some (D.int (2 + r3)) = _; congr 2; omega, by omega, by omega⟩
      · exact ⟨wide, rfl, by omega, by omega⟩
      · exact ⟨(2 + r4).toNat, by show some (D.int (2 + r4)) = _; congr 2; omega, by omega, by omega⟩
      · exact ⟨200, rfl, by decide, by decide⟩
    walk_at "dw"
    refine ⟨_, hmo, fun f hf => ?_⟩
    have nfp := hP5.ne hf
    have Mf := v5.off nfp hf
    have v6 : Pres p M (mset M5 f (.lst [])) := v5.set Mf
    have hP6 : Pur (mset M5 f (.lst [])) p (N + 1 + 1 + 1 + 1 + 1) := hP5.set nfp
    refine dFor_run (fun ds M1 => (∃ n : Nat, 1 ≤ n ∧ n ≤ 30 ∧ ds = (List.range n).map fun i => .int (i : Nat)) ∧ Pur M1 p (N + 8) ∧ M1 f = some (.lst []) ∧ Pres p M M1) (fun R hR => ?_) (fun ds M7 hC => ?_)
    · simp only [diRange1]
      walk_at "dw"
      refine ⟨_, hP6, by omega, by decide, by decide, fun r6 M6 g1 g2 hP7 c6 => ?_⟩
      walk_at "dw"
      refine ⟨_, hP7, by omega, by decide, by decide, fun r7 M7 i1 i2 hP8 c7 => ?_⟩
      walk_at "dw"
      refine ⟨_, hP8, by omega, by decide, by decide, fun r8 M8 j1 j2 hP9 c8 => ?_⟩
      obtain ⟨size, hs, hs1, hs30⟩ : ∃ size : Nat, atI [D.int (1 + r6), D.int (1 + r7), D.int 30] r8 = some (.int (size : Nat)) ∧ 1 ≤ size ∧ size ≤ 30 := by
        have h3 : r8 = 0 ∨ r8 = 1 ∨ r8 = 2 := by omega
        rcases h3 with rfl | rfl | rfl
        · exact ⟨(1 + r6).toNat, by show some (D.int (1 + r6)) = _; congr 2; omega, by omega, by omega⟩
        · exact ⟨(1 + r7).toNat, by show some (D.int (1 + r7)) = _; congr 2; omega, by omega, by omega⟩
        · exact ⟨30, rfl, by decide, by decide⟩
      walk_at "dw"
      refine ⟨_, hs, ?_⟩
      walk_at "dw"
      refine ⟨by omega, by omega, hR _ _ ⟨⟨size, hs1, hs30, by simp⟩, hP9, ?_, ((v6.coin c6).coin c7).coin c8⟩⟩
      rw [c8 f nfp, c7 f nfp, c6 f nfp]
      exact mset_same
    · obtain ⟨⟨n, hn1, hn30, rfl⟩, hP7, hf7, v7⟩ := hC
      refine ⟨fun i E' M' => (∃ x y, E' = [some (.ref p), some (.int ((wide : Nat) : Int)), some (.int ((most : Nat) : Int)), some (.ref f), x, y]) ∧ ∃ (ws : List Int) (N' : Nat), M' f = some (.lst (ws.map D.int)) ∧ ws.length = i ∧ Small ws ∧ Pur M' p N' ∧ N' ≤ N + 8 + 4 * i ∧ Pres p M M',
        ⟨⟨_, _, rfl⟩, [], N + 8, hf7, rfl, fun w hw => (by cases hw), hP7, by omega, v7⟩, fun i d E' M' hd hI => ?_, fun E' M' hI => ?_⟩
      · obtain ⟨⟨x, y, rfl⟩, ws, N', hfw, hwl, hS, hP', hN', v'⟩ := hI
        obtain ⟨hi, rfl⟩ := range_inv hd
        walk_at "dw"
        refine ⟨N', hP', by omega, by omega, by omega, fun r9 M9 k1 k2 hP9 c9 => ?_⟩
        walk_at "dw"
        refine ⟨_, hP9, by omega, by decide, by decide, fun r10 M10 l1 l2 hP10 c10 => ?_⟩
        walk_at "dw"
        intro s hs
        have nsp := hP10.ne hs
        have hf10 : M10 f = some (.lst (ws.map D.int)) := by rw [c10 f nfp, c9 f nfp]; exact hfw
        have nsf : s ≠ f := fun e => by rw [e, hf10] at hs; cases hs
        have v10 := (v'.coin c9).coin c10
        have Ms := v10.off nsp hs
        refine ⟨⟨_, mset_same⟩, cpow (by decide) (by decide) 4 (by decide), ?_⟩
        refine ⟨_, hP10.set nsp, by omega, by decide, by decide, fun r11 M11 m1 m2 hP11 c11 => ?_⟩
        have hs11 : M11 s = some (.lst [.int r9, .int 0, .int 1, .int (((most : Nat) : Int) - 1), .int ((most : Nat) : Int), .int (0 - r10)]) := by rw [c11 s nsp]; exact mset_same
        refine ⟨_, hs11, by simp, ?_⟩
        have hf11 : M11 f = some (.lst (ws.map D.int)) := by rw [c11 f nfp, mset_ne (Ne.symm nsf)]; exact hf10
        refine ⟨⟨_, by rw [mset_ne (Ne.symm nsf)]; exact hf11⟩, ?_⟩
        simp only [len_r mset_same]
        rw [show ((([D.int r9, .int 0, .int 1, .int (((most : Nat) : Int) - 1), .int ((most : Nat) : Int), .int (0 - r10)] ++ [D.int r11]).length : Nat) : Int) = 7 from rfl]
        refine ⟨_, hP11.set nsp, by omega, by decide, by decide, fun r12 M12 n1 n2 hP12 c12 => ?_⟩
        have hs12 : M12 s = some (.lst [.int r9, .int 0, .int 1, .int (((most : Nat) : Int) - 1), .int ((most : Nat) : Int), .int (0 - r10), .int r11]) := by rw [c12 s nsp]; exact mset_same
        have hf12 : M12 f = some (.lst (ws.map D.int)) := by rw [c12 f nfp, mset_ne (Ne.symm nsf)]; exact hf11
        have Mf2 := Mf
        have v12 : Pres p M M12 := (((v10.set (u := .lst _) Ms).coin c11).set (u := .lst _) Ms).coin c12
        obtain ⟨w, hw, hwb⟩ : ∃ w : Int, atI [D.int r9, .int 0, .int 1, .int (((most : Nat) : Int) - 1), .int ((most : Nat) : Int), .int (0 - r10), .int r11] r12 = some (.int w) ∧ w.natAbs < 10 ^ 60 := by
          have h3 : r12 = 0 ∨ r12 = 1 ∨ r12 = 2 ∨ r12 = 3 ∨ r12 = 4 ∨ r12 = 5 ∨ r12 = 6 := by omega
          rcases h3 with rfl | rfl | rfl | rfl | rfl | rfl | rfl
          · exact ⟨_, rfl, by omega⟩
          · exact ⟨_, rfl, by decide⟩
          · exact ⟨_, rfl, by decide⟩
          · exact ⟨_, rfl, by omega⟩
          · exact ⟨_, rfl, by omega⟩
          · exact ⟨_, rfl, by omega⟩
          · exact ⟨_, rfl, by omega⟩
        simp only [ix_r hs12]
        refine ⟨_, hw, _, hf12, by rw [List.length_map, hwl]; omega, ⟨_, _, rfl⟩, ws ++ [w], _, ?_, by simp [hwl], fun z hz => ?_, hP12.set nfp, by omega, v12.set Mf⟩
        · rw [mset_same, List.map_append]; rfl
        · rcases List.mem_append.mp hz with hz | hz
          · exact hS z hz
          · rw [List.mem_singleton.mp hz]; exact hwb
      · obtain ⟨⟨x, y, rfl⟩, ws, N', hfw, hwl, hS, hP', hN', v'⟩ := hI
        rw [List.length_map, List.length_range] at hwl hN'
        walk_at "dw"
        simp only [tup_r hfw]
        refine ⟨N', hP', by omega, by omega, by omega, fun r9 M9 k1 k2 hP9 c9 => ?_⟩
        walk_at "dw"
        refine ⟨_, hP9, by omega, by decide, by decide, fun r10 M10 l1 l2 hP10 c10 => ?_⟩
        obtain ⟨r, hr, hrm⟩ : ∃ r : Nat, atI [D.int 0, D.int r9] r10 = some (.int (r : Nat)) ∧ r < most := by
          have h3 : r10 = 0 ∨ r10 = 1 := by omega
          rcases h3 with rfl | rfl
          · exact ⟨0, rfl, by omega⟩
          · exact ⟨r9.toNat, by show some (D.int r9) = _; congr 2; omega, by omega⟩
        walk_at "dw"
        refine ⟨_, hr, ?_⟩
        exact lets_me (hk wide most r ws M10 _ ⟨hw2, hw36, hm2, hm200, hrm, by omega, by omega⟩ hS hP10 (by omega) ((v'.coin c9).coin c10))⟩
set_option maxHeartbeats 0 in
theorem ok_l_page {f : Addr} {fd : FuncData} (F : Fun K "_law_page" "_law_page" s__law_page f fd) (T : Txt mg) : FnOk P w K mg base CX0 1 f fd ["numbers"] (spD K 1 W_page) :=
 fnD F sc__law_page fun cdv A outer s H E hr => have hu := hr.units; ⟨_, _, (qss_cons (qs_asg (qv 0) (qg_tup (n := 4) rfl (qgs_cons (qg_name (i := 1) sc__law_page.nd rfl (Or.inl rfl)) (qgs_cons (qg_name (i := 2) sc__law_page.nd rfl (Or.inr rfl)) (qgs_cons (qg_name (i := 3) sc__law_page.nd rfl (Or.inl rfl)) (qgs_cons (qg_name (i := 4) sc__law_page.nd rfl (Or.inl rfl)) qgs_nil))))))
  (qss_cons (qs_set (i := 5) sc__law_page.nd rfl (Or.inl rfl) (qop qo_add (qe_lst (qa_cons (qv 1) (qa_cons (qv 2) (qa_cons (qv 4) qa_nil)))) (qe_lc rfl sc__law_page.nd (qi_seq (qv 3)) (blkOk_by (own := [("load", 6)]) (N := ["numbers", "wide", "most", "loads", "wanted_here", "parts", "load", "part"]) (sc := defScope s__law_page) (by decide +kernel)) (fun _ _ _ _ _ => (qg_name (i := 6) sc__law_page.nd rfl (Or.inl rfl))) (fun _ _ _ _ _ => gwm1) (fun _ _ _ _ _ => qts_nil) (fun _ _ _ _ _ => (qop qo_mod (qv 6) (qv 2))))))
  (qss_one (qs_ret (qe_join qs (qe_lc rfl sc__law_page.nd (qi_seq (qv 5)) (blkOk_by (own := [("part", 7)]) (N := ["numbers", "wide", "most", "loads", "wanted_here", "parts", "load", "part"]) (sc := defScope s__law_page) (by decide +kernel)) (fun _ _ _ _ _ => (qg_name (i := 7) sc__law_page.nd rfl (Or.inl rfl))) (fun _ _ _ _ _ => gwm1) (fun _ _ _ _ _ => qts_nil) (fun _ _ _ _ _ => (qe_ty qc_str rfl T.b_str bo_str (qa_cons (qv 7) qa_nil))))))))), fun as M kk hl hw => by
  clear hr hu F T
  match as, hw with
  | [d], hw =>
    obtain ⟨b, m, r, ws, rfl, hN, hk⟩ := hw
    have hle := nums_le hN
    have hln : (numsL b m r ws).length ≤ 33 := by rw [nums_len]; have := hN.w30; omega
    have hws := words_sum hle hln
    have hm := hN.m2
    have ecat : [D.int ((b : Nat) : Int), .int ((m : Nat) : Int), .int ((r : Nat) : Int)] ++ (ws.map fun w => D.int (w % ((m : Nat) : Int))) = (numsL b m r ws).map nD := by
      unfold numsL
      rw [List.map_cons, List.map_cons, List.map_cons, List.map_map]
      have : (ws.map fun w => D.int (w % ((m : Nat) : Int))) = ws.map (nD ∘ fun w => (w % ((m : Nat) : Int)).toNat) := List.map_congr_left fun w _ => by
        show D.int _ = D.int _
        congr 1
        exact (Int.toNat_of_nonneg (Int.emod_nonneg w (by omega))).symm
      rw [this]
      rfl
    unfold numbersD wD
    walk_at "dw"
    refine dLc_read (ws.map D.int) (ws.map fun w => .int (w % ((m : Nat) : Int))) (fun R h => ?_) (by rw [List.length_map, List.length_map]) (fun i d y Q hd hy hQ => ?_) ?_
    · simp only [diSeq]; walk_at "dw"; exact h
    · obtain ⟨w, hw, rfl⟩ := map_inv' hd
      rw [List.getElem?_map, hw] at hy
      cases hy
      walk_at "dw"
      exact ⟨by omega, hQ⟩
    · walk_at "dw"
      refine ⟨by rw [List.length_map]; have := hN.w30; omega, ?_⟩
      have ec2 := ecat
      simp only [List.cons_append, List.nil_append] at ec2
      rw [ec2]
      refine dLc_read ((numsL b m r ws).map nD) ((numsL b m r ws).map fun n => .str (wS n)) (fun R h => ?_) (by rw [List.length_map, List.length_map]) (fun i d y Q hd hy hQ => ?_) ?_
      · simp only [diSeq]; walk_at "dw"; exact h
      · obtain ⟨n, hn, rfl⟩ := map_inv' hd
        rw [List.getElem?_map, hn] at hy
        cases hy
        have hn2 := hle n (List.mem_of_getElem? hn)
        walk_at "dw"
        refine ⟨?_, hQ⟩
        have : n.log2 ≤ 8 := log2_le (show n < 2 ^ 8 by omega)
        show (((n : Nat) : Int)).natAbs.log2 < 1920
        rw [Int.natAbs_natCast]
        omega
      · refine ⟨(numsL b m r ws).map wS, by rw [List.map_map]; rfl, Nat.le_trans hws (by decide), ?_⟩
        exact hk⟩
set_option maxHeartbeats 0 in
theorem ok_l_lines {f : Addr} {fd : FuncData} (F : Fun K "_law_lines" "_law_lines" s__law_lines f fd) (T : Txt mg) : FnOk P w K mg base CX0 1 f fd ["numbers"] (spD K 1 W_lines) :=
 fnDl F sc__law_lines fun cdv A outer s H E hr => have hu := hr.units; ⟨_, _, (qss_cons (qs_asg (qv 0) (qg_tup (n := 4) rfl (qgs_cons (qg_name (i := 1) sc__law_lines.nd rfl (Or.inl rfl)) (qgs_cons (qg_name (i := 2) sc__law_lines.nd rfl (Or.inr rfl)) (qgs_cons (qg_name (i := 3) sc__law_lines.nd rfl (Or.inl rfl)) (qgs_cons (qg_name (i := 4) sc__law_lines.nd rfl (Or.inl rfl)) qgs_nil))))))
  (qss_cons (qs_set (i := 5) sc__law_lines.nd rfl (Or.inl rfl) (qe_lstM qa_nil))
  (qss_cons (qs_for PassesOwn.never rfl (qi_seq (qv 3)) (qg_name (i := 6) sc__law_lines.nd rfl (Or.inr rfl)) (qss_one (qs_expr (qe_app (qv 5) (qe_ty qc_tup rfl T.b_tuple bo_tuple (qa_cons (qe_lc rfl sc__law_lines.nd (qi_range1 rfl T.b_range (qa_cons (qv 1) qa_nil)) (blkOk_by (own := [("digit", 7)]) (N := ["numbers", "wide", "most", "loads", "wanted_here", "found", "load", "digit"]) (sc := defScope s__law_lines) (by decide +kernel)) (fun _ _ _ _ _ => (qg_name (i := 7) sc__law_lines.nd rfl (Or.inl rfl))) (fun _ _ _ _ _ => gwm1) (fun _ _ _ _ _ => qts_nil) (fun _ _ _ _ _ => (qop qo_mod (qop qo_mul (qv 6) (qv 7)) (qv 2)))) qa_nil))))))
  (qss_one (qs_ret (qe_ty qc_tup rfl T.b_tuple bo_tuple (qa_cons (qv 5) qa_nil))))))), fun as M kk hl hw => by
  clear hr hu F T
  match as, hw with
  | [d], hw =>
    obtain ⟨b, m, r, ws, rfl, hN, hS, hk⟩ := hw
    have hb := hN.b36
    have hm := hN.m2
    unfold numbersD wD
    walk_at "dw"
    intro p hp
    refine dFor_inv (ws.map D.int) (fun R h => ?_) (fun i E' M' => (∃ x6 x7, E' = [some (.tup [.int ((b : Nat) : Int), .int ((m : Nat) : Int), .tup (ws.map D.int), .int ((r : Nat) : Int)]), some (.int ((b : Nat) : Int)), some (.int ((m : Nat) : Int)), some (.tup (ws.map D.int)), some (.int ((r : Nat) : Int)), some (.ref p), x6, x7]) ∧ M' = mset M p (.lst ((rowsL b m ws).take i))) ⟨⟨_, _, rfl⟩, rfl⟩ (fun i d E' M' hd hI => ?_) (fun E' M' hI => ?_)
    · simp only [diSeq]; walk_at "dw"; exact h
    · obtain ⟨⟨x6, x7, rfl⟩, rfl⟩ := hI
      obtain ⟨w, hw, rfl⟩ := map_inv' hd
      have hw2 := hS w (List.mem_of_getElem? hw)
      have hi : i < 30 := Nat.lt_of_lt_of_le (List.getElem?_eq_some_iff.mp hw).1 hN.w30
      have hrow : (rowsL b m ws)[i]? = some (.tup (rowL b m w)) := by unfold rowsL; rw [List.getElem?_map, hw]; rfl
      walk_at "dw"
      refine ⟨⟨_, mset_same⟩, ?_⟩
      refine dLc_read ((List.range b).map fun d => .int (d : Nat)) (rowL b m w) (fun R h => ?_) (by rw [rowL_len, List.length_map, List.length_range]) (fun j d y Q2 hd hy hQ2 => ?_) ?_
      · simp only [diRange1]; walk_at "dw"; exact ⟨by omega, by omega, by simpa using h⟩
      · obtain ⟨hj, rfl⟩ := range_inv hd
        obtain rfl := rowL_inv hy
        walk_at "dw"
        exact ⟨cmul 200 6 (Nat.lt_of_lt_of_le hw2 (by decide)) (by omega), by omega, hQ2⟩
      · walk_at "dw"
        exact ⟨_, mset_same, by rw [List.length_take]; omega, ⟨_, _, rfl⟩, by rw [mset_mset, ← take_snoc hrow]⟩
    · obtain ⟨⟨x6, x7, rfl⟩, rfl⟩ := hI
      have e : (rowsL b m ws).take (ws.map D.int).length = rowsL b m ws := by rw [List.length_map, ← rowsL_len b m ws, List.take_length]
      rw [e]
      walk_at "dw"
      rw [tup_r mset_same]
      exact lets_one hp hk⟩
set_option maxHeartbeats 0 in
theorem ok_l_right {f : Addr} {fd : FuncData} (F : Fun K "_law_right" "_law_right" s__law_right f fd) (T : Txt mg) (TC_Rule : Cf_Rule K mg C_Rule) (O_l_page : Cal P w K mg base 1 "_law_page" ["numbers"] W_page) (O_l_lines : Cal P w K mg base 1 "_law_lines" ["numbers"] W_lines) (O_format_weights : Cal P w K mg base 3 "format_weights" ["base", "modulus", "weights", "remainder"] W_format) (O_parse_weights : Cal P w K mg base 8 "parse_weights" ["text"] (W_parse C_Rule)) (O_Rule_len : CalF P w K mg base 1 (FSpec K C_Rule "__len__") ["self"] (W_get C_Rule fun _ _ _ ws => .int (ws.length : Nat))) (O_Rule_base : CalF P w K mg base 1 (FProp K C_Rule "base") ["self"] (W_get C_Rule fun b _ _ _ => .int (b : Nat))) (O_Rule_remainder : CalF P w K mg base 1 (FProp K C_Rule "remainder") ["self"] (W_get C_Rule fun _ _ r _ => .int (r : Nat))) (O_Rule_rows : CalF P w K mg base 1 (FProp K C_Rule "rows") ["self"] (W_get C_Rule fun b m _ ws => rowsD b m ws)) (O_Rule_modulus : CalF P w K mg base 1 (FProp K C_Rule "modulus") ["self"] (W_get C_Rule fun _ m _ _ => .int (m : Nat))) (O_Rule_weighted : CalF P w K mg base 6 (FCls K C_Rule "weighted") ["cls", "base", "modulus", "weights", "remainder"] (W_weighted C_Rule)) (O_Rule_eq : CalF P w K mg base 1 (FSpec K C_Rule "__eq__") ["self", "other"] (W_eq C_Rule)) (O_Rule_init : CalF P w K mg base 4 (FInit K C_Rule) ["self", "modulus", "rows", "remainder"] (W_init C_Rule)) (kb_O_format_weights_remainder_weights_modulus_base : KwB O_format_weights.fd ["base", "modulus", "weights", "remainder"] ["remainder", "weights", "modulus", "base"] [3, 2, 1, 0]) (kb_O_parse_weights_text : KwB O_parse_weights.fd ["text"] ["text"] [0]) : FnG P w K mg base 9 f fd 1 ["numbers"] (W_right) :=
 fnGl F sc__law_right fun cdv A outer s H E hgd hr => have hu := hr.units; ⟨_, _, (qss_cons (qs_asg (qv 0) (qg_tup (n := 4) rfl (qgs_cons (qg_name (i := 1) sc__law_right.nd rfl (Or.inl rfl)) (qgs_cons (qg_name (i := 2) sc__law_right.nd rfl (Or.inl rfl)) (qgs_cons (qg_name (i := 3) sc__law_right.nd rfl (Or.inl rfl)) (qgs_cons (qg_name (i := 4) sc__law_right.nd rfl (Or.inl rfl)) qgs_nil))))))
  (qss_cons (qs_set (i := 5) sc__law_right.nd rfl (Or.inl rfl) (qe_call O_l_page.ok (hr.mono (by decide)) rfl O_l_page.mg O_l_page.kp O_l_page.bd .nil pass0 (fun _ _ => .nil) (qa_cons (qv 0) qa_nil)))
  (qss_cons (qs_set (i := 6) sc__law_right.nd rfl (Or.inl rfl) (qe_call O_l_lines.ok (hr.mono (by decide)) rfl O_l_lines.mg O_l_lines.kp O_l_lines.bd .nil pass0 (fun _ _ => .nil) (qa_cons (qv 0) qa_nil)))
  (qss_cons (qs_set (i := 7) sc__law_right.nd rfl (Or.inl rfl) (qe_bi (qc_repr hgd hu) rfl T.b_repr bo_repr (qa_cons (qv 0) qa_nil)))
  (qss_cons (qs_set (i := 8) sc__law_right.nd rfl (Or.inl rfl) (qe_lstM (qa_cons (qe_call O_format_weights.ok (hr.mono (by decide)) rfl O_format_weights.mg O_format_weights.kp O_format_weights.bd .nil pass0 (fun _ _ => .nil) (qa_cons (qv 1) (qa_cons (qv 2) (qa_cons (qv 3) (qa_cons (qv 4) qa_nil))))) qa_nil)))
  (qss_cons (qs_asg (qv 0) (qg_tup (n := 4) rfl (qgs_cons (qg_name (i := 9) sc__law_right.nd rfl (Or.inl rfl)) (qgs_cons (qg_name (i := 10) sc__law_right.nd rfl (Or.inl rfl)) (qgs_cons (qg_name (i := 11) sc__law_right.nd rfl (Or.inl rfl)) (qgs_cons (qg_name (i := 12) sc__law_right.nd rfl (Or.inl rfl)) qgs_nil))))))
  (qss_cons (qs_expr (qe_app (qv 8) (qe_callP (perm := [3, 2, 1, 0]) (ks := ["remainder", "weights", "modulus", "base"]) O_format_weights.ok (hr.mono (by decide)) rfl O_format_weights.mg O_format_weights.kp kb_O_format_weights_remainder_weights_modulus_base (fun ds hl => match ds, hl with | [_, _, _, _], _ => rfl) (qk_cons (qv 12) (qk_cons (qv 11) (qk_cons (qv 10) (qk_cons (qv 9) qk_nil)))))))
  (qss_cons (qs_if (QW.qt (qw_or (qtcmp (qo_ne hu) (qe_bi (qc_repr hgd hu) rfl T.b_repr bo_repr (qa_cons (qv 8) qa_nil)) (qe_bi (qc_repr hgd hu) rfl T.b_repr bo_repr (qa_cons (qe_lst (qa_cons (qv 5) (qa_cons (qv 5) qa_nil))) qa_nil))) (qw_or1 (qtcmp (qo_ne hu) (qe_bi (qc_repr hgd hu) rfl T.b_repr bo_repr (qa_cons (qv 0) qa_nil)) (qv 7))))) (qss_one (qs_ret qb)) qss_nil)
  (qss_cons (qs_for PassesOwn.never rfl (qi_seq (qe_lst (qa_cons (qe_call O_parse_weights.ok (hr.mono (by decide)) rfl O_parse_weights.mg O_parse_weights.kp O_parse_weights.bd .nil pass0 (fun _ _ => .nil) (qa_cons (qv 5) qa_nil)) (qa_cons (qe_callP (perm := [0]) (ks := ["text"]) O_parse_weights.ok (hr.mono (by decide)) rfl O_parse_weights.mg O_parse_weights.kp kb_O_parse_weights_text (fun ds hl => match ds, hl with | [_], _ => rfl) (qk_cons (qv 5) qk_nil)) qa_nil)))) (qg_name (i := 13) sc__law_right.nd rfl (Or.inl rfl)) (qss_cons (qs_set (i := 14) sc__law_right.nd rfl (Or.inl rfl) (qe_lst (qa_cons (qe_prop TC_Rule.cl O_Rule_modulus.fk O_Rule_modulus.ok (hr.mono (by decide)) O_Rule_modulus.bd (qv 13)) (qa_cons (qe_prop TC_Rule.cl O_Rule_rows.fk O_Rule_rows.ok (hr.mono (by decide)) O_Rule_rows.bd (qv 13)) (qa_cons (qe_prop TC_Rule.cl O_Rule_remainder.fk O_Rule_remainder.ok (hr.mono (by decide)) O_Rule_remainder.bd (qv 13)) (qa_cons (qe_prop TC_Rule.cl O_Rule_base.fk O_Rule_base.ok (hr.mono (by decide)) O_Rule_base.bd (qv 13)) (qa_cons (qe_bi (qc_lenO O_Rule_len.fk.1 O_Rule_len.fk.2 O_Rule_len.ok (hr.mono (by decide)) O_Rule_len.bd) rfl T.b_len bo_len (qa_cons (qv 13) qa_nil)) qa_nil)))))))
  (qss_cons (qs_if (qtcmp (qo_ne hu) (qe_bi (qc_repr hgd hu) rfl T.b_repr bo_repr (qa_cons (qv 14) qa_nil)) (qe_bi (qc_repr hgd hu) rfl T.b_repr bo_repr (qa_cons (qe_lst (qa_cons (qv 2) (qa_cons (qv 6) (qa_cons (qv 4) (qa_cons (qv 1) (qa_cons (qe_bi qc_len rfl T.b_len bo_len (qa_cons (qv 3) qa_nil)) qa_nil)))))) qa_nil))) (qss_one (qs_ret qb)) qss_nil)
  (qss_cons (qs_set (i := 15) sc__law_right.nd rfl (Or.inl rfl) (qe_cmeth TC_Rule.rd O_Rule_weighted.fk O_Rule_weighted.ok (hr.mono (by decide)) O_Rule_weighted.bd .nil (fun _ _ => .nil) (qgc TC_Rule.mg) (qa_cons (qv 1) (qa_cons (qv 2) (qa_cons (qv 3) (qa_cons (qv 4) qa_nil))))))
  (qss_one (qs_if (QW.qt (qw_or (qt_not (qtcmp (qo_eqO O_Rule_eq.fk.1 O_Rule_eq.fk.2 O_Rule_eq.ok (hr.mono (by decide)) O_Rule_eq.bd) (qv 13) (qe_make O_Rule_init.fk O_Rule_init.ok (hr.mono (by decide)) rfl TC_Rule.mg O_Rule_init.bd .nil (fun _ _ => .nil) (qa_cons (qv 2) (qa_cons (qv 6) (qa_cons (qv 4) qa_nil)))))) (qw_or1 (qt_not (qtcmp (qo_eqO O_Rule_eq.fk.1 O_Rule_eq.fk.2 O_Rule_eq.ok (hr.mono (by decide)) O_Rule_eq.bd) (qv 13) (qv 15)))))) (qss_one (qs_ret qb)) qss_nil))))))
  (qss_one (qs_ret qb))))))))))), fun as M kk hl hw => by
  clear hr hu F T kb_O_format_weights_remainder_weights_modulus_base kb_O_parse_weights_text hgd
  match as, hw with
  | [d], hw =>
    obtain ⟨b, m, r, ws, rfl, hN, hS, hk⟩ := hw
    have hle := nums_le hN
    have hln : (numsL b m r ws).length ≤ 33 := by rw [nums_len]; have := hN.w30; omega
    have t1 := lt_numbers hN hS
    have t2 := lt_pages hN
    have t3 := lt_found hN
    unfold numbersD wD at t1
    unfold numbersD
    have h2 := hN.m200
    unfold wD
    walk_at "dw"
    refine ⟨b, m, r, ws, rfl, hN, ?_⟩
    walk_at "dw"
    refine ⟨b, m, r, ws, rfl, hN, hS, ?_⟩
    walk_at "dw"
    refine bRepr_of t1 (by decide) ?_
    walk_at "dw"
    refine ⟨b, m, r, ws, ⟨rfl, rfl, rfl, rfl⟩, hN, fun q hq => ?_⟩
    refine ⟨⟨_, mset_same⟩, ?_⟩
    refine ⟨b, m, r, ws, ⟨rfl, rfl, rfl, rfl⟩, hN, ?_⟩
    refine ⟨_, mset_same, by simp, ?_⟩
    rw [mset_mset]
    refine bRepr_of (by rw [vw_ref mset_same]; exact t2) (by decide) ?_
    rw [vw_ref mset_same]
    walk_at "dw"
    refine bRepr_of t2 (by decide) ?_
    walk_at "dw"
    refine bRepr_of t1 (by decide) ?_
    walk_at "dw"
    refine dFor_inv [.ins C_Rule (fsD b m r ws), .ins C_Rule (fsD b m r ws)] (fun R h => ?_) (fun i E' M' => (∃ x0 x5 x7 x8 x9 x10 x11 x12 x13 x14 x15, E' = [x0, some (.int ((b : Nat) : Int)), some (.int ((m : Nat) : Int)), some (.tup (ws.map D.int)), some (.int ((r : Nat) : Int)), x5, some (rowsD b m ws), x7, x8, x9, x10, x11, x12, x13, x14, x15]) ∧ M' = mset M q (.lst [.str (ptext (numsL b m r ws)), .str (ptext (numsL b m r ws))])) ⟨⟨_, _, _, _, _, _, _, _, _, _, _, rfl⟩, rfl⟩ (fun i d E' M' hd hI => ?_) (fun E' M' hI => ?_)
    · simp only [diSeq]
      walk_at "dw"
      refine ⟨b, m, r, ws, rfl, hN, ?_⟩
      refine ⟨b, m, r, ws, rfl, hN, ?_⟩
      exact h
    · obtain ⟨⟨x0, x5, x7, x8, x9, x10, x11, x12, x13, x14, x15, rfl⟩, rfl⟩ := hI
      obtain rfl : d = .ins C_Rule (fsD b m r ws) := by
        have hd2 := List.mem_of_getElem? hd
        simp only [List.mem_cons, List.not_mem_nil, or_false, or_self] at hd2
        exact hd2
      walk_at "dw"
      refine ⟨b, m, r, ws, rfl, hN, ?_⟩
      refine ⟨b, m, r, ws, rfl, hN, ?_⟩
      refine ⟨b, m, r, ws, rfl, hN, ?_⟩
      refine ⟨b, m, r, ws, rfl, hN, ?_⟩
      refine ⟨b, m, r, ws, rfl, hN, ws.length, rfl, by have := hN.w30; omega, ?_⟩
      simp only [List.length_map]
      refine bRepr_of t3 (by decide) ?_
      refine bRepr_of t3 (by decide) ?_
      walk_at "dw"
      refine ⟨b, m, r, ws, ⟨rfl, rfl, rfl, rfl, rfl⟩, hN, hS, ?_⟩
      walk_at "dw"
      intro x hx
      refine ⟨b, m, r, ws, ⟨rfl, rfl, rfl⟩, hN, mset_same, ?_⟩
      rw [mset_mset]
      refine ⟨rfl, ?_⟩
      rw [mset_same]
      dsimp only
      rw [mdel_mset hx]
      walk_at "dw"
      refine ⟨⟨b, m, r, ws, ⟨rfl, rfl⟩, hN, rfl⟩, ?_⟩
      refine ⟨⟨b, m, r, ws, ⟨rfl, rfl⟩, hN, rfl⟩, ?_⟩
      exact ⟨_, _, _, _, _, _, _, _, _, _, _, rfl⟩
    · obtain ⟨_, rfl⟩ := hI
      walk_at "dw"
      exact lets_one hq hk⟩
set_option maxHeartbeats 0 in
theorem ok_law {f : Addr} {fd : FuncData} (F : Fun K "law" "law" s_law f fd) (T : Txt mg) (O_l_purse : Cal P w K mg base 1 "_law_purse" ["script", "k"] W_purse) (O_l_right : CalG P w K mg base 9 "_law_right" ["numbers"] (W_right)) (O_l_numbers : Cal P w K mg base 2 "_law_numbers" ["purse"] W_numbers) (O_Rule_len : CalF P w K mg base 1 (FSpec K C_Rule "__len__") ["self"] (W_get C_Rule fun _ _ _ ws => .int (ws.length : Nat))) (O_parse_weights : Cal P w K mg base 8 "parse_weights" ["text"] (W_parse C_Rule)) (O_format_weights : Cal P w K mg base 3 "format_weights" ["base", "modulus", "weights", "remainder"] W_format) : FnG P w K mg base 10 f fd 1 ["script"] W_law :=
 fnGl F sc_law fun cdv A outer s H E hgd hr => have hu := hr.units; ⟨_, _, (qss_cons (qs_for PassesOwn.never rfl (qi_range1 rfl T.b_range (qa_cons (qe_bi (qc_max rfl) rfl T.b_max bo_max (qa_cons qi (qa_cons (qe_bi (qc_min rfl) rfl T.b_min bo_min (qa_cons qi (qa_cons (qe_bi qc_len rfl T.b_len bo_len (qa_cons (qv 0) qa_nil)) qa_nil))) qa_nil))) qa_nil)) (qg_name (i := 1) sc_law.nd rfl (Or.inl rfl)) (qss_cons (qs_set (i := 2) sc_law.nd rfl (Or.inl rfl) (qe_call O_l_purse.ok (hr.mono (by decide)) rfl O_l_purse.mg O_l_purse.kp O_l_purse.bd .nil pass0 (fun _ _ => .nil) (qa_cons (qv 0) (qa_cons (qv 1) qa_nil))))
  (qss_one (qs_for PassesOwn.never rfl (qi_range1 rfl T.b_range (qa_cons qi qa_nil)) (qg_name (i := 3) sc_law.nd rfl (Or.inl rfl)) (qss_one (qs_if (qt_not (qtv (qe_callG hgd O_l_right.ok (hr.mono (by decide)) rfl O_l_right.mg O_l_right.kp O_l_right.bd .nil (fun _ _ => .nil) (qa_cons (qe_call O_l_numbers.ok (hr.mono (by decide)) rfl O_l_numbers.mg O_l_numbers.kp O_l_numbers.bd .nil pass0 (fun _ _ => .nil) (qa_cons (qv 2) qa_nil)) qa_nil)))) (qss_one (qs_ret qb)) qss_nil))))))
  (qss_cons (qs_if (QW.qt (qw_or (qt_not (qtv (qe_callG hgd O_l_right.ok (hr.mono (by decide)) rfl O_l_right.mg O_l_right.kp O_l_right.bd .nil (fun _ _ => .nil) (qa_cons (qe_tup (qa_cons qi (qa_cons qi (qa_cons (qop qo_mulT (qe_tup (qa_cons qi qa_nil)) qi) (qa_cons qi qa_nil))))) qa_nil)))) (qw_or1 (qt_not (qtv (qe_callG hgd O_l_right.ok (hr.mono (by decide)) rfl O_l_right.mg O_l_right.kp O_l_right.bd .nil (fun _ _ => .nil) (qa_cons (qe_tup (qa_cons qi (qa_cons qi (qa_cons (qe_tup (qa_cons (qun qu_neg qi) qa_nil)) (qa_cons qi qa_nil))))) qa_nil))))))) (qss_one (qs_ret qb)) qss_nil)
  (qss_one (qs_ret (qe_and (qcmp (qo_eq hu) (qe_call O_format_weights.ok (hr.mono (by decide)) rfl O_format_weights.mg O_format_weights.kp O_format_weights.bd .nil pass0 (fun _ _ => .nil) (qa_cons qi (qa_cons qi (qa_cons (qe_tup (qa_cons qi (qa_cons qi (qa_cons qi qa_nil)))) (qa_cons qi qa_nil))))) qs) (qe_one (qcmp (qo_eq hu) (qe_bi (qc_lenO O_Rule_len.fk.1 O_Rule_len.fk.2 O_Rule_len.ok (hr.mono (by decide)) O_Rule_len.bd) rfl T.b_len bo_len (qa_cons (qe_call O_parse_weights.ok (hr.mono (by decide)) rfl O_parse_weights.mg O_parse_weights.kp O_parse_weights.bd .nil pass0 (fun _ _ => .nil) (qa_cons qs qa_nil)) qa_nil)) qi))))))), fun as M kk hl hw => by
  clear hr hu F T hgd
  match as, hw with
  | [.scr ns], hw =>
    obtain ⟨hn, hk⟩ := hw
    walk_at "dw"
    refine dFor_inv ((List.range (Int.toNat (if (if ((ns.length : Nat) : Int) < 6 then ((ns.length : Nat) : Int) else 6) > 1 then (if ((ns.length : Nat) : Int) < 6 then ((ns.length : Nat) : Int) else 6) else 1))).map fun i => .int (i : Nat)) (fun R h => ?_)
      (fun i E' M' => ∃ x1 x2 x3, E' = [some (.scr ns), x1, x2, x3]) ⟨_, _, _, rfl⟩ (fun i d E' M' hd hI => ?_) (fun E' M' hI => ?_)
    · simp only [diRange1]
      walk_at "dw"
      exact ⟨by split <;> split <;> omega, by split <;> split <;> omega, h⟩
    · obtain ⟨x1, x2, x3, rfl⟩ := hI
      obtain ⟨hi, rfl⟩ := range_inv hd
      have hi6 : i < 6 := by
        revert hi
        split <;> split <;> omega
      walk_at "dw"
      refine ⟨by omega, by omega, fun p a b hp ha hb hb2 => ?_⟩
      have hP := pur_new (M := M') (p := p) ha hb hb2
      refine dFor_inv ((List.range 4).map fun i => .int (i : Nat)) (fun R h => ?_) (fun j E' M' => (∃ x, E' = [some (.scr ns), some (.int ((i : Nat) : Int)), some (.ref p), x]) ∧ ∃ N, Pur M' p N ∧ N ≤ 200 * j) ⟨⟨_, rfl⟩, 0, hP, by omega⟩ (fun j d E' M' hd hI => ?_) (fun E' M' hI => ?_)
      · simp only [diRange1]; walk_at "dw"; exact h
      · obtain ⟨⟨x, rfl⟩, N, hN, hNj⟩ := hI
        obtain ⟨hj, rfl⟩ := range_inv hd
        walk_at "dw"
        refine ⟨N, hN, by omega, fun b m r ws M2 N2 hO hS hP2 hN2 _ => ?_⟩
        refine ⟨b, m, r, ws, rfl, hO, hS, ?_⟩
        walk_at "dw"
        exact ⟨⟨_, rfl⟩, N2, hP2, by omega⟩
      · obtain ⟨⟨x, rfl⟩, _⟩ := hI
        exact ⟨_, _, _, rfl⟩
    · obtain ⟨x1, x2, x3, rfl⟩ := hI
      walk_at "dw"
      refine ⟨by decide, ?_⟩
      refine ⟨36, 200, 199, List.replicate 30 199, rfl, ⟨by decide, by decide, by decide, by decide, by decide, by decide, by decide⟩, fun w hw => ?_, ?_⟩
      · rw [List.eq_of_mem_replicate hw]; decide
      walk_at "dw"
      refine ⟨2, 2, 1, [-1], rfl, ⟨by decide, by decide, by decide, by decide, by decide, by decide, by decide⟩, fun w hw => ?_, ?_⟩
      · rw [List.mem_singleton.mp hw]; decide
      walk_at "dw"
      refine ⟨10, 11, 0, [1, 2, 14], ⟨rfl, rfl, rfl, rfl⟩, ⟨by decide, by decide, by decide, by decide, by decide, by decide, by decide⟩, ?_⟩
      have e1 : decide (ptext (numsL 10 11 0 [1, 2, 14]) = Str.ofString "10 11 0 1 2 3") = true := by decide +kernel
      walk_at "dw"
      simp only [e1]
      refine ⟨2, 2, 0, [0], congrArg D.str (by decide +kernel), ⟨by decide, by decide, by decide, by decide, by decide, by decide, by decide⟩, ?_⟩
      walk_at "dw"
      refine ⟨2, 2, 0, [0], rfl, ⟨by decide, by decide, by decide, by decide, by decide, by decide, by decide⟩, 1, rfl, by decide, ?_⟩
      exact lets_any hk⟩
end
theorem all_mk {l : PySem.W.OpenLaw} {w : World} {K : PySem.W.Frag} {h : Heap} {mg : Str → Option Value} {fa f_is_integer f_is_row f_are_rows f_require_base f_require_modulus f_require_weights f_require_remainder f_weighted_rows f_Rule_init f_Rule_weighted f_Rule_modulus f_Rule_rows f_Rule_remainder f_Rule_base f_Rule_len f_Rule_eq f_number_in f_read_weights f_rule_of_numbers f_format_weights f_parse_weights f_l_purse f_l_coin f_l_numbers f_l_page f_l_lines f_l_right f_law C_Rule p_Rule_weighted p_Rule_modulus p_Rule_rows p_Rule_remainder p_Rule_base Td_Rule_weighted : Addr} (X : K.In h) (G : h.Ns mainGlobals mg) (hfa : mg "law" = some (.ref fa))
    {od_is_integer an_is_integer od_is_row an_is_row od_are_rows an_are_rows od_require_base an_require_base od_require_modulus an_require_modulus od_require_weights an_require_weights od_require_remainder an_require_remainder od_weighted_rows an_weighted_rows od_Rule_init an_Rule_init od_Rule_weighted an_Rule_weighted od_Rule_modulus an_Rule_modulus od_Rule_rows an_Rule_rows od_Rule_remainder an_Rule_remainder od_Rule_base an_Rule_base od_Rule_len an_Rule_len od_Rule_eq an_Rule_eq od_number_in an_number_in od_read_weights an_read_weights od_rule_of_numbers an_rule_of_numbers od_format_weights an_format_weights od_parse_weights an_parse_weights od_l_purse an_l_purse od_l_coin an_l_coin od_l_numbers an_l_numbers od_l_page an_l_page od_l_lines an_l_lines od_l_right an_l_right od_law an_law : Option Addr}
    {sl_is_integer sl_is_row sl_are_rows sl_require_base sl_require_modulus sl_require_weights sl_require_remainder sl_weighted_rows sl_Rule_init sl_Rule_weighted sl_Rule_modulus sl_Rule_rows sl_Rule_remainder sl_Rule_base sl_Rule_len sl_Rule_eq sl_number_in sl_read_weights sl_rule_of_numbers sl_format_weights sl_parse_weights sl_l_purse sl_l_coin sl_l_numbers sl_l_page sl_l_lines sl_l_right sl_law : Array (Option Value)}
    {oc_is_integer kV_is_integer dc_is_integer pm_is_integer cd_is_integer ct_is_integer oc_is_row kV_is_row dc_is_row pm_is_row cd_is_row ct_is_row oc_are_rows kV_are_rows dc_are_rows pm_are_rows cd_are_rows ct_are_rows oc_require_base kV_require_base dc_require_base pm_require_base cd_require_base ct_require_base oc_require_modulus kV_require_modulus dc_require_modulus pm_require_modulus cd_require_modulus ct_require_modulus oc_require_weights kV_require_weights dc_require_weights pm_require_weights cd_require_weights ct_require_weights oc_require_remainder kV_require_remainder dc_require_remainder pm_require_remainder cd_require_remainder ct_require_remainder oc_weighted_rows kV_weighted_rows dc_weighted_rows pm_weighted_rows cd_weighted_rows ct_weighted_rows oc_Rule_init kV_Rule_init dc_Rule_init pm_Rule_init cd_Rule_init ct_Rule_init oc_Rule_weighted kV_Rule_weighted dc_Rule_weighted pm_Rule_weighted cd_Rule_weighted ct_Rule_weighted oc_Rule_modulus kV_Rule_modulus dc_Rule_modulus pm_Rule_modulus cd_Rule_modulus ct_Rule_modulus oc_Rule_rows kV_Rule_rows dc_Rule_rows pm_Rule_rows cd_Rule_rows ct_Rule_rows oc_Rule_remainder kV_Rule_remainder dc_Rule_remainder pm_Rule_remainder cd_Rule_remainder ct_Rule_remainder oc_Rule_base kV_Rule_base dc_Rule_base pm_Rule_base cd_Rule_base ct_Rule_base oc_Rule_len kV_Rule_len dc_Rule_len pm_Rule_len cd_Rule_len ct_Rule_len oc_Rule_eq kV_Rule_eq dc_Rule_eq pm_Rule_eq cd_Rule_eq ct_Rule_eq oc_number_in kV_number_in dc_number_in pm_number_in cd_number_in ct_number_in oc_read_weights kV_read_weights dc_read_weights pm_read_weights cd_read_weights ct_read_weights oc_rule_of_numbers kV_rule_of_numbers dc_rule_of_numbers pm_rule_of_numbers cd_rule_of_numbers ct_rule_of_numbers oc_format_weights kV_format_weights dc_format_weights pm_format_weights cd_format_weights ct_format_weights oc_parse_weights kV_parse_weights dc_parse_weights pm_parse_weights cd_parse_weights ct_parse_weights oc_l_purse kV_l_purse dc_l_purse pm_l_purse cd_l_purse ct_l_purse oc_l_coin kV_l_coin dc_l_coin pm_l_coin cd_l_coin ct_l_coin oc_l_numbers kV_l_numbers dc_l_numbers pm_l_numbers cd_l_numbers ct_l_numbers oc_l_page kV_l_page dc_l_page pm_l_page cd_l_page ct_l_page oc_l_lines kV_l_lines dc_l_lines pm_l_lines cd_l_lines ct_l_lines oc_l_right kV_l_right dc_l_right pm_l_right cd_l_right ct_l_right oc_law kV_law dc_law pm_law cd_law ct_law : Value}
    (aC_Rule : PySem.W.nsIn K mainGlobals "Rule" = some (some (.ref C_Rule)))
    (pgC_Rule : PySem.W.plainGet K C_Rule Str.empty = true)
    (hdC_Rule : PySem.W.hasDictIn K C_Rule = true)
    (poC_Rule : PySem.W.plainOver K C_Rule = true)
    (saC_Rule : PySem.W.findIn K (.ref C_Rule) "__setattr__" = some (some (.builtin "object.__setattr__")))
    (haC_Rule : PySem.W.findIn K (.ref C_Rule) "__class__" = some (some (.builtin "object.__class__")))
    (hnC_Rule : PySem.W.specialIn K (.builtin "object.__class__") "__get__" = some (some (.builtin "getset_descriptor.__get__")))
    (htC_Rule : PySem.W.takesIn K (.builtin "object.__class__") = some true)
    (hmC_Rule : PySem.W.mroIn K C_Rule (.type "object") = some true)
    (rdC_Rule : PySem.W.readsIn K C_Rule (.type "type") = true)
    (gaC_Rule : PySem.W.specialIn K (.ref C_Rule) "__getattribute__" = some (some (.builtin "type.__getattribute__")))
    (nf_Rule_divisor : PySem.W.findIn K (.ref C_Rule) "divisor" = some none)
    (nf_Rule_lines : PySem.W.findIn K (.ref C_Rule) "lines" = some none)
    (nf_Rule_wanted : PySem.W.findIn K (.ref C_Rule) "wanted" = some none)
    (a_is_integer : PySem.W.nsIn K mainGlobals "is_integer" = some (some (.ref f_is_integer)))
    (l_is_integer : K.lookup f_is_integer = some ⟨oc_is_integer, od_is_integer, .func (PySem.W.fnOf "is_integer" "is_integer" (defArgs s_is_integer) (defBody s_is_integer) (defScope s_is_integer) .none kV_is_integer dc_is_integer pm_is_integer an_is_integer cd_is_integer ct_is_integer), sl_is_integer⟩)
    (c_is_integer : PySem.W.codeIn K cd_is_integer "is_integer" = true)
    (k_is_integer : PySem.W.keepIn K (.ref f_is_integer) = true)
    (a_is_row : PySem.W.nsIn K mainGlobals "is_row" = some (some (.ref f_is_row)))
    (l_is_row : K.lookup f_is_row = some ⟨oc_is_row, od_is_row, .func (PySem.W.fnOf "is_row" "is_row" (defArgs s_is_row) (defBody s_is_row) (defScope s_is_row) .none kV_is_row dc_is_row pm_is_row an_is_row cd_is_row ct_is_row), sl_is_row⟩)
    (c_is_row : PySem.W.codeIn K cd_is_row "is_row" = true)
    (k_is_row : PySem.W.keepIn K (.ref f_is_row) = true)
    (a_are_rows : PySem.W.nsIn K mainGlobals "are_rows" = some (some (.ref f_are_rows)))
    (l_are_rows : K.lookup f_are_rows = some ⟨oc_are_rows, od_are_rows, .func (PySem.W.fnOf "are_rows" "are_rows" (defArgs s_are_rows) (defBody s_are_rows) (defScope s_are_rows) .none kV_are_rows dc_are_rows pm_are_rows an_are_rows cd_are_rows ct_are_rows), sl_are_rows⟩)
    (c_are_rows : PySem.W.codeIn K cd_are_rows "are_rows" = true)
    (k_are_rows : PySem.W.keepIn K (.ref f_are_rows) = true)
    (a_require_base : PySem.W.nsIn K mainGlobals "require_base" = some (some (.ref f_require_base)))
    (l_require_base : K.lookup f_require_base = some ⟨oc_require_base, od_require_base, .func (PySem.W.fnOf "require_base" "require_base" (defArgs s_require_base) (defBody s_require_base) (defScope s_require_base) .none kV_require_base dc_require_base pm_require_base an_require_base cd_require_base ct_require_base), sl_require_base⟩)
    (c_require_base : PySem.W.codeIn K cd_require_base "require_base" = true)
    (k_require_base : PySem.W.keepIn K (.ref f_require_base) = true)
    (a_require_modulus : PySem.W.nsIn K mainGlobals "require_modulus" = some (some (.ref f_require_modulus)))
    (l_require_modulus : K.lookup f_require_modulus = some ⟨oc_require_modulus, od_require_modulus, .func (PySem.W.fnOf "require_modulus" "require_modulus" (defArgs s_require_modulus) (defBody s_require_modulus) (defScope s_require_modulus) .none kV_require_modulus dc_require_modulus pm_require_modulus an_require_modulus cd_require_modulus ct_require_modulus), sl_require_modulus⟩)
    (c_require_modulus : PySem.W.codeIn K cd_require_modulus "require_modulus" = true)
    (k_require_modulus : PySem.W.keepIn K (.ref f_require_modulus) = true)
    (a_require_weights : PySem.W.nsIn K mainGlobals "require_weights" = some (some (.ref f_require_weights)))
    (l_require_weights : K.lookup f_require_weights = some ⟨oc_require_weights, od_require_weights, .func (PySem.W.fnOf "require_weights" "require_weights" (defArgs s_require_weights) (defBody s_require_weights) (defScope s_require_weights) .none kV_require_weights dc_require_weights pm_require_weights an_require_weights cd_require_weights ct_require_weights), sl_require_weights⟩)
    (c_require_weights : PySem.W.codeIn K cd_require_weights "require_weights" = true)
    (k_require_weights : PySem.W.keepIn K (.ref f_require_weights) = true)
    (a_require_remainder : PySem.W.nsIn K mainGlobals "require_remainder" = some (some (.ref f_require_remainder)))
    (l_require_remainder : K.lookup f_require_remainder = some ⟨oc_require_remainder, od_require_remainder, .func (PySem.W.fnOf "require_remainder" "require_remainder" (defArgs s_require_remainder) (defBody s_require_remainder) (defScope s_require_remainder) .none kV_require_remainder dc_require_remainder pm_require_remainder an_require_remainder cd_require_remainder ct_require_remainder), sl_require_remainder⟩)
    (c_require_remainder : PySem.W.codeIn K cd_require_remainder "require_remainder" = true)
    (k_require_remainder : PySem.W.keepIn K (.ref f_require_remainder) = true)
    (a_weighted_rows : PySem.W.nsIn K mainGlobals "weighted_rows" = some (some (.ref f_weighted_rows)))
    (l_weighted_rows : K.lookup f_weighted_rows = some ⟨oc_weighted_rows, od_weighted_rows, .func (PySem.W.fnOf "weighted_rows" "weighted_rows" (defArgs s_weighted_rows) (defBody s_weighted_rows) (defScope s_weighted_rows) .none kV_weighted_rows dc_weighted_rows pm_weighted_rows an_weighted_rows cd_weighted_rows ct_weighted_rows), sl_weighted_rows⟩)
    (c_weighted_rows : PySem.W.codeIn K cd_weighted_rows "weighted_rows" = true)
    (k_weighted_rows : PySem.W.keepIn K (.ref f_weighted_rows) = true)
    (mk_Rule_init : PySem.W.makesIn K C_Rule = true)
    (a_Rule_init : PySem.W.findIn K (.ref C_Rule) "__init__" = some (some (.ref f_Rule_init)))
    (i_Rule_init : PySem.W.isFn K (.ref f_Rule_init) = true)
    (kc_Rule_init : PySem.W.keepIn K (.ref C_Rule) = true)
    (l_Rule_init : K.lookup f_Rule_init = some ⟨oc_Rule_init, od_Rule_init, .func (PySem.W.fnOf "__init__" "Rule.__init__" (defArgs s_Rule___init__) (defBody s_Rule___init__) (defScope s_Rule___init__) .none kV_Rule_init dc_Rule_init pm_Rule_init an_Rule_init cd_Rule_init ct_Rule_init), sl_Rule_init⟩)
    (c_Rule_init : PySem.W.codeIn K cd_Rule_init "Rule.__init__" = true)
    (k_Rule_init : PySem.W.keepIn K (.ref f_Rule_init) = true)
    (a_Rule_weighted : PySem.W.findCls K (.ref C_Rule) (.type "type") "weighted" = some (.get (.builtin "classmethod.__get__") (.ref p_Rule_weighted) .none (.ref C_Rule)))
    {rest_Rule_weighted : List Value}
    (r_Rule_weighted : PySem.W.recIn K p_Rule_weighted "classmethod" = some (.ref f_Rule_weighted :: rest_Rule_weighted))
    (fi_Rule_weighted : PySem.W.fnIn K f_Rule_weighted = true)
    (l_Rule_weighted : K.lookup f_Rule_weighted = some ⟨oc_Rule_weighted, od_Rule_weighted, .func (PySem.W.fnOf "weighted" "Rule.weighted" (defArgs s_Rule_weighted) (defBody s_Rule_weighted) (defScope s_Rule_weighted) (.ref Td_Rule_weighted) kV_Rule_weighted dc_Rule_weighted pm_Rule_weighted an_Rule_weighted cd_Rule_weighted ct_Rule_weighted), sl_Rule_weighted⟩)
    (c_Rule_weighted : PySem.W.codeIn K cd_Rule_weighted "Rule.weighted" = true)
    (k_Rule_weighted : PySem.W.keepIn K (.ref f_Rule_weighted) = true)
    {cT_Rule_weighted : Value} {dT_Rule_weighted : Option Addr} {nT_Rule_weighted : Nat} {slT_Rule_weighted : Array (Option Value)} {tk_Rule_weighted : Tok}
    (d_Rule_weighted : K.lookup Td_Rule_weighted = some ⟨cT_Rule_weighted, dT_Rule_weighted, .seq #[.int 0 tk_Rule_weighted] nT_Rule_weighted, slT_Rule_weighted⟩)
    (a_Rule_modulus : PySem.W.findIn K (.ref C_Rule) "modulus" = some (some (.ref p_Rule_modulus)))
    (g_Rule_modulus : PySem.W.specialIn K (.ref p_Rule_modulus) "__get__" = some (some (.builtin "property.__get__")))
    (t_Rule_modulus : PySem.W.takesIn K (.ref p_Rule_modulus) = some true)
    {rest_Rule_modulus : List Value}
    (r_Rule_modulus : PySem.W.recIn K p_Rule_modulus "property" = some (.ref f_Rule_modulus :: rest_Rule_modulus))
    (l_Rule_modulus : K.lookup f_Rule_modulus = some ⟨oc_Rule_modulus, od_Rule_modulus, .func (PySem.W.fnOf "modulus" "Rule.modulus" (defArgs s_Rule_modulus) (defBody s_Rule_modulus) (defScope s_Rule_modulus) .none kV_Rule_modulus dc_Rule_modulus pm_Rule_modulus an_Rule_modulus cd_Rule_modulus ct_Rule_modulus), sl_Rule_modulus⟩)
    (c_Rule_modulus : PySem.W.codeIn K cd_Rule_modulus "Rule.modulus" = true)
    (k_Rule_modulus : PySem.W.keepIn K (.ref f_Rule_modulus) = true)
    (a_Rule_rows : PySem.W.findIn K (.ref C_Rule) "rows" = some (some (.ref p_Rule_rows)))
    (g_Rule_rows : PySem.W.specialIn K (.ref p_Rule_rows) "__get__" = some (some (.builtin "property.__get__")))
    (t_Rule_rows : PySem.W.takesIn K (.ref p_Rule_rows) = some true)
    {rest_Rule_rows : List Value}
    (r_Rule_rows : PySem.W.recIn K p_Rule_rows "property" = some (.ref f_Rule_rows :: rest_Rule_rows))
    (l_Rule_rows : K.lookup f_Rule_rows = some ⟨oc_Rule_rows, od_Rule_rows, .func (PySem.W.fnOf "rows" "Rule.rows" (defArgs s_Rule_rows) (defBody s_Rule_rows) (defScope s_Rule_rows) .none kV_Rule_rows dc_Rule_rows pm_Rule_rows an_Rule_rows cd_Rule_rows ct_Rule_rows), sl_Rule_rows⟩)
    (c_Rule_rows : PySem.W.codeIn K cd_Rule_rows "Rule.rows" = true)
    (k_Rule_rows : PySem.W.keepIn K (.ref f_Rule_rows) = true)
    (a_Rule_remainder : PySem.W.findIn K (.ref C_Rule) "remainder" = some (some (.ref p_Rule_remainder)))
    (g_Rule_remainder : PySem.W.specialIn K (.ref p_Rule_remainder) "__get__" = some (some (.builtin "property.__get__")))
    (t_Rule_remainder : PySem.W.takesIn K (.ref p_Rule_remainder) = some true)
    {rest_Rule_remainder : List Value}
    (r_Rule_remainder : PySem.W.recIn K p_Rule_remainder "property" = some (.ref f_Rule_remainder :: rest_Rule_remainder))
    (l_Rule_remainder : K.lookup f_Rule_remainder = some ⟨oc_Rule_remainder, od_Rule_remainder, .func (PySem.W.fnOf "remainder" "Rule.remainder" (defArgs s_Rule_remainder) (defBody s_Rule_remainder) (defScope s_Rule_remainder) .none kV_Rule_remainder dc_Rule_remainder pm_Rule_remainder an_Rule_remainder cd_Rule_remainder ct_Rule_remainder), sl_Rule_remainder⟩)
    (c_Rule_remainder : PySem.W.codeIn K cd_Rule_remainder "Rule.remainder" = true)
    (k_Rule_remainder : PySem.W.keepIn K (.ref f_Rule_remainder) = true)
    (a_Rule_base : PySem.W.findIn K (.ref C_Rule) "base" = some (some (.ref p_Rule_base)))
    (g_Rule_base : PySem.W.specialIn K (.ref p_Rule_base) "__get__" = some (some (.builtin "property.__get__")))
    (t_Rule_base : PySem.W.takesIn K (.ref p_Rule_base) = some true)
    {rest_Rule_base : List Value}
    (r_Rule_base : PySem.W.recIn K p_Rule_base "property" = some (.ref f_Rule_base :: rest_Rule_base))
    (l_Rule_base : K.lookup f_Rule_base = some ⟨oc_Rule_base, od_Rule_base, .func (PySem.W.fnOf "base" "Rule.base" (defArgs s_Rule_base) (defBody s_Rule_base) (defScope s_Rule_base) .none kV_Rule_base dc_Rule_base pm_Rule_base an_Rule_base cd_Rule_base ct_Rule_base), sl_Rule_base⟩)
    (c_Rule_base : PySem.W.codeIn K cd_Rule_base "Rule.base" = true)
    (k_Rule_base : PySem.W.keepIn K (.ref f_Rule_base) = true)
    (a_Rule_len : PySem.W.findIn K (.ref C_Rule) "__len__" = some (some (.ref f_Rule_len)))
    (i_Rule_len : PySem.W.isFn K (.ref f_Rule_len) = true)
    (l_Rule_len : K.lookup f_Rule_len = some ⟨oc_Rule_len, od_Rule_len, .func (PySem.W.fnOf "__len__" "Rule.__len__" (defArgs s_Rule___len__) (defBody s_Rule___len__) (defScope s_Rule___len__) .none kV_Rule_len dc_Rule_len pm_Rule_len an_Rule_len cd_Rule_len ct_Rule_len), sl_Rule_len⟩)
    (c_Rule_len : PySem.W.codeIn K cd_Rule_len "Rule.__len__" = true)
    (k_Rule_len : PySem.W.keepIn K (.ref f_Rule_len) = true)
    (a_Rule_eq : PySem.W.findIn K (.ref C_Rule) "__eq__" = some (some (.ref f_Rule_eq)))
    (i_Rule_eq : PySem.W.isFn K (.ref f_Rule_eq) = true)
    (l_Rule_eq : K.lookup f_Rule_eq = some ⟨oc_Rule_eq, od_Rule_eq, .func (PySem.W.fnOf "__eq__" "Rule.__eq__" (defArgs s_Rule___eq__) (defBody s_Rule___eq__) (defScope s_Rule___eq__) .none kV_Rule_eq dc_Rule_eq pm_Rule_eq an_Rule_eq cd_Rule_eq ct_Rule_eq), sl_Rule_eq⟩)
    (c_Rule_eq : PySem.W.codeIn K cd_Rule_eq "Rule.__eq__" = true)
    (k_Rule_eq : PySem.W.keepIn K (.ref f_Rule_eq) = true)
    (a_number_in : PySem.W.nsIn K mainGlobals "number_in" = some (some (.ref f_number_in)))
    (l_number_in : K.lookup f_number_in = some ⟨oc_number_in, od_number_in, .func (PySem.W.fnOf "number_in" "number_in" (defArgs s_number_in) (defBody s_number_in) (defScope s_number_in) .none kV_number_in dc_number_in pm_number_in an_number_in cd_number_in ct_number_in), sl_number_in⟩)
    (c_number_in : PySem.W.codeIn K cd_number_in "number_in" = true)
    (k_number_in : PySem.W.keepIn K (.ref f_number_in) = true)
    (a_read_weights : PySem.W.nsIn K mainGlobals "read_weights" = some (some (.ref f_read_weights)))
    (l_read_weights : K.lookup f_read_weights = some ⟨oc_read_weights, od_read_weights, .func (PySem.W.fnOf "read_weights" "read_weights" (defArgs s_read_weights) (defBody s_read_weights) (defScope s_read_weights) .none kV_read_weights dc_read_weights pm_read_weights an_read_weights cd_read_weights ct_read_weights), sl_read_weights⟩)
    (c_read_weights : PySem.W.codeIn K cd_read_weights "read_weights" = true)
    (k_read_weights : PySem.W.keepIn K (.ref f_read_weights) = true)
    (a_rule_of_numbers : PySem.W.nsIn K mainGlobals "rule_of_numbers" = some (some (.ref f_rule_of_numbers)))
    (l_rule_of_numbers : K.lookup f_rule_of_numbers = some ⟨oc_rule_of_numbers, od_rule_of_numbers, .func (PySem.W.fnOf "rule_of_numbers" "rule_of_numbers" (defArgs s_rule_of_numbers) (defBody s_rule_of_numbers) (defScope s_rule_of_numbers) .none kV_rule_of_numbers dc_rule_of_numbers pm_rule_of_numbers an_rule_of_numbers cd_rule_of_numbers ct_rule_of_numbers), sl_rule_of_numbers⟩)
    (c_rule_of_numbers : PySem.W.codeIn K cd_rule_of_numbers "rule_of_numbers" = true)
    (k_rule_of_numbers : PySem.W.keepIn K (.ref f_rule_of_numbers) = true)
    (a_format_weights : PySem.W.nsIn K mainGlobals "format_weights" = some (some (.ref f_format_weights)))
    (l_format_weights : K.lookup f_format_weights = some ⟨oc_format_weights, od_format_weights, .func (PySem.W.fnOf "format_weights" "format_weights" (defArgs s_format_weights) (defBody s_format_weights) (defScope s_format_weights) .none kV_format_weights dc_format_weights pm_format_weights an_format_weights cd_format_weights ct_format_weights), sl_format_weights⟩)
    (c_format_weights : PySem.W.codeIn K cd_format_weights "format_weights" = true)
    (k_format_weights : PySem.W.keepIn K (.ref f_format_weights) = true)
    (a_parse_weights : PySem.W.nsIn K mainGlobals "parse_weights" = some (some (.ref f_parse_weights)))
    (l_parse_weights : K.lookup f_parse_weights = some ⟨oc_parse_weights, od_parse_weights, .func (PySem.W.fnOf "parse_weights" "parse_weights" (defArgs s_parse_weights) (defBody s_parse_weights) (defScope s_parse_weights) .none kV_parse_weights dc_parse_weights pm_parse_weights an_parse_weights cd_parse_weights ct_parse_weights), sl_parse_weights⟩)
    (c_parse_weights : PySem.W.codeIn K cd_parse_weights "parse_weights" = true)
    (k_parse_weights : PySem.W.keepIn K (.ref f_parse_weights) = true)
    (a_l_purse : PySem.W.nsIn K mainGlobals "_law_purse" = some (some (.ref f_l_purse)))
    (l_l_purse : K.lookup f_l_purse = some ⟨oc_l_purse, od_l_purse, .func (PySem.W.fnOf "_law_purse" "_law_purse" (defArgs s__law_purse) (defBody s__law_purse) (defScope s__law_purse) .none kV_l_purse dc_l_purse pm_l_purse an_l_purse cd_l_purse ct_l_purse), sl_l_purse⟩)
    (c_l_purse : PySem.W.codeIn K cd_l_purse "_law_purse" = true)
    (k_l_purse : PySem.W.keepIn K (.ref f_l_purse) = true)
    (a_l_coin : PySem.W.nsIn K mainGlobals "_law_coin" = some (some (.ref f_l_coin)))
    (l_l_coin : K.lookup f_l_coin = some ⟨oc_l_coin, od_l_coin, .func (PySem.W.fnOf "_law_coin" "_law_coin" (defArgs s__law_coin) (defBody s__law_coin) (defScope s__law_coin) .none kV_l_coin dc_l_coin pm_l_coin an_l_coin cd_l_coin ct_l_coin), sl_l_coin⟩)
    (c_l_coin : PySem.W.codeIn K cd_l_coin "_law_coin" = true)
    (k_l_coin : PySem.W.keepIn K (.ref f_l_coin) = true)
    (a_l_numbers : PySem.W.nsIn K mainGlobals "_law_numbers" = some (some (.ref f_l_numbers)))
    (l_l_numbers : K.lookup f_l_numbers = some ⟨oc_l_numbers, od_l_numbers, .func (PySem.W.fnOf "_law_numbers" "_law_numbers" (defArgs s__law_numbers) (defBody s__law_numbers) (defScope s__law_numbers) .none kV_l_numbers dc_l_numbers pm_l_numbers an_l_numbers cd_l_numbers ct_l_numbers), sl_l_numbers⟩)
    (c_l_numbers : PySem.W.codeIn K cd_l_numbers "_law_numbers" = true)
    (k_l_numbers : PySem.W.keepIn K (.ref f_l_numbers) = true)
    (a_l_page : PySem.W.nsIn K mainGlobals "_law_page" = some (some (.ref f_l_page)))
    (l_l_page : K.lookup f_l_page = some ⟨oc_l_page, od_l_page, .func (PySem.W.fnOf "_law_page" "_law_page" (defArgs s__law_page) (defBody s__law_page) (defScope s__law_page) .none kV_l_page dc_l_page pm_l_page an_l_page cd_l_page ct_l_page), sl_l_page⟩)
    (c_l_page : PySem.W.codeIn K cd_l_page "_law_page" = true)
    (k_l_page : PySem.W.keepIn K (.ref f_l_page) = true)
    (a_l_lines : PySem.W.nsIn K mainGlobals "_law_lines" = some (some (.ref f_l_lines)))
    (l_l_lines : K.lookup f_l_lines = some ⟨oc_l_lines, od_l_lines, .func (PySem.W.fnOf "_law_lines" "_law_lines" (defArgs s__law_lines) (defBody s__law_lines) (defScope s__law_lines) .none kV_l_lines dc_l_lines pm_l_lines an_l_lines cd_l_lines ct_l_lines), sl_l_lines⟩)
    (c_l_lines : PySem.W.codeIn K cd_l_lines "_law_lines" = true)
    (k_l_lines : PySem.W.keepIn K (.ref f_l_lines) = true)
    (a_l_right : PySem.W.nsIn K mainGlobals "_law_right" = some (some (.ref f_l_right)))
    (l_l_right : K.lookup f_l_right = some ⟨oc_l_right, od_l_right, .func (PySem.W.fnOf "_law_right" "_law_right" (defArgs s__law_right) (defBody s__law_right) (defScope s__law_right) .none kV_l_right dc_l_right pm_l_right an_l_right cd_l_right ct_l_right), sl_l_right⟩)
    (c_l_right : PySem.W.codeIn K cd_l_right "_law_right" = true)
    (k_l_right : PySem.W.keepIn K (.ref f_l_right) = true)
    (a_law : PySem.W.nsIn K mainGlobals "law" = some (some (.ref f_law)))
    (l_law : K.lookup f_law = some ⟨oc_law, od_law, .func (PySem.W.fnOf "law" "law" (defArgs s_law) (defBody s_law) (defScope s_law) .none kV_law dc_law pm_law an_law cd_law ct_law), sl_law⟩)
    (c_law : PySem.W.codeIn K cd_law "law" = true)
    (k_law : PySem.W.keepIn K (.ref f_law) = true)
    {t_MOST_PLACES t_GREATEST_BASE t_GREATEST_MODULUS t_FIGURES t_MOST_FIGURES t_HEAD : Tok}
    (y_MOST_PLACES : PySem.W.nsIn K mainGlobals "MOST_PLACES" = some (some (.int 30 t_MOST_PLACES)))
    (y_GREATEST_BASE : PySem.W.nsIn K mainGlobals "GREATEST_BASE" = some (some (.int 36 t_GREATEST_BASE)))
    (y_GREATEST_MODULUS : PySem.W.nsIn K mainGlobals "GREATEST_MODULUS" = some (some (.int 200 t_GREATEST_MODULUS)))
    (y_FIGURES : PySem.W.nsIn K mainGlobals "FIGURES" = some (some (.str "0123456789" t_FIGURES)))
    (y_MOST_FIGURES : PySem.W.nsIn K mainGlobals "MOST_FIGURES" = some (some (.int 3 t_MOST_FIGURES)))
    (y_HEAD : PySem.W.nsIn K mainGlobals "HEAD" = some (some (.int 3 t_HEAD)))
    (z_isinstance : PySem.W.nsIn K mainGlobals "isinstance" = some none)
    (z_int : PySem.W.nsIn K mainGlobals "int" = some none)
    (z_bool : PySem.W.nsIn K mainGlobals "bool" = some none)
    (z_tuple : PySem.W.nsIn K mainGlobals "tuple" = some none)
    (z_len : PySem.W.nsIn K mainGlobals "len" = some none)
    (z_all : PySem.W.nsIn K mainGlobals "all" = some none)
    (z_range : PySem.W.nsIn K mainGlobals "range" = some none)
    (z_enumerate : PySem.W.nsIn K mainGlobals "enumerate" = some none)
    (z_str : PySem.W.nsIn K mainGlobals "str" = some none)
    (z_max : PySem.W.nsIn K mainGlobals "max" = some none)
    (z_abs : PySem.W.nsIn K mainGlobals "abs" = some none)
    (z_repr : PySem.W.nsIn K mainGlobals "repr" = some none)
    (z_min : PySem.W.nsIn K mainGlobals "min" = some none)
    : ∃ fd : FuncData, (∀ (s : Shared) (v : Value), BindsTo s fd ⟨[v], []⟩ [("script", v)]) ∧ ∀ base : Heap, K.In base → base.Ns mainGlobals mg → FnG l.prog w K mg base 10 fa fd 1 ["script"] W_law := by
  have e := hfa.symm.trans (PySem.W.mg_of X G a_law)
  cases e
  have T : Txt mg := ⟨PySem.W.mg_none_of X G z_isinstance, PySem.W.mg_none_of X G z_int, PySem.W.mg_none_of X G z_bool, PySem.W.mg_none_of X G z_tuple, PySem.W.mg_none_of X G z_len, PySem.W.mg_none_of X G z_all, PySem.W.mg_none_of X G z_range, PySem.W.mg_none_of X G z_enumerate, PySem.W.mg_none_of X G z_str, PySem.W.mg_none_of X G z_max, PySem.W.mg_none_of X G z_abs, PySem.W.mg_none_of X G z_repr, PySem.W.mg_none_of X G z_min, ⟨_, PySem.W.mg_of X G y_MOST_PLACES⟩, ⟨_, PySem.W.mg_of X G y_GREATEST_BASE⟩, ⟨_, PySem.W.mg_of X G y_GREATEST_MODULUS⟩, ⟨_, PySem.W.mg_of X G y_FIGURES⟩, ⟨_, PySem.W.mg_of X G y_MOST_FIGURES⟩, ⟨_, PySem.W.mg_of X G y_HEAD⟩⟩
  have cl_C_Rule : Cls K C_Rule := ⟨pgC_Rule, hdC_Rule, poC_Rule, saC_Rule⟩
  have TC_Rule : Cf_Rule K mg C_Rule := ⟨cl_C_Rule, PySem.W.mg_of X G aC_Rule, ⟨cl_C_Rule, haC_Rule, hnC_Rule, htC_Rule, hmC_Rule, kit_self⟩, ⟨rdC_Rule, gaC_Rule⟩, nf_Rule_divisor, nf_Rule_lines, nf_Rule_wanted⟩
  have F_is_integer := fun_mk (st := s_is_integer) l_is_integer c_is_integer k_is_integer
  have b_is_integer := F_is_integer.binds (ps := ["value", "low", "high"]) fun _ _ _ _ _ _ us hl => match us, hl with | [_, _, _], _ => rfl
  have F_is_row := fun_mk (st := s_is_row) l_is_row c_is_row k_is_row
  have b_is_row := F_is_row.binds (ps := ["value", "length", "modulus"]) fun _ _ _ _ _ _ us hl => match us, hl with | [_, _, _], _ => rfl
  have F_are_rows := fun_mk (st := s_are_rows) l_are_rows c_are_rows k_are_rows
  have b_are_rows := F_are_rows.binds (ps := ["value", "modulus"]) fun _ _ _ _ _ _ us hl => match us, hl with | [_, _], _ => rfl
  have F_require_base := fun_mk (st := s_require_base) l_require_base c_require_base k_require_base
  have b_require_base := F_require_base.binds (ps := ["value"]) fun _ _ _ _ _ _ us hl => match us, hl with | [_], _ => rfl
  have F_require_modulus := fun_mk (st := s_require_modulus) l_require_modulus c_require_modulus k_require_modulus
  have b_require_modulus := F_require_modulus.binds (ps := ["value"]) fun _ _ _ _ _ _ us hl => match us, hl with | [_], _ => rfl
  have F_require_weights := fun_mk (st := s_require_weights) l_require_weights c_require_weights k_require_weights
  have b_require_weights := F_require_weights.binds (ps := ["value"]) fun _ _ _ _ _ _ us hl => match us, hl with | [_], _ => rfl
  have F_require_remainder := fun_mk (st := s_require_remainder) l_require_remainder c_require_remainder k_require_remainder
  have b_require_remainder := F_require_remainder.binds (ps := ["value", "modulus"]) fun _ _ _ _ _ _ us hl => match us, hl with | [_, _], _ => rfl
  have F_weighted_rows := fun_mk (st := s_weighted_rows) l_weighted_rows c_weighted_rows k_weighted_rows
  have b_weighted_rows := F_weighted_rows.binds (ps := ["base", "modulus", "weights"]) fun _ _ _ _ _ _ us hl => match us, hl with | [_, _, _], _ => rfl
  have F_Rule_init := fun_mk (st := s_Rule___init__) l_Rule_init c_Rule_init k_Rule_init
  have b_Rule_init := F_Rule_init.binds (ps := ["self", "modulus", "rows", "remainder"]) fun _ _ _ _ _ _ us hl => match us, hl with | [_, _, _, _], _ => rfl
  have F_Rule_weighted := funD_mk (st := s_Rule_weighted) (dvs := [.int 0]) (its := [.int 0 tk_Rule_weighted]) l_Rule_weighted c_Rule_weighted k_Rule_weighted d_Rule_weighted (.cons ⟨_, rfl⟩ .nil) (by simp)
  have b_Rule_weighted := bindsD (ps := ["cls", "base", "modulus", "weights", "remainder"]) F_Rule_weighted (by simp) fun _ _ _ _ _ _ _ us its hl hi => match us, hl, its, hi with | [_, _, _, _, _], _, [_], _ => ⟨_, rfl, rfl⟩
  have F_Rule_modulus := fun_mk (st := s_Rule_modulus) l_Rule_modulus c_Rule_modulus k_Rule_modulus
  have b_Rule_modulus := F_Rule_modulus.binds (ps := ["self"]) fun _ _ _ _ _ _ us hl => match us, hl with | [_], _ => rfl
  have F_Rule_rows := fun_mk (st := s_Rule_rows) l_Rule_rows c_Rule_rows k_Rule_rows
  have b_Rule_rows := F_Rule_rows.binds (ps := ["self"]) fun _ _ _ _ _ _ us hl => match us, hl with | [_], _ => rfl
  have F_Rule_remainder := fun_mk (st := s_Rule_remainder) l_Rule_remainder c_Rule_remainder k_Rule_remainder
  have b_Rule_remainder := F_Rule_remainder.binds (ps := ["self"]) fun _ _ _ _ _ _ us hl => match us, hl with | [_], _ => rfl
  have F_Rule_base := fun_mk (st := s_Rule_base) l_Rule_base c_Rule_base k_Rule_base
  have b_Rule_base := F_Rule_base.binds (ps := ["self"]) fun _ _ _ _ _ _ us hl => match us, hl with | [_], _ => rfl
  have F_Rule_len := fun_mk (st := s_Rule___len__) l_Rule_len c_Rule_len k_Rule_len
  have b_Rule_len := F_Rule_len.binds (ps := ["self"]) fun _ _ _ _ _ _ us hl => match us, hl with | [_], _ => rfl
  have F_Rule_eq := fun_mk (st := s_Rule___eq__) l_Rule_eq c_Rule_eq k_Rule_eq
  have b_Rule_eq := F_Rule_eq.binds (ps := ["self", "other"]) fun _ _ _ _ _ _ us hl => match us, hl with | [_, _], _ => rfl
  have F_number_in := fun_mk (st := s_number_in) l_number_in c_number_in k_number_in
  have b_number_in := F_number_in.binds (ps := ["word", "most"]) fun _ _ _ _ _ _ us hl => match us, hl with | [_, _], _ => rfl
  have F_read_weights := fun_mk (st := s_read_weights) l_read_weights c_read_weights k_read_weights
  have b_read_weights := F_read_weights.binds (ps := ["text"]) fun _ _ _ _ _ _ us hl => match us, hl with | [_], _ => rfl
  have F_rule_of_numbers := fun_mk (st := s_rule_of_numbers) l_rule_of_numbers c_rule_of_numbers k_rule_of_numbers
  have b_rule_of_numbers := F_rule_of_numbers.binds (ps := ["numbers"]) fun _ _ _ _ _ _ us hl => match us, hl with | [_], _ => rfl
  have F_format_weights := fun_mk (st := s_format_weights) l_format_weights c_format_weights k_format_weights
  have b_format_weights := F_format_weights.binds (ps := ["base", "modulus", "weights", "remainder"]) fun _ _ _ _ _ _ us hl => match us, hl with | [_, _, _, _], _ => rfl
  have F_parse_weights := fun_mk (st := s_parse_weights) l_parse_weights c_parse_weights k_parse_weights
  have b_parse_weights := F_parse_weights.binds (ps := ["text"]) fun _ _ _ _ _ _ us hl => match us, hl with | [_], _ => rfl
  have F_l_purse := fun_mk (st := s__law_purse) l_l_purse c_l_purse k_l_purse
  have b_l_purse := F_l_purse.binds (ps := ["script", "k"]) fun _ _ _ _ _ _ us hl => match us, hl with | [_, _], _ => rfl
  have F_l_coin := fun_mk (st := s__law_coin) l_l_coin c_l_coin k_l_coin
  have b_l_coin := F_l_coin.binds (ps := ["purse", "many"]) fun _ _ _ _ _ _ us hl => match us, hl with | [_, _], _ => rfl
  have F_l_numbers := fun_mk (st := s__law_numbers) l_l_numbers c_l_numbers k_l_numbers
  have b_l_numbers := F_l_numbers.binds (ps := ["purse"]) fun _ _ _ _ _ _ us hl => match us, hl with | [_], _ => rfl
  have F_l_page := fun_mk (st := s__law_page) l_l_page c_l_page k_l_page
  have b_l_page := F_l_page.binds (ps := ["numbers"]) fun _ _ _ _ _ _ us hl => match us, hl with | [_], _ => rfl
  have F_l_lines := fun_mk (st := s__law_lines) l_l_lines c_l_lines k_l_lines
  have b_l_lines := F_l_lines.binds (ps := ["numbers"]) fun _ _ _ _ _ _ us hl => match us, hl with | [_], _ => rfl
  have F_l_right := fun_mk (st := s__law_right) l_l_right c_l_right k_l_right
  have b_l_right := F_l_right.binds (ps := ["numbers"]) fun _ _ _ _ _ _ us hl => match us, hl with | [_], _ => rfl
  have F_law := fun_mk (st := s_law) l_law c_law k_law
  refine ⟨PySem.W.fnOf "law" "law" (defArgs s_law) (defBody s_law) (defScope s_law) .none kV_law dc_law pm_law an_law cd_law ct_law, fun s v => .of_eq rfl, fun base _ _ => ?_⟩
  let O_l_purse : Cal l.prog w K mg base 1 "_law_purse" ["script", "k"] W_purse := ⟨_, _, ok_l_purse F_l_purse T, PySem.W.mg_of X G a_l_purse, k_l_purse, b_l_purse⟩
  let O_l_page : Cal l.prog w K mg base 1 "_law_page" ["numbers"] W_page := ⟨_, _, ok_l_page F_l_page T, PySem.W.mg_of X G a_l_page, k_l_page, b_l_page⟩
  let O_l_lines : Cal l.prog w K mg base 1 "_law_lines" ["numbers"] W_lines := ⟨_, _, ok_l_lines F_l_lines T, PySem.W.mg_of X G a_l_lines, k_l_lines, b_l_lines⟩
  let O_is_integer : Cal l.prog w K mg base 1 "is_integer" ["value", "low", "high"] W_is_integer := ⟨_, _, ok_is_integer F_is_integer T, PySem.W.mg_of X G a_is_integer, k_is_integer, b_is_integer⟩
  let O_require_base : Cal l.prog w K mg base 2 "require_base" ["value"] W_require_base := ⟨_, _, ok_require_base F_require_base T O_is_integer, PySem.W.mg_of X G a_require_base, k_require_base, b_require_base⟩
  let O_require_modulus : Cal l.prog w K mg base 2 "require_modulus" ["value"] W_require_modulus := ⟨_, _, ok_require_modulus F_require_modulus T O_is_integer, PySem.W.mg_of X G a_require_modulus, k_require_modulus, b_require_modulus⟩
  let O_require_weights : Cal l.prog w K mg base 2 "require_weights" ["value"] W_require_weights := ⟨_, _, ok_require_weights F_require_weights T O_is_integer, PySem.W.mg_of X G a_require_weights, k_require_weights, b_require_weights⟩
  let O_require_remainder : Cal l.prog w K mg base 2 "require_remainder" ["value", "modulus"] W_require_remainder := ⟨_, _, ok_require_remainder F_require_remainder T O_is_integer, PySem.W.mg_of X G a_require_remainder, k_require_remainder, b_require_remainder⟩
  let O_format_weights : Cal l.prog w K mg base 3 "format_weights" ["base", "modulus", "weights", "remainder"] W_format := ⟨_, _, ok_format_weights F_format_weights T O_require_base O_require_modulus O_require_weights O_require_remainder, PySem.W.mg_of X G a_format_weights, k_format_weights, b_format_weights⟩
  let O_number_in : Cal l.prog w K mg base 1 "number_in" ["word", "most"] W_number_in := ⟨_, _, ok_number_in F_number_in T, PySem.W.mg_of X G a_number_in, k_number_in, b_number_in⟩
  let O_read_weights : Cal l.prog w K mg base 2 "read_weights" ["text"] W_read_weights := ⟨_, _, ok_read_weights F_read_weights T O_number_in O_is_integer, PySem.W.mg_of X G a_read_weights, k_read_weights, b_read_weights⟩
  let O_is_row : Cal l.prog w K mg base 2 "is_row" ["value", "length", "modulus"] W_is_row := ⟨_, _, ok_is_row F_is_row T O_is_integer, PySem.W.mg_of X G a_is_row, k_is_row, b_is_row⟩
  let O_are_rows : Cal l.prog w K mg base 3 "are_rows" ["value", "modulus"] W_are_rows := ⟨_, _, ok_are_rows F_are_rows T O_is_row, PySem.W.mg_of X G a_are_rows, k_are_rows, b_are_rows⟩
  let O_Rule_init : CalF l.prog w K mg base 4 (FInit K C_Rule) ["self", "modulus", "rows", "remainder"] (W_init C_Rule) := ⟨_, C_Rule, _, ok_Rule_init F_Rule_init T TC_Rule O_require_modulus O_are_rows O_require_remainder, ⟨mk_Rule_init, a_Rule_init, i_Rule_init, kc_Rule_init⟩, b_Rule_init⟩
  let O_weighted_rows : Cal l.prog w K mg base 1 "weighted_rows" ["base", "modulus", "weights"] W_weighted_rows := ⟨_, _, ok_weighted_rows F_weighted_rows T, PySem.W.mg_of X G a_weighted_rows, k_weighted_rows, b_weighted_rows⟩
  let O_Rule_weighted : CalF l.prog w K mg base 6 (FCls K C_Rule "weighted") ["cls", "base", "modulus", "weights", "remainder"] (W_weighted C_Rule) := ⟨_, p_Rule_weighted, _, ok_Rule_weighted F_Rule_weighted T O_require_base O_require_modulus O_require_weights O_require_remainder O_Rule_init O_weighted_rows, ⟨a_Rule_weighted, ⟨_, r_Rule_weighted⟩, fi_Rule_weighted⟩, b_Rule_weighted⟩
  let O_rule_of_numbers : Cal l.prog w K mg base 7 "rule_of_numbers" ["numbers"] (W_rule_of C_Rule) := ⟨_, _, ok_rule_of_numbers F_rule_of_numbers T TC_Rule O_Rule_weighted, PySem.W.mg_of X G a_rule_of_numbers, k_rule_of_numbers, b_rule_of_numbers⟩
  let O_parse_weights : Cal l.prog w K mg base 8 "parse_weights" ["text"] (W_parse C_Rule) := ⟨_, _, ok_parse_weights F_parse_weights T O_read_weights O_rule_of_numbers, PySem.W.mg_of X G a_parse_weights, k_parse_weights, b_parse_weights⟩
  let O_Rule_len : CalF l.prog w K mg base 1 (FSpec K C_Rule "__len__") ["self"] (W_get C_Rule fun _ _ _ ws => .int (ws.length : Nat)) := ⟨_, C_Rule, _, ok_Rule_len F_Rule_len T TC_Rule, ⟨a_Rule_len, i_Rule_len⟩, b_Rule_len⟩
  let O_Rule_base : CalF l.prog w K mg base 1 (FProp K C_Rule "base") ["self"] (W_get C_Rule fun b _ _ _ => .int (b : Nat)) := ⟨_, p_Rule_base, _, ok_Rule_base F_Rule_base T TC_Rule, ⟨a_Rule_base, g_Rule_base, t_Rule_base, ⟨_, r_Rule_base⟩⟩, b_Rule_base⟩
  let O_Rule_remainder : CalF l.prog w K mg base 1 (FProp K C_Rule "remainder") ["self"] (W_get C_Rule fun _ _ r _ => .int (r : Nat)) := ⟨_, p_Rule_remainder, _, ok_Rule_remainder F_Rule_remainder T TC_Rule, ⟨a_Rule_remainder, g_Rule_remainder, t_Rule_remainder, ⟨_, r_Rule_remainder⟩⟩, b_Rule_remainder⟩
  let O_Rule_rows : CalF l.prog w K mg base 1 (FProp K C_Rule "rows") ["self"] (W_get C_Rule fun b m _ ws => rowsD b m ws) := ⟨_, p_Rule_rows, _, ok_Rule_rows F_Rule_rows T TC_Rule, ⟨a_Rule_rows, g_Rule_rows, t_Rule_rows, ⟨_, r_Rule_rows⟩⟩, b_Rule_rows⟩
  let O_Rule_modulus : CalF l.prog w K mg base 1 (FProp K C_Rule "modulus") ["self"] (W_get C_Rule fun _ m _ _ => .int (m : Nat)) := ⟨_, p_Rule_modulus, _, ok_Rule_modulus F_Rule_modulus T TC_Rule, ⟨a_Rule_modulus, g_Rule_modulus, t_Rule_modulus, ⟨_, r_Rule_modulus⟩⟩, b_Rule_modulus⟩
  let O_Rule_eq : CalF l.prog w K mg base 1 (FSpec K C_Rule "__eq__") ["self", "other"] (W_eq C_Rule) := ⟨_, C_Rule, _, ok_Rule_eq F_Rule_eq T TC_Rule, ⟨a_Rule_eq, i_Rule_eq⟩, b_Rule_eq⟩
  let O_l_right : CalG l.prog w K mg base 9 "_law_right" ["numbers"] (W_right) := ⟨_, _, ok_l_right F_l_right T TC_Rule O_l_page O_l_lines O_format_weights O_parse_weights O_Rule_len O_Rule_base O_Rule_remainder O_Rule_rows O_Rule_modulus O_Rule_weighted O_Rule_eq O_Rule_init (fun s us hl => match us, hl with | [_, _, _, _], _ => .of_eq rfl) (fun s us hl => match us, hl with | [_], _ => .of_eq rfl), PySem.W.mg_of X G a_l_right, k_l_right, b_l_right⟩
  let O_l_coin : Cal l.prog w K mg base 1 "_law_coin" ["purse", "many"] W_coin := ⟨_, _, ok_l_coin F_l_coin T, PySem.W.mg_of X G a_l_coin, k_l_coin, b_l_coin⟩
  let O_l_numbers : Cal l.prog w K mg base 2 "_law_numbers" ["purse"] W_numbers := ⟨_, _, ok_l_numbers F_l_numbers T O_l_coin, PySem.W.mg_of X G a_l_numbers, k_l_numbers, b_l_numbers⟩
  exact ok_law F_law T O_l_purse O_l_right O_l_numbers O_Rule_len O_parse_weights O_format_weights
end QLaw
open PySem PySem.W PyProof.Rows in
set_option maxHeartbeats 0 in
theorem PySem.Challenge.cw_checkdigits_k55_weights_written_holds : PySem.Challenge.rw_checkdigits_k55_weights_written.Holds := by
  w_on; o_law; k_head; (case hw => w_witness2)
  k_fill
  refine Qd.law_walk (l := PySem.Challenge.rw_checkdigits_k55_weights_written) (k := 10) (W := QLaw.W_law) (x := "script") rfl rfl ⟨rfl, by decide, by decide⟩ (fun w h Y => PySem.W.kIn_of Y) ?F QLaw.law_starts
  case F =>
    intro w mg fa h KX G hmg
    refine' QLaw.all_mk KX G hmg ?aC_Rule ?pgC_Rule ?hdC_Rule ?poC_Rule ?saC_Rule ?haC_Rule ?hnC_Rule ?htC_Rule ?hmC_Rule ?rdC_Rule ?gaC_Rule ?nf_Rule_divisor ?nf_Rule_lines ?nf_Rule_wanted ?a_is_integer ?l_is_integer ?c_is_integer ?k_is_integer ?a_is_row ?l_is_row ?c_is_row ?k_is_row ?a_are_rows ?l_are_rows ?c_are_rows ?k_are_rows ?a_require_base ?l_require_base ?c_require_base ?k_require_base ?a_require_modulus ?l_require_modulus ?c_require_modulus ?k_require_modulus ?a_require_weights ?l_require_weights ?c_require_weights ?k_require_weights ?a_require_remainder ?l_require_remainder ?c_require_remainder ?k_require_remainder ?a_weighted_rows ?l_weighted_rows ?c_weighted_rows ?k_weighted_rows ?mk_Rule_init ?a_Rule_init ?i_Rule_init ?kc_Rule_init ?l_Rule_init ?c_Rule_init ?k_Rule_init ?a_Rule_weighted ?r_Rule_weighted ?fi_Rule_weighted ?l_Rule_weighted ?c_Rule_weighted ?k_Rule_weighted ?d_Rule_weighted ?a_Rule_modulus ?g_Rule_modulus ?t_Rule_modulus ?r_Rule_modulus ?l_Rule_modulus ?c_Rule_modulus ?k_Rule_modulus ?a_Rule_rows ?g_Rule_rows ?t_Rule_rows ?r_Rule_rows ?l_Rule_rows ?c_Rule_rows ?k_Rule_rows ?a_Rule_remainder ?g_Rule_remainder ?t_Rule_remainder ?r_Rule_remainder ?l_Rule_remainder ?c_Rule_remainder ?k_Rule_remainder ?a_Rule_base ?g_Rule_base ?t_Rule_base ?r_Rule_base ?l_Rule_base ?c_Rule_base ?k_Rule_base ?a_Rule_len ?i_Rule_len ?l_Rule_len ?c_Rule_len ?k_Rule_len ?a_Rule_eq ?i_Rule_eq ?l_Rule_eq ?c_Rule_eq ?k_Rule_eq ?a_number_in ?l_number_in ?c_number_in ?k_number_in ?a_read_weights ?l_read_weights ?c_read_weights ?k_read_weights ?a_rule_of_numbers ?l_rule_of_numbers ?c_rule_of_numbers ?k_rule_of_numbers ?a_format_weights ?l_format_weights ?c_format_weights ?k_format_weights ?a_parse_weights ?l_parse_weights ?c_parse_weights ?k_parse_weights ?a_l_purse ?l_l_purse ?c_l_purse ?k_l_purse ?a_l_coin ?l_l_coin ?c_l_coin ?k_l_coin ?a_l_numbers ?l_l_numbers ?c_l_numbers ?k_l_numbers ?a_l_page ?l_l_page ?c_l_page ?k_l_page ?a_l_lines ?l_l_lines ?c_l_lines ?k_l_lines ?a_l_right ?l_l_right ?c_l_right ?k_l_right ?a_law ?l_law ?c_law ?k_law ?y_MOST_PLACES ?y_GREATEST_BASE ?y_GREATEST_MODULUS ?y_FIGURES ?y_MOST_FIGURES ?y_HEAD ?z_isinstance ?z_int ?z_bool ?z_tuple ?z_len ?z_all ?z_range ?z_enumerate ?z_str ?z_max ?z_abs ?z_repr ?z_min
    (case aC_Rule => k_is)
    (case pgC_Rule => k_is)
    (case hdC_Rule => k_is)
    (case poC_Rule => k_is)
    (case saC_Rule => k_is)
    (case haC_Rule => k_is)
    (case hnC_Rule => k_is)
    (case htC_Rule => k_is)
    (case hmC_Rule => k_is)
    (case rdC_Rule => k_is)
    (case gaC_Rule => k_is)
    (case nf_Rule_divisor => k_is)
    (case nf_Rule_lines => k_is)
    (case nf_Rule_wanted => k_is)
    (case a_is_integer => k_is)
    (case l_is_integer => k_is)
    (case c_is_integer => k_is)
    (case k_is_integer => k_is)
    (case a_is_row => k_is)
    (case l_is_row => k_is)
    (case c_is_row => k_is)
    (case k_is_row => k_is)
    (case a_are_rows => k_is)
    (case l_are_rows => k_is)
    (case c_are_rows => k_is)
    (case k_are_rows => k_is)
    (case a_require_base => k_is)
    (case l_require_base => k_is)
    (case c_require_base => k_is)
    (case k_require_base => k_is)
    (case a_require_modulus => k_is)
    (case l_require_modulus => k_is)
    (case c_require_modulus => k_is)
    (case k_require_modulus => k_is)
    (case a_require_weights => k_is)
    (case l_require_weights => k_is)
    (case c_require_weights => k_is)
    (case k_require_weights => k_is)
    (case a_require_remainder => k_is)
    (case l_require_remainder => k_is)
    (case c_require_remainder => k_is)
    (case k_require_remainder => k_is)
    (case a_weighted_rows => k_is)
    (case l_weighted_rows => k_is)
    (case c_weighted_rows => k_is)
    (case k_weighted_rows => k_is)
    (case mk_Rule_init => k_is)
    (case a_Rule_init => k_is)
    (case i_Rule_init => k_is)
    (case kc_Rule_init => k_is)
    (case l_Rule_init => k_is)
    (case c_Rule_init => k_is)
    (case k_Rule_init => k_is)
    (case a_Rule_weighted => k_is)
    (case r_Rule_weighted => k_is)
    (case fi_Rule_weighted => k_is)
    (case l_Rule_weighted => k_is)
    (case c_Rule_weighted => k_is)
    (case k_Rule_weighted => k_is)
    (case d_Rule_weighted => k_is)
    (case a_Rule_modulus => k_is)
    (case g_Rule_modulus => k_is)
    (case t_Rule_modulus => k_is)
    (case r_Rule_modulus => k_is)
    (case l_Rule_modulus => k_is)
    (case c_Rule_modulus => k_is)
    (case k_Rule_modulus => k_is)
    (case a_Rule_rows => k_is)
    (case g_Rule_rows => k_is)
    (case t_Rule_rows => k_is)
    (case r_Rule_rows => k_is)
    (case l_Rule_rows => k_is)
    (case c_Rule_rows => k_is)
    (case k_Rule_rows => k_is)
    (case a_Rule_remainder => k_is)
    (case g_Rule_remainder => k_is)
    (case t_Rule_remainder => k_is)
    (case r_Rule_remainder => k_is)
    (case l_Rule_remainder => k_is)
    (case c_Rule_remainder => k_is)
    (case k_Rule_remainder => k_is)
    (case a_Rule_base => k_is)
    (case g_Rule_base => k_is)
    (case t_Rule_base => k_is)
    (case r_Rule_base => k_is)
    (case l_Rule_base => k_is)
    (case c_Rule_base => k_is)
    (case k_Rule_base => k_is)
    (case a_Rule_len => k_is)
    (case i_Rule_len => k_is)
    (case l_Rule_len => k_is)
    (case c_Rule_len => k_is)
    (case k_Rule_len => k_is)
    (case a_Rule_eq => k_is)
    (case i_Rule_eq => k_is)
    (case l_Rule_eq => k_is)
    (case c_Rule_eq => k_is)
    (case k_Rule_eq => k_is)
    (case a_number_in => k_is)
    (case l_number_in => k_is)
    (case c_number_in => k_is)
    (case k_number_in => k_is)
    (case a_read_weights => k_is)
    (case l_read_weights => k_is)
    (case c_read_weights => k_is)
    (case k_read_weights => k_is)
    (case a_rule_of_numbers => k_is)
    (case l_rule_of_numbers => k_is)
    (case c_rule_of_numbers => k_is)
    (case k_rule_of_numbers => k_is)
    (case a_format_weights => k_is)
    (case l_format_weights => k_is)
    (case c_format_weights => k_is)
    (case k_format_weights => k_is)
    (case a_parse_weights => k_is)
    (case l_parse_weights => k_is)
    (case c_parse_weights => k_is)
    (case k_parse_weights => k_is)
    (case a_l_purse => k_is)
    (case l_l_purse => k_is)
    (case c_l_purse => k_is)
    (case k_l_purse => k_is)
    (case a_l_coin => k_is)
    (case l_l_coin => k_is)
    (case c_l_coin => k_is)
    (case k_l_coin => k_is)
    (case a_l_numbers => k_is)
    (case l_l_numbers => k_is)
    (case c_l_numbers => k_is)
    (case k_l_numbers => k_is)
    (case a_l_page => k_is)
    (case l_l_page => k_is)
    (case c_l_page => k_is)
    (case k_l_page => k_is)
    (case a_l_lines => k_is)
    (case l_l_lines => k_is)
    (case c_l_lines => k_is)
    (case k_l_lines => k_is)
    (case a_l_right => k_is)
    (case l_l_right => k_is)
    (case c_l_right => k_is)
    (case k_l_right => k_is)
    (case a_law => k_is)
    (case l_law => k_is)
    (case c_law => k_is)
    (case k_law => k_is)
    (case y_MOST_PLACES => k_is)
    (case y_GREATEST_BASE => k_is)
    (case y_GREATEST_MODULUS => k_is)
    (case y_FIGURES => k_is)
    (case y_MOST_FIGURES => k_is)
    (case y_HEAD => k_is)
    (case z_isinstance => k_is)
    (case z_int => k_is)
    (case z_bool => k_is)
    (case z_tuple => k_is)
    (case z_len => k_is)
    (case z_all => k_is)
    (case z_range => k_is)
    (case z_enumerate => k_is)
    (case z_str => k_is)
    (case z_max => k_is)
    (case z_abs => k_is)
    (case z_repr => k_is)
    (case z_min => k_is)
